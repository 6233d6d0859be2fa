import PyProof.Rows.All
import HandS.SetFor
import HandS.Strs
import Wide.All
import OpenK.AllK
import Wide.FinOn
import HandS.ForMost
import PyProof.DictUpdate
import HandS.Star
import HandS.IsInst
import HandS.Wide
import HandS.Defaults
import HandS.CallSlots
import HandS.RaiseMore
import KE.GoesEnum
import KE.GoesMore
import HandS.Small
import HandS.Text
import HandS.More
import PyProof.StrBlock2
import HandS.ExcOwn
import HandS.Iter
import HandS.Words
import HandS.Comp
import HandS.Property
import OpenK.KOps
import HandS.SortInts
import PyProof.Conv_bool
import PyProof.Rows.Range3
import HandS.FStr
import KE.KStateDown
import HandS.Head0
import HandS.Head1
import HandS.Head2
import HandS.HeadEnd
import HandS.HeadHook1
import HandS.HeadHook2
import HandS.MakeKw
import HandS.MakeKwOnly
import HandS.ClsMeth
import HandS.DictComp
import HandS.HeadNt
import HandS.Gcd
import KE.KOpsOwn
import KE.KMathG
import HandS.Style
import HandS.Conv
import HandS.Records
import KE.KMathGC
import HandS.Head3
import PySem.Challenge.RW_loneround_k07_whole_texts_of_forms
set_option Elab.async false
set_option linter.all false
set_option maxRecDepth 100000
set_option maxHeartbeats 4000000
namespace MiP
open PySem PySem.Spec PyProof.Rows L2
/-- a set as it is made, and a heap with one more -/
abbrev neu (w : World) : Obj := { cls := .type "set", dict := none, data := .set #[] 0 (.fresh 0 0 (!w.params.followText "set-order")) }
abbrev neuH (w : World) (h : Heap) : Heap := h.push (neu w)
section
variable {P : Program} {w : World} {A : Around} {E : Value → Shared → Prop} {s : Shared}
set_option maxHeartbeats 8000000 in
theorem set_of_list {l : Addr} {us : Array Value} (ks : List Int) {Q : Value → Shared → Prop} (h0 : A.handled = none) (il : s.heap.IsList l us) (ia : IntsAre us.toList ks) (sm : ks.length + 1 < scanBound)
    (q : ∀ (h' : Heap) (t c : Nat), SetR w h' s.heap.objs.size (fun j => decide (j ∈ ks)) c → c ≤ ks.length → (∀ b o, s.heap.get? b = some o → h'.get? b = some o) → Q (.ref s.heap.objs.size) { s with heap := h', toks := t }) :
    wpAny (model P w) A (call (.type "set") [.ref l]) Q E s := by
  have sz : us.size = ks.length := by rw [← IntsAre.length ia, Array.length_toList]
  obtain ⟨cm, tm, em⟩ := F.called_set.mro
  have f1 := F.called_set.made
  have f2 := F.called_set.sub
  refine wpAny_call (codeAny_of_tree ?_)
  show wpAny _ _ (callAny (.type "set") _) _ _ _
  refine wpAny_pure ⟨Code.quiet_builtin _ (by decide +kernel), codeAny_builtin F.entry_type_call ?_⟩
  rw [Around.under_plain (weight_type_call_type "set" [.ref l] []) rfl]
  have f3 := F.called_set.notType
  have f4 := F.called_set.canCreate
  have f5 := F.typeCall_set_1 (.ref l)
  repeat (any_goals first | assumption | wp_step)
  refine codeAny_mono (code_set_led1 (.ref l) (E := E) (Q₁ := fun z s₁ => z = .ref s.heap.objs.size ∧ s₁ = { s with heap := neuH w s.heap }) ⟨rfl, rfl⟩) fun r s₁ hr => ?_
  cases r with
  | error e => exact hr
  | ok fl =>
    cases fl with
    | next => exact hr.elim
    | brk => exact hr.elim
    | cont => exact hr.elim
    | ret z =>
      obtain ⟨rfl, rfl⟩ := hr
      have got : (neuH w s.heap).get? s.heap.objs.size = some (neu w) := Heap.get?_push_size _ rfl
      have ty : Shared.TypeIs { s with heap := neuH w s.heap } (.ref s.heap.objs.size) "set" := ⟨_, got, rfl⟩
      have f6 := F.called_set.init.lookup
      have f7 := F.called_set.init.bind (.ref s.heap.objs.size)
      repeat (any_goals first | assumption | wp_step)
      refine codeAny_mono (codeAny_call_builtin (R := wants (fun r s₂ => r = .none ∧ ∃ h' t c, s₂ = { s with heap := h', toks := t } ∧ SetR w h' s.heap.objs.size (fun j => decide (j ∈ ks)) c ∧ c ≤ ks.length ∧ (∀ b o, s.heap.get? b = some o → h'.get? b = some o)) E)
        F.called_set.init.plain F.entry_set_init (check_set_init_1 ty ?_)) fun r2 s2 hr2 => ?_
      · have lt := il
        obtain ⟨⟨k1, k2, k3, k4⟩, e1, e2, n, e3⟩ := il
        simp only at e2 e3
        subst e2 e3
        have e1' : (neuH w s.heap).get? l = some { cls := .type "list", dict := k2, data := .seq us n, slots := k4 } := Heap.get?_push_of_some _ e1
        have il1 : (neuH w s.heap).IsList l us := ⟨_, e1', rfl, n, rfl⟩
        have g1 := F.sub_list_set
        have g2 := F.sub_list_frozenset
        have g3 : (Value.type "list" == Value.type "dict") = false := by decide
        unfold Builtin.«set.__init__» noKeywords Builtin.Frozenset.updateFrom
        generalize hw : pyIter = PI
        wp_walk
        subst hw
        refine wpAny_pyIter_list il1 ?_
        refine wpAny_bind (wpAny_runValue ?_)
        have lS : l < s.heap.objs.size := Heap.lt_size e1
        have h3 : A.in1.in1.in1.handled = none := by simp [h0]
        have z1 : (neuH w s.heap).objs.size = s.heap.objs.size + 1 := Heap.size_push ..
        have ne1 : l ≠ (neuH w s.heap).objs.size := by
          rw [z1]
          exact Nat.ne_of_lt (Nat.lt_succ_of_lt lS)
        have off : s.heap.objs.size ∉ [(neuH w s.heap).objs.size, l] := by
          simp only [List.mem_cons, List.mem_singleton, List.not_mem_nil, or_false, not_or]
          rw [z1]
          exact ⟨Nat.ne_of_lt (Nat.lt_succ_self _), Nat.ne_of_gt lS⟩
        have at_ : ∀ (i : Nat) (v : Value), us[i]? = some v → ∃ k t, ks[i]? = some k ∧ v = .int k t := fun i v hv => by
          have hi : i < ks.length := by rw [← sz]; exact (Array.getElem?_eq_some_iff.mp hv).1
          obtain ⟨t, e⟩ := PyProof.Rows.IntsAre.int_at ia i v (by rw [Array.getElem?_toList]; exact hv)
          have g := List.getElem?_eq_getElem hi
          exact ⟨ks[i], t, g, by rw [e, List.getD_eq_getElem?_getD, g]; rfl⟩
        refine set_update_ints ((Walks.list h3 _ l ne1 us).toS) s.heap.objs.size off ks sz sm at_ (us.size - 0) 0 _ (by omega) (Nat.zero_le _) ⟨⟨_, Heap.get?_push_size _ rfl, rfl, rfl⟩, il1.push _⟩ ?seed0 ?seed1
        case seed0 => exact ⟨0, Nat.le_refl 0, setR_new_at (Heap.get?_push_of_some _ got)⟩
        case seed1 =>
          intro s' c' hm hc hS
          obtain ⟨h', g', d', t', os'⟩ := s'
          have i1 : g' = s.gens := hm.gens
          have i2 : d' = s.drawn := hm.drawn
          have i3 : os' = s.os := hm.os
          subst i1 i2 i3
          show wpAny _ _ _ _ _ _
          refine wpAny_pure ?_
          show wpAny _ _ (ret Value.none) _ _ _
          rw [sz] at hc
          refine wpAny_pure ⟨rfl, h', t', c', rfl, hS, hc, fun b o e => ?_⟩
          have hb : b < s.heap.objs.size := Heap.lt_size e
          refine hm.heap b o ?_ (Heap.get?_push_of_some _ (Heap.get?_push_of_some _ e))
          simp only [List.mem_cons, List.mem_singleton, List.not_mem_nil, or_false, not_or]
          refine ⟨Nat.ne_of_lt hb, ?_⟩
          show b ≠ (neuH w s.heap).objs.size
          rw [z1]
          exact Nat.ne_of_lt (Nat.lt_succ_of_lt hb)
      · cases r2 with
        | error e => exact hr2
        | ok fl2 =>
          cases fl2 with
          | next => exact hr2.elim
          | brk => exact hr2.elim
          | cont => exact hr2.elim
          | ret r =>
            obtain ⟨rfl, h', t, c', rfl, hS, hc, hk⟩ := hr2
            repeat (any_goals first | assumption | wp_step)
            exact q _ _ _ hS hc hk
end
section
variable {X : Cx}
/-- set(xs), xs a list of ints -/
def rSetI (K : PySem.W.Frag) (w : World) : List V → Hp → VK → Prop := fun xs H Q => ∃ (l : Addr) (ks : List Int), xs = [V.ref l] ∧ SqL K H l (ks.map V.int) ∧ ks.length ≤ 1000 ∧
  ∀ a n, H a = none → n ≤ ks.length → Q (.ref a) (upd H a (SetO w a (fun j => decide (j ∈ ks)) n))
theorem cr_setI (hc : X.calm = true) : CallR X (.type "set") (rSetI X.K X.w) := by
  intro pins s σ H xs us Q I r ⟨l, ks, e, hl, hn, q⟩
  subst e
  rw [Vals.ref1 r]
  obtain ⟨its, rv, pl, _⟩ := I.list hl
  have fr : H s.heap.objs.size = none := I.hok.fresh (Nat.le_refl _)
  refine set_of_list ks (I.ok.hd hc) pl.isList (ints_of_vals (by simpa using rv)) (by unfold scanBound; omega) fun h' t c R hcn k => ?_
  exact ⟨.ref _, upd H _ (SetO X.w _ (fun j => decide (j ∈ ks)) c), I.laid (t' := t) k (Nat.le_refl _) (setO_new R), rfl, q _ c fr hcn⟩
end
end MiP
set_option maxHeartbeats 4000000
namespace Mi
open PySem PySem.Spec PyProof.Rows L2

abbrev St := L2.St
/-! ### values -/
inductive T where
  | non | bl (b : Bool) | int (i : Int) | str (s : Str)
  | lst (xs : List T) | tup (xs : List T) | dic (kvs : List (Key × T)) | ins (c : Nat) (fs : List (Str × T)) | scr (ns : List Int)
inductive O where
  | lst (xs : List T) | dic (kvs : List (Key × T)) | ins (c : Nat) (fs : List (Str × T))
def O.frz : O → T
  | .lst xs => .lst xs
  | .dic kvs => .dic kvs
  | .ins c fs => .ins c fs
inductive R where
  | fz (t : T) | ow (o : O) | bo (i : Nat)
inductive Slot where
  | no | fz (t : T) | ow (o : O)
inductive Opd where
  | t (t : T) | b (i : Nat)

/-- what the text's names stand for -/
structure Gm where
  K : PySem.W.Frag
  cls : Nat → Addr

/-! ### worlds -/
structure Wd where
  F : Addr → Prop
  L : Addr → Prop
  H : Hp
def Rdo (x : Option HO) (u : HO) : Prop := x = some u ∨ ∃ o, x = some (.frz o u)
theorem Rdo.inj {x : Option HO} {k1 k2 : List (Key × V)} (h1 : Rdo x (.dK k1)) (h2 : Rdo x (.dK k2)) : k1 = k2 := by
  rcases h1 with h1 | ⟨o, h1⟩ <;> rcases h2 with h2 | ⟨o', h2⟩ <;> rw [h1] at h2 <;> cases h2 <;> rfl
def Kp (x y : Option HO) : Prop := x = y ∨ ∃ kvs o, x = some (.dK kvs) ∧ y = some (.frz o (.dK kvs))
theorem Kp.refl (x : Option HO) : Kp x x := .inl rfl
theorem Kp.trans {x y z : Option HO} (a : Kp x y) (b : Kp y z) : Kp x z := by
  rcases a with rfl | ⟨k, o, h1, h2⟩
  · exact b
  · rcases b with rfl | ⟨k', o', h3, h4⟩
    · exact .inr ⟨k, o, h1, h2⟩
    · rw [h2] at h3; cases h3
theorem Kp.rd {x y : Option HO} {kvs : List (Key × V)} (a : Kp x y) (h : Rdo x (.dK kvs)) : Rdo y (.dK kvs) := by
  rcases a with rfl | ⟨k, o, h1, h2⟩
  · exact h
  · have : kvs = k := h.inj (.inl h1)
    subst this
    exact .inr ⟨o, h2⟩
theorem Kp.eq {x y : Option HO} {u : HO} (a : Kp x y) (h : x = some u) (nd : ∀ kvs, ¬ Rdo (some u) (.dK kvs)) : y = some u := by
  rcases a with rfl | ⟨k, o, h1, h2⟩
  · exact h
  · rw [h] at h1; exact absurd (.inl h1) (nd k)
theorem Kp.locked {x y : Option HO} {o : Obj} {u : HO} (a : Kp x y) (h : x = some (.frz o u)) : y = some (.frz o u) := by
  rcases a with rfl | ⟨k, o', h1, h2⟩
  · exact h
  · rw [h] at h1; cases h1
theorem Kp.some {x y : Option HO} (a : Kp x y) (h : ∃ u, x = some u) : ∃ u, y = some u := by
  rcases a with rfl | ⟨k, o, h1, h2⟩
  · exact h
  · exact ⟨_, h2⟩
structure Ex (w w' : Wd) : Prop where
  fz : ∀ a, w.F a → w'.F a
  kp : ∀ a, w.F a → Kp (w.H a) (w'.H a)
  ot : ∀ a u, w.H a = some u → ¬ w.F a → ¬ w.L a → w'.H a = some u ∧ ¬ w'.F a ∧ ¬ w'.L a
theorem Ex.refl (w : Wd) : Ex w w := ⟨fun _ h => h, fun _ _ => .refl _, fun _ _ h1 h2 h3 => ⟨h1, h2, h3⟩⟩
theorem Ex.trans {a b c : Wd} (x : Ex a b) (y : Ex b c) : Ex a c :=
  ⟨fun p h => y.fz p (x.fz p h), fun p h => (x.kp p h).trans (y.kp p (x.fz p h)), fun p u h1 h2 h3 =>
    let ⟨q1, q2, q3⟩ := x.ot p u h1 h2 h3
    y.ot p u q1 q2 q3⟩

/-! ### representation -/
/-- the written part's tuples, lists -/
def KT (K : PySem.W.Frag) (a : Addr) (xs : List V) : Prop := ∃ (o : Obj) (its : Array Value) (n : Nat), K.lookup a = some o ∧ o.cls = .type "tuple" ∧ o.data = .seq its n ∧ its.size ≤ sizeLine ∧ Vals xs its.toList
def KL (K : PySem.W.Frag) (a : Addr) (xs : List V) : Prop := ∃ (o : Obj) (its : Array Value) (n : Nat), K.lookup a = some o ∧ o.cls = .type "list" ∧ o.dict = none ∧ o.data = .seq its n ∧ its.size ≤ sizeLine ∧ Vals xs its.toList
mutual
inductive RF (G : Gm) (w : Wd) : T → V → Prop
  | non : RF G w .non .non
  | bl (b : Bool) : RF G w (.bl b) (.bl b)
  | int (i : Int) : RF G w (.int i) (.int i)
  | str (s : Str) : RF G w (.str s) (.str s)
  | lst {xs : List T} {a : Addr} {vs : List V} : w.F a → w.H a = some (.lst vs) → RFs G w xs vs → RF G w (.lst xs) (.ref a)
  | tup {xs : List T} {a : Addr} {vs : List V} : (w.F a ∧ w.H a = some (.tup vs)) ∨ KT G.K a vs → RFs G w xs vs → RF G w (.tup xs) (.ref a)
  | dic {kvs : List (Key × T)} {a : Addr} {ks : List (Key × V)} : w.F a → Rdo (w.H a) (.dK ks) → RFk G w kvs ks → RF G w (.dic kvs) (.ref a)
  | ins {c : Nat} {fs : List (Str × T)} {a dx : Addr} {gs : List (Str × V)} : w.F a → w.H a = some (.ins (G.cls c) dx gs) → RFf G w fs gs → RF G w (.ins c fs) (.ref a)
  | scr {ns : List Int} {a : Addr} : (w.F a ∧ ∃ o, w.H a = some (.frz o (.lst (ns.map V.int)))) ∨ KL G.K a (ns.map V.int) → RF G w (.scr ns) (.ref a)
inductive RFs (G : Gm) (w : Wd) : List T → List V → Prop
  | nil : RFs G w [] []
  | cons {t : T} {v : V} {ts : List T} {vs : List V} : RF G w t v → RFs G w ts vs → RFs G w (t :: ts) (v :: vs)
inductive RFk (G : Gm) (w : Wd) : List (Key × T) → List (Key × V) → Prop
  | nil : RFk G w [] []
  | cons {k : Key} {t : T} {v : V} {ts : List (Key × T)} {vs : List (Key × V)} : RF G w t v → RFk G w ts vs → RFk G w ((k, t) :: ts) ((k, v) :: vs)
inductive RFf (G : Gm) (w : Wd) : List (Str × T) → List (Str × V) → Prop
  | nil : RFf G w [] []
  | cons {k : Str} {t : T} {v : V} {ts : List (Str × T)} {vs : List (Str × V)} : RF G w t v → RFf G w ts vs → RFf G w ((k, t) :: ts) ((k, v) :: vs)
end
/-- an owned object -/
inductive RO (G : Gm) (w : Wd) (p : Addr) : O → Prop
  | lst {xs : List T} {vs : List V} : w.H p = some (.lst vs) → RFs G w xs vs → RO G w p (.lst xs)
  | dic {kvs : List (Key × T)} {ks : List (Key × V)} : w.H p = some (.dK ks) → RFk G w kvs ks → RO G w p (.dic kvs)
  | ins {c : Nat} {fs : List (Str × T)} {dx : Addr} {gs : List (Str × V)} : w.H p = some (.ins (G.cls c) dx gs) → RFf G w fs gs → RO G w p (.ins c fs)

/-- what of the world a frozen tree leans on -/
structure Mo (w w' : Wd) : Prop where
  fz : ∀ a, w.F a → w'.F a
  kp : ∀ a, w.F a → Kp (w.H a) (w'.H a)
theorem Ex.mo {w w' : Wd} (x : Ex w w') : Mo w w' := ⟨x.fz, x.kp⟩
section
variable {G : Gm} {w w' : Wd}
mutual
theorem RF.mono (m : Mo w w') : ∀ {t : T} {v : V}, RF G w t v → RF G w' t v
  | _, _, .non => .non
  | _, _, .bl b => .bl b
  | _, _, .int i => .int i
  | _, _, .str s => .str s
  | _, _, .lst f h r => .lst (m.fz _ f) ((m.kp _ f).eq h (fun k q => by rcases q with q | ⟨o, q⟩ <;> cases q)) (RFs.mono m r)
  | _, _, .tup h r => .tup (h.imp (fun ⟨f, h⟩ => ⟨m.fz _ f, (m.kp _ f).eq h (fun k q => by rcases q with q | ⟨o, q⟩ <;> cases q)⟩) id) (RFs.mono m r)
  | _, _, .dic f h r => .dic (m.fz _ f) ((m.kp _ f).rd h) (RFk.mono m r)
  | _, _, .ins f h r => .ins (m.fz _ f) ((m.kp _ f).eq h (fun k q => by rcases q with q | ⟨o, q⟩ <;> cases q)) (RFf.mono m r)
  | _, _, .scr h => .scr (h.imp (fun ⟨f, o, h⟩ => ⟨m.fz _ f, o, (m.kp _ f).eq h (fun k q => by rcases q with q | ⟨o, q⟩ <;> cases q)⟩) id)
theorem RFs.mono (m : Mo w w') : ∀ {t : List T} {v : List V}, RFs G w t v → RFs G w' t v
  | _, _, .nil => .nil
  | _, _, .cons a b => .cons (RF.mono m a) (RFs.mono m b)
theorem RFk.mono (m : Mo w w') : ∀ {t : List (Key × T)} {v : List (Key × V)}, RFk G w t v → RFk G w' t v
  | _, _, .nil => .nil
  | _, _, .cons a b => .cons (RF.mono m a) (RFk.mono m b)
theorem RFf.mono (m : Mo w w') : ∀ {t : List (Str × T)} {v : List (Str × V)}, RFf G w t v → RFf G w' t v
  | _, _, .nil => .nil
  | _, _, .cons a b => .cons (RF.mono m a) (RFf.mono m b)
end
theorem RFs.length : ∀ {t : List T} {v : List V}, RFs G w t v → t.length = v.length
  | _, _, .nil => rfl
  | _, _, .cons _ b => congrArg Nat.succ (RFs.length b)
theorem RFs.append : ∀ {t t' : List T} {v v' : List V}, RFs G w t v → RFs G w t' v' → RFs G w (t ++ t') (v ++ v')
  | _, _, _, _, .nil, s => s
  | _, _, _, _, .cons a b, s => .cons a (RFs.append b s)
theorem RFs.get : ∀ {ts : List T} {vs : List V} {i : Nat} {t : T}, RFs G w ts vs → ts[i]? = some t → ∃ v, vs[i]? = some v ∧ RF G w t v
  | _, _, _, _, .nil, e => by simp at e
  | _, _, 0, _, .cons a _, e => by
    simp at e; subst e
    exact ⟨_, rfl, a⟩
  | _, _, i + 1, t, .cons _ b, e => by
    obtain ⟨v, h1, h2⟩ := RFs.get (i := i) (t := t) b (by simpa using e)
    exact ⟨v, by simpa using h1, h2⟩
theorem RFs.take : ∀ {ts : List T} {vs : List V} (n : Nat), RFs G w ts vs → RFs G w (ts.take n) (vs.take n)
  | _, _, 0, _ => .nil
  | _, _, _ + 1, .nil => .nil
  | _, _, n + 1, .cons r t => .cons r (RFs.take n t)
theorem RFs.drop : ∀ {ts : List T} {vs : List V} (n : Nat), RFs G w ts vs → RFs G w (ts.drop n) (vs.drop n)
  | _, _, 0, r => r
  | _, _, _ + 1, .nil => .nil
  | _, _, n + 1, .cons _ t => RFs.drop n t
theorem RFs.set {t : T} {v : V} (r : RF G w t v) : ∀ {ts : List T} {vs : List V} (i : Nat), RFs G w ts vs → RFs G w (ts.set i t) (vs.set i v)
  | _, _, _, .nil => .nil
  | _, _, 0, .cons _ q => .cons r q
  | _, _, i + 1, .cons q p => .cons q (RFs.set r i p)
theorem RFk.length : ∀ {t : List (Key × T)} {v : List (Key × V)}, RFk G w t v → t.length = v.length
  | _, _, .nil => rfl
  | _, _, .cons _ b => congrArg Nat.succ (RFk.length b)
end

/-! ### slots -/
def SlR (G : Gm) (w : Wd) (s : Slot) (v : Option (Option V)) : Prop := match s with
  | .no => True
  | .fz t => ∃ x, v = some (some x) ∧ RF G w t x
  | .ow o => ∃ a, v = some (some (.ref a)) ∧ RO G w a o ∧ w.L a
structure SR (G : Gm) (w : Wd) (m : List Slot) (σ : St) : Prop where
  len : m.length = σ.length
  sl : ∀ (i : Nat) (s : Slot), m[i]? = some s → SlR G w s σ[i]?
  inj : ∀ (i j : Nat) (o o' : O) (a : Addr), m[i]? = some (.ow o) → m[j]? = some (.ow o') → σ[i]? = some (some (.ref a)) → σ[j]? = some (some (.ref a)) → i = j
  sep : ∀ a, w.L a → ¬ w.F a
  trk : ∀ a, w.F a → ∃ u, w.H a = some u
section
variable {G : Gm} {w w' : Wd} {m : List Slot} {σ : St} {i : Nat} {o : O} {a : Addr}
theorem RO.trk (r : RO G w a o) : ∃ u, w.H a = some u := by cases r <;> exact ⟨_, by assumption⟩
theorem RO.mono (r : RO G w a o) (mo : Mo w w') (h : w'.H a = w.H a) : RO G w' a o := by
  cases r with
  | lst h1 r => exact .lst (h.trans h1) (r.mono mo)
  | dic h1 r => exact .dic (h.trans h1) (r.mono mo)
  | ins h1 r => exact .ins (h.trans h1) (r.mono mo)
/-- the world may grow: what is owned stands as it stood -/
theorem SR.grow (S : SR G w m σ) (mo : Mo w w') (hL : ∀ a, w.L a → w'.L a ∧ ((∃ u, w.H a = some u) → w'.H a = w.H a)) (sep : ∀ a, w'.L a → ¬ w'.F a) (trk : ∀ a, w'.F a → ∃ u, w'.H a = some u) : SR G w' m σ := by
  refine ⟨S.len, fun i s h => ?_, S.inj, sep, trk⟩
  have q := S.sl i s h
  cases s with
  | no => trivial
  | fz t => obtain ⟨x, e, r⟩ := q; exact ⟨x, e, r.mono mo⟩
  | ow o => obtain ⟨a, e, r, l⟩ := q; exact ⟨a, e, r.mono mo ((hL a l).2 r.trk), (hL a l).1⟩
/-- a new object, owned -/
def Wd.new (w : Wd) (p : Addr) (u : HO) : Wd := ⟨w.F, fun a => w.L a ∨ a = p, upd w.H p u⟩
theorem Wd.new_H {w : Wd} {p : Addr} {u : HO} : (w.new p u).H = upd w.H p u := rfl
theorem upd_trk {H : Hp} {p a : Addr} {u v : HO} (hp : H p = none) (h : H a = some v) : upd H p u a = some v := by
  rw [upd_ne (ne_of_none h hp)]; exact h
theorem Mo.new {w : Wd} {p : Addr} {u : HO} (trk : ∀ a, w.F a → ∃ u, w.H a = some u) (hp : w.H p = none) : Mo w (w.new p u) :=
  ⟨fun _ h => h, fun a h => by
    obtain ⟨v, e⟩ := trk a h
    exact .inl (e.trans (upd_trk hp e).symm)⟩
theorem Ex.new {w : Wd} {p : Addr} {u : HO} (trk : ∀ a, w.F a → ∃ u, w.H a = some u) (hp : w.H p = none) : Ex w (w.new p u) :=
  ⟨fun _ h => h, (Mo.new trk hp).kp, fun a v h1 h2 h3 => ⟨upd_trk hp h1, h2, fun q => q.elim h3 (ne_of_none h1 hp)⟩⟩
theorem SR.new (S : SR G w m σ) {p : Addr} {u : HO} (hp : w.H p = none) : SR G (w.new p u) m σ :=
  S.grow (Mo.new S.trk hp) (fun a l => ⟨.inl l, fun ⟨v, e⟩ => (upd_trk hp e).trans e.symm⟩)
    (fun a l f => l.elim (fun l => S.sep a l f) fun e => by
      obtain ⟨v, q⟩ := S.trk a f
      rw [e, hp] at q; cases q)
    fun a f => by
      obtain ⟨v, e⟩ := S.trk a f
      exact ⟨v, upd_trk hp e⟩
/-- an owned address is frozen -/
def Wd.fr (w : Wd) (p : Addr) : Wd := ⟨fun a => w.F a ∨ a = p, fun a => w.L a ∧ a ≠ p, w.H⟩
theorem Mo.fr {p : Addr} : Mo w (w.fr p) := ⟨fun _ h => .inl h, fun _ _ => .refl _⟩
theorem Ex.fr {p : Addr} (l : w.L p) : Ex w (w.fr p) :=
  ⟨fun _ h => .inl h, fun _ _ => .refl _, fun a u h1 h2 h3 => ⟨h1, fun q => q.elim h2 fun e => h3 (e ▸ l), fun q => h3 q.1⟩⟩
theorem RO.rf {p : Addr} (r : RO G w p o) (f : w'.F p) (mo : Mo w w') (h : w'.H p = w.H p) : RF G w' o.frz (.ref p) := by
  cases r with
  | lst h1 r => exact .lst f (h.trans h1) (r.mono mo)
  | dic h1 r => exact .dic f (.inl (h.trans h1)) (r.mono mo)
  | ins h1 r => exact .ins f (h.trans h1) (r.mono mo)
/-- p: owned, in no slot -/
theorem SR.fr (S : SR G w m σ) {p : Addr} (l : w.L p) (k : ∃ u, w.H p = some u) (n : ∀ (i : Nat) (o : O), m[i]? = some (.ow o) → σ[i]? ≠ some (some (.ref p))) : SR G (w.fr p) m σ := by
  refine ⟨S.len, fun i s h => ?_, S.inj, fun a ⟨q, ne⟩ f => f.elim (S.sep a q) ne, fun a f => f.elim (S.trk a) fun e => e ▸ k⟩
  have q := S.sl i s h
  cases s with
  | no => trivial
  | fz t => obtain ⟨x, e, r⟩ := q; exact ⟨x, e, r.mono .fr⟩
  | ow o => obtain ⟨a, e, r, l'⟩ := q; exact ⟨a, e, r.mono .fr rfl, l', fun z => n i o h (z ▸ e)⟩
/-- a slot is frozen where it stands -/
theorem SR.frSlot (S : SR G w m σ) (h : m[i]? = some (.ow o)) (e : σ[i]? = some (some (.ref a))) : SR G (w.fr a) (m.set i (.fz o.frz)) σ ∧ RF G (w.fr a) o.frz (.ref a) ∧ Ex w (w.fr a) := by
  obtain ⟨a', e', r, l⟩ := S.sl i _ h
  rw [e] at e'
  cases e'
  have rf : RF G (w.fr a) o.frz (.ref a) := r.rf (.inr rfl) .fr rfl
  refine ⟨⟨by rw [List.length_set]; exact S.len, fun j s h' => ?_, fun j k o1 o2 b h1 h2 => ?_, fun b ⟨q, ne⟩ f => f.elim (S.sep b q) ne, fun b f => f.elim (S.trk b) fun z => z ▸ r.trk⟩, rf, .fr l⟩
  · by_cases hj : j = i
    · subst hj
      rw [List.getElem?_set_self (List.getElem?_eq_some_iff.mp h).1] at h'
      cases h'
      exact ⟨_, e, rf⟩
    · rw [List.getElem?_set_ne (Ne.symm hj)] at h'
      have q := S.sl j s h'
      cases s with
      | no => trivial
      | fz t => obtain ⟨x, e, r⟩ := q; exact ⟨x, e, r.mono .fr⟩
      | ow o' =>
        obtain ⟨b, eb, rb, lb⟩ := q
        refine ⟨b, eb, rb.mono .fr rfl, lb, fun z => hj ?_⟩
        exact S.inj j i o' o a h' h (z ▸ eb) e
  · have lt := (List.getElem?_eq_some_iff.mp h).1
    have ne : ∀ {k : Nat} {o1 : O}, (m.set i (.fz o.frz))[k]? = some (.ow o1) → m[k]? = some (.ow o1) := fun {k o1} hk => by
      by_cases hj : k = i
      · subst hj
        rw [List.getElem?_set_self lt] at hk
        cases hk
      · rwa [List.getElem?_set_ne (Ne.symm hj)] at hk
    exact S.inj j k o1 o2 b (ne h1) (ne h2)
/-- a slot takes a frozen value -/
theorem SR.setFz (S : SR G w m σ) {t : T} {v : V} (r : RF G w t v) : SR G w (m.set i (.fz t)) (σ.set i (some v)) := by
  have sub : ∀ {k : Nat} {o1 : O}, (m.set i (.fz t))[k]? = some (.ow o1) → k ≠ i ∧ m[k]? = some (.ow o1) := fun {k o1} hk => by
    by_cases hj : k = i
    · subst hj
      by_cases lt : k < m.length
      · rw [List.getElem?_set_self lt] at hk; cases hk
      · rw [List.getElem?_eq_none (by rw [List.length_set]; omega)] at hk; cases hk
    · exact ⟨hj, by rwa [List.getElem?_set_ne (Ne.symm hj)] at hk⟩
  refine ⟨by rw [List.length_set, List.length_set]; exact S.len, fun j s h => ?_, fun j k o1 o2 b h1 h2 e1 e2 => ?_, S.sep, S.trk⟩
  · by_cases hj : j = i
    · subst hj
      have lt : j < m.length := by have := (List.getElem?_eq_some_iff.mp h).1; rwa [List.length_set] at this
      rw [List.getElem?_set_self lt] at h
      cases h
      exact ⟨v, List.getElem?_set_self (by rw [← S.len]; exact lt), r⟩
    · rw [List.getElem?_set_ne (Ne.symm hj)] at h
      rw [List.getElem?_set_ne (Ne.symm hj)]
      exact S.sl j s h
  · obtain ⟨n1, q1⟩ := sub h1
    obtain ⟨n2, q2⟩ := sub h2
    rw [List.getElem?_set_ne (Ne.symm n1)] at e1
    rw [List.getElem?_set_ne (Ne.symm n2)] at e2
    exact S.inj j k o1 o2 b q1 q2 e1 e2
/-- a slot takes an owned object that stands in no slot -/
theorem SR.setOw (S : SR G w m σ) {p : Addr} (r : RO G w p o) (l : w.L p) (n : ∀ (i : Nat) (o : O), m[i]? = some (.ow o) → σ[i]? ≠ some (some (.ref p))) : SR G w (m.set i (.ow o)) (σ.set i (some (.ref p))) := by
  have sub : ∀ {k : Nat} {o1 : O}, (m.set i (.ow o))[k]? = some (.ow o1) → (k = i ∧ k < m.length) ∨ (k ≠ i ∧ m[k]? = some (.ow o1)) := fun {k o1} hk => by
    by_cases hj : k = i
    · subst hj
      refine .inl ⟨rfl, ?_⟩
      have := (List.getElem?_eq_some_iff.mp hk).1
      rwa [List.length_set] at this
    · exact .inr ⟨hj, by rwa [List.getElem?_set_ne (Ne.symm hj)] at hk⟩
  refine ⟨by rw [List.length_set, List.length_set]; exact S.len, fun j s h => ?_, fun j k o1 o2 b h1 h2 e1 e2 => ?_, S.sep, S.trk⟩
  · by_cases hj : j = i
    · subst hj
      have lt : j < m.length := by have := (List.getElem?_eq_some_iff.mp h).1; rwa [List.length_set] at this
      rw [List.getElem?_set_self lt] at h
      cases h
      exact ⟨p, List.getElem?_set_self (by rw [← S.len]; exact lt), r, l⟩
    · rw [List.getElem?_set_ne (Ne.symm hj)] at h
      rw [List.getElem?_set_ne (Ne.symm hj)]
      exact S.sl j s h
  · rcases sub h1 with ⟨n1, l1⟩ | ⟨n1, q1⟩ <;> rcases sub h2 with ⟨n2, l2⟩ | ⟨n2, q2⟩
    · rw [n1, n2]
    · subst n1
      rw [List.getElem?_set_self (by rw [← S.len]; exact l1)] at e1
      rw [List.getElem?_set_ne (Ne.symm n2)] at e2
      cases e1
      exact absurd e2 (n k o2 q2)
    · subst n2
      rw [List.getElem?_set_self (by rw [← S.len]; exact l2)] at e2
      rw [List.getElem?_set_ne (Ne.symm n1)] at e1
      cases e2
      exact absurd e1 (n j o1 q1)
    · rw [List.getElem?_set_ne (Ne.symm n1)] at e1
      rw [List.getElem?_set_ne (Ne.symm n2)] at e2
      exact S.inj j k o1 o2 b q1 q2 e1 e2
/-- a slot is emptied (moved out, or forgotten) -/
theorem SR.setNo (S : SR G w m σ) : SR G w (m.set i .no) σ := by
  have sub : ∀ {k : Nat} {o1 : O}, (m.set i Slot.no)[k]? = some (.ow o1) → m[k]? = some (.ow o1) := fun {k o1} hk => by
    by_cases hj : k = i
    · subst hj
      by_cases lt : k < m.length
      · rw [List.getElem?_set_self lt] at hk; cases hk
      · rw [List.getElem?_eq_none (by rw [List.length_set]; omega)] at hk; cases hk
    · rwa [List.getElem?_set_ne (Ne.symm hj)] at hk
  refine ⟨by rw [List.length_set]; exact S.len, fun j s h => ?_, fun j k o1 o2 b h1 h2 => S.inj j k o1 o2 b (sub h1) (sub h2), S.sep, S.trk⟩
  by_cases hj : j = i
  · subst hj
    have lt : j < m.length := by have := (List.getElem?_eq_some_iff.mp h).1; rwa [List.length_set] at this
    rw [List.getElem?_set_self lt] at h
    cases h
    trivial
  · rw [List.getElem?_set_ne (Ne.symm hj)] at h
    exact S.sl j s h
/-- the owned object of a slot is changed in place -/
def Wd.wr (w : Wd) (p : Addr) (u : HO) : Wd := ⟨w.F, w.L, upd w.H p u⟩
theorem SR.write (S : SR G w m σ) {o' : O} {u : HO} (h : m[i]? = some (.ow o)) (e : σ[i]? = some (some (.ref a))) (r : RO G (w.wr a u) a o') : SR G (w.wr a u) (m.set i (.ow o')) σ ∧ Ex w (w.wr a u) := by
  obtain ⟨a', e', r0, l⟩ := S.sl i _ h
  rw [e] at e'
  cases e'
  have nf : ¬ w.F a := S.sep a l
  have mo : Mo w (w.wr a u) := ⟨fun _ h => h, fun b f => .inl (upd_ne (show b ≠ a from fun z => nf (by rw [← z]; exact f))).symm⟩
  have lt := (List.getElem?_eq_some_iff.mp h).1
  refine ⟨⟨by rw [List.length_set]; exact S.len, fun j s h' => ?_, fun j k o1 o2 b h1 h2 e1 e2 => ?_, S.sep, fun b f => ?_⟩, ⟨mo.fz, mo.kp, fun b v h1 h2 h3 => ⟨?_, h2, h3⟩⟩⟩
  · by_cases hj : j = i
    · subst hj
      rw [List.getElem?_set_self lt] at h'
      cases h'
      exact ⟨a, e, r, l⟩
    · rw [List.getElem?_set_ne (Ne.symm hj)] at h'
      have q := S.sl j s h'
      cases s with
      | no => trivial
      | fz t => obtain ⟨x, e, r⟩ := q; exact ⟨x, e, r.mono mo⟩
      | ow o2 =>
        obtain ⟨b, eb, rb, lb⟩ := q
        refine ⟨b, eb, rb.mono mo (upd_ne fun z => hj ?_), lb⟩
        exact S.inj j i o2 o a h' h (z ▸ eb) e
  · have sub : ∀ {k : Nat} {o1 : O}, (m.set i (.ow o'))[k]? = some (.ow o1) → ∃ o2, m[k]? = some (.ow o2) := fun {k o1} hk => by
      by_cases hj : k = i
      · subst hj; exact ⟨o, h⟩
      · exact ⟨o1, by rwa [List.getElem?_set_ne (Ne.symm hj)] at hk⟩
    obtain ⟨p1, q1⟩ := sub h1
    obtain ⟨p2, q2⟩ := sub h2
    exact S.inj j k p1 p2 b q1 q2 e1 e2
  · obtain ⟨v, q⟩ := S.trk b f
    exact ⟨v, (upd_ne (show b ≠ a from fun z => nf (by rw [← z]; exact f))).trans q⟩
  · show upd w.H a u b = some v
    rw [upd_ne (show b ≠ a from fun z => h3 (by rw [z]; exact l))]; exact h1
end
end Mi
set_option maxHeartbeats 4000000
namespace Mi
open PySem PySem.Spec PyProof.Rows L2

/-! ### results -/
inductive Res (α : Type) where
  | ok (a : α) (m : List Slot) | ex (x : T) (m : List Slot) | no
/-- no exception leaves a comprehension -/
def Res.calm {α : Type} (r : Res α) : Res α := match r with
  | .ex _ _ => .no
  | r => r
def Res.bind {α β : Type} (r : Res α) (f : α → List Slot → Res β) : Res β := match r with
  | .ok a m => f a m
  | .ex x m => .ex x m
  | .no => .no
inductive CRes where
  | ok (r : R) (outs : List Slot) | ex (x : T) (outs : List Slot) | no
inductive Fl where
  | nx (m : List Slot) | rt (r : R) (m : List Slot) | bk (m : List Slot) | ct (m : List Slot) | ex (x : T) (m : List Slot) | no

/-! ### operations -/
inductive Ty where
  | int | bool | str | list | tuple | dict
  deriving DecidableEq
inductive Op where
  | add | sub | mul | fdiv | mod | pow | neg | eq | ne | lt | le | gt | ge | isin | notin | isn | notn | len | idx | sl (lo hi : Bool)
  | srt | dict | uniq | tuple | min2 | max2 | lcm | gcd | dmod | mind | maxd | abs | int | str | list | all | any | join | isi (l : List Ty) | isi1 (l : Ty) | kwd (ns : List Str) | split (b : Str) | boo
def Ty.has : T → Ty → Bool
  | .bl _, .bool => true
  | .bl _, .int => true
  | .int _, .int => true
  | .str _, .str => true
  | .lst _, .list => true
  | .scr _, .list => true
  | .tup _, .tuple => true
  | .dic _, .dict => true
  | _, _ => false
def flatT : T → Bool
  | .non => true
  | .bl _ => true
  | .int _ => true
  | .str _ => true
  | _ => false
/-- == of flat values -/
def eqT : T → T → Bool
  | .non, .non => true
  | .bl a, .bl b => a == b
  | .bl a, .int b => (if a then 1 else 0) == b
  | .int a, .bl b => a == (if b then 1 else 0)
  | .int a, .int b => a == b
  | .str a, .str b => a == b
  | _, _ => false
def isNon : T → Bool
  | .non => true
  | _ => false
def cutT (xs : List T) (lo hi : Option Int) : List T := (xs.drop (HT.sIx xs.length 0 lo)).take (HT.sIx xs.length xs.length hi - HT.sIx xs.length 0 lo)
def cutI (xs : List Int) (lo hi : Option Int) : List Int := (xs.drop (HT.sIx xs.length 0 lo)).take (HT.sIx xs.length xs.length hi - HT.sIx xs.length 0 lo)
def seqT : T → Option (List T)
  | .lst xs => some xs
  | .tup xs => some xs
  | .scr ns => some (ns.map .int)
  | _ => none
def bools : List T → Option (List Bool)
  | [] => some []
  | .bl b :: r => (bools r).map (b :: ·)
  | _ :: _ => none
def strsT : List T → Option (List Str)
  | [] => some []
  | .str b :: r => (strsT r).map (b :: ·)
  | _ :: _ => none
def slF (x : T) (lo hi : Option Int) : Option R := match x with
  | .lst xs => some (.ow (.lst (cutT xs lo hi)))
  | .scr ns => some (.ow (.lst ((cutI ns lo hi).map .int)))
  | .str z => if z.length ≤ sizeLine then some (.fz (.str (cutS z lo hi))) else none
  | _ => none
def fI (i : Int) : Option R := some (.fz (.int i))
def fB (b : Bool) : Option R := some (.fz (.bl b))
def fS (s : Str) : Option R := some (.fz (.str s))
def addF : T → T → Option R
  | .int i, .int j => fI (i + j)
  | .str x, .str y => if x.length + y.length ≤ sizeLine then fS (x ++ y) else none
  | .lst xs, .lst ys => if xs.length + ys.length ≤ sizeLine then some (.ow (.lst (xs ++ ys))) else none
  | _, _ => none
def subF : T → T → Option R
  | .int i, .int j => fI (i - j)
  | _, _ => none
def mulF : T → T → Option R
  | .int i, .int j => if i.natAbs.log2 + j.natAbs.log2 < 1000000 then fI (i * j) else none
  | .str x, .int n => if 0 ≤ n ∧ n ≤ 1000 ∧ x.length ≤ 1000 then fS (Txt.mul x n) else none
  | _, _ => none
def fdivF : T → T → Option R
  | .int i, .int j => if 0 < j ∧ j.natAbs.log2 < 9000 then fI (i / j) else none
  | _, _ => none
def modF : T → T → Option R
  | .int i, .int j => if 0 < j then fI (i % j) else none
  | _, _ => none
def powF : T → T → Option R
  | .int i, .int j => if 0 ≤ j ∧ j ≤ 1000000 ∧ i.natAbs < 2 ^ 64 then fI (i ^ j.toNat) else none
  | _, _ => none
def scalT : T → T → Bool
  | .bl _, .int _ => false
  | .int _, .bl _ => false
  | x, y => flatT x && flatT y
mutual
def pyT : T → Option PyData
  | .non => some .none
  | .bl b => some (.bool b)
  | .int i => some (.int i)
  | .str s => some (.str s)
  | .lst xs => (pyTs xs).map .list
  | .tup xs => (pyTs xs).map .tuple
  | _ => none
def pyTs : List T → Option (List PyData)
  | [] => some []
  | x :: r => match pyT x, pyTs r with
    | some d, some ds => some (d :: ds)
    | _, _ => none
end
def sameK : T → T → Bool
  | .bl _, .bl _ => true
  | .int _, .int _ => true
  | .str _, .str _ => true
  | _, _ => false
def valT (kvs : List (Key × T)) (k : Key) : Option T := (kvs.find? fun kv => decide (kv.1 = k)).map (·.2)
/-- == of dicts of flat values of one kind -/
def hitsT (ls : List (Key × T)) : List (Key × T) → Option Bool
  | [] => some true
  | (k, v) :: r => match valT ls k with
    | none => some false
    | some u => if sameK v u = true then (hitsT ls r).map fun b => eqT v u && b else none
def eqD (k : Bool → Bool) (ks ls : List (Key × T)) : Option R := if ks.length = ls.length then (match hitsT ls ks with
  | some b => fB (k b)
  | none => none) else fB (k false)
def eqF (x y : T) (k : Bool → Bool) : Option R := if scalT x y = true then fB (k (eqT x y)) else match pyT x, pyT y with
  | some d, some e => if SeqAt.shaped d = true ∧ SeqAt.shaped e = true then fB (k (PyData.eqv d e)) else none
  | _, _ => match x, y with
    | .dic ks, .dic ls => eqD k ks ls
    | _, _ => none
def cmpF (p : Int → Int → Bool) : T → T → Option R
  | .int i, .int j => fB (p i j)
  | _, _ => none
def keyT : T → Option Key
  | .int i => some (.inl i)
  | .str s => some (.inr s)
  | _ => none
def unkey : Key → T
  | .inl i => .int i
  | .inr s => .str s
def intsT : List T → Option (List Int)
  | [] => some []
  | .int b :: r => (intsT r).map (b :: ·)
  | _ :: _ => none
/-- the ints of a list -/
def seqI : T → Option (List Int)
  | .lst xs => intsT xs
  | .scr ns => some ns
  | _ => none
def insS (a : Int) : List Int → List Int
  | [] => [a]
  | b :: r => if a ≤ b then a :: b :: r else b :: insS a r
def sortS : List Int → List Int
  | [] => []
  | a :: r => insS a (sortS r)
def insU (a : Int) : List Int → List Int
  | [] => [a]
  | b :: r => if a < b then a :: b :: r else if a = b then b :: r else b :: insU a r
def uniqS : List Int → List Int
  | [] => []
  | a :: r => insU a (uniqS r)
/-- the order of texts -/
def leT (a b : Str) : Bool := !PySem.Spec.ltCps b.cps.toList a.cps.toList
def insT (a : Str) : List Str → List Str
  | [] => [a]
  | b :: r => if leT a b = true then a :: b :: r else b :: insT a r
def sortT : List Str → List Str
  | [] => []
  | a :: r => insT a (sortT r)
def srtF (x : T) : Option R := match seqI x with
  | some ns => some (.ow (.lst ((sortS ns).map .int)))
  | none => match x with
    | .lst xs => (strsT xs).bind fun ys => if ys.length < 64 then some (.ow (.lst ((sortT ys).map .str))) else none
    | _ => none
def booF : T → Option R
  | .bl b => fB b
  | .int i => fB (i != 0)
  | _ => none
def splF (b : Str) : T → Option R
  | .str a => if (b.length == 0) = false ∧ a.length + 2 ≤ sizeLine then some (.ow (.lst ((Txt.split a b).map .str))) else none
  | _ => none
def uniqF (x : T) : Option R := (seqI x).bind fun ns => if ns.length < 64 then some (.ow (.lst ((uniqS ns).map .int))) else none
def tupF : T → Option R
  | .lst xs => some (.fz (.tup xs))
  | .tup xs => some (.fz (.tup xs))
  | _ => none
def inF (k : Bool → Bool) : T → T → Option R
  | .str x, .str z => (match x.cps.toList with
    | [c] => fB (k (decide (c ∈ z.cps.toList)))
    | _ => none)
  | x, .lst xs => if flatT x = true ∧ xs.all flatT = true then fB (k (xs.any fun y => eqT y x)) else none
  | x, .tup xs => if flatT x = true ∧ xs.all flatT = true then fB (k (xs.any fun y => eqT y x)) else none
  | x, .dic kvs => (keyT x).bind fun q => fB (k (kvs.any fun kv => decide (kv.1 = q)))
  | _, _ => none
def lenF : T → Option R
  | .str z => if z.length ≤ sizeLine then fI z.length else none
  | .lst xs => fI xs.length
  | .tup xs => fI xs.length
  | .scr xs => fI xs.length
  | .dic kvs => fI kvs.length
  | _ => none
def idxF : T → T → Option R
  | .lst xs, .int i => (atI xs i).map .fz
  | .tup xs, .int i => (atI xs i).map .fz
  | .scr ns, .int i => (atI ns i).map fun n => .fz (.int n)
  | .str z, .int i => if z.length ≤ sizeLine then (atI z.cps.toList i).map fun c => .fz (.str ⟨#[c]⟩) else none
  | .dic kvs, k => (keyT k).bind fun q => (valT kvs q).map .fz
  | _, _ => none
def putT (kvs : List (Key × T)) (k : Key) (v : T) : List (Key × T) := if (kvs.any fun kv => decide (kv.1 = k)) = true then kvs.map fun kv => if decide (kv.1 = k) = true then (kv.1, v) else kv else kvs ++ [(k, v)]
def putsT (acc l : List (Key × T)) : List (Key × T) := l.foldl (fun a kv => putT a kv.1 kv.2) acc
def pairT : T → Option (Key × T)
  | .tup [k, v] => (keyT k).map fun q => (q, v)
  | _ => none
def pairsT : List T → Option (List (Key × T))
  | [] => some []
  | x :: r => (pairT x).bind fun p => (pairsT r).map fun l => p :: l
/-- dict(..): of a list of pairs, of a dict -/
def dictF : T → Option R
  | .lst xs => (pairsT xs).map fun kvs => .ow (.dic (putsT [] kvs))
  | .dic kvs => some (.ow (.dic kvs))
  | _ => none
/-- a dict of keywords: texts that are no parameter's name -/
def kwdF (ns : List Str) : T → Option R
  | .dic kvs => if (kvs.all fun kv => match kv.1 with
    | .inr x => !ns.contains x
    | .inl _ => false) = true then some (.ow (.dic kvs)) else none
  | _ => none
def lcmF : T → T → Option R
  | .int i, .int j => if 0 < i ∧ i < 2 ^ 60 ∧ 0 < j ∧ j < 2 ^ 60 then fI ((Nat.lcm i.toNat j.toNat : Nat) : Int) else none
  | _, _ => none
def gcdF : T → T → Option R
  | .int i, .int j => fI ((Nat.gcd i.natAbs j.natAbs : Nat) : Int)
  | _, _ => none
def dmodF : T → T → Option R
  | .int i, .int j => if 0 < j ∧ j.natAbs.log2 < 9000 then some (.fz (.tup [.int (i / j), .int (i % j)])) else none
  | _, _ => none
def minF (k : Int → Int → Bool) : T → T → Option R
  | .int i, .int j => fI (if k i j = true then j else i)
  | _, _ => none
def negF : T → Option R
  | .int i => fI (-i)
  | _ => none
def absF : T → Option R
  | .int i => fI (if i < 0 then -i else i)
  | _ => none
def intF : T → Option R
  | .int i => fI i
  | .bl k => fI (if k then 1 else 0)
  | .str a => (match PySem.intText? a with
    | some n => if a.length ≤ 640 then fI n else none
    | none => none)
  | _ => none
def strF : T → Option R
  | .int i => if i.natAbs.log2 < 1920 then fS (toString i) else none
  | .str x => fS x
  | _ => none
def listF : T → Option R
  | .lst xs => some (.ow (.lst xs))
  | .tup xs => some (.ow (.lst xs))
  | .scr ns => some (.ow (.lst (ns.map .int)))
  | .dic kvs => some (.ow (.lst (kvs.map fun kv => unkey kv.1)))
  | _ => none
def allF : T → Option R
  | .lst xs => (bools xs).bind fun bs => fB (bs.all id)
  | _ => none
def anyF : T → Option R
  | .lst xs => (bools xs).bind fun bs => fB (bs.any id)
  | _ => none
def joinF : T → T → Option R
  | .str a, .lst xs => (strsT xs).bind fun ys => if (ys.map (·.length)).sum + ys.length * a.length ≤ 16777216 then fS (Txt.join a ys) else none
  | _, _ => none
def isnF (k : Bool → Bool) (x y : T) : Option R := if isNon y = true then fB (k (isNon x)) else none
def intO : T → Option Int
  | .int i => some i
  | _ => none
def isiF (l : List Ty) : T → Option R
  | .ins _ _ => none
  | x => fB (l.any (Ty.has x))
def isi1F (l : Ty) : T → Option R
  | .ins _ _ => none
  | x => fB (Ty.has x l)
def op1 : Op → Option (T → Option R)
  | .neg => some negF
  | .len => some lenF
  | .sl false false => some fun x => slF x none none
  | .abs => some absF
  | .int => some intF
  | .str => some strF
  | .list => some listF
  | .srt => some srtF
  | .dict => some dictF
  | .uniq => some uniqF
  | .tuple => some tupF
  | .all => some allF
  | .any => some anyF
  | .isi l => some (isiF l)
  | .isi1 l => some (isi1F l)
  | .kwd ns => some (kwdF ns)
  | .split b => some (splF b)
  | .boo => some booF
  | _ => none
def op2 : Op → Option (T → T → Option R)
  | .add => some addF
  | .sub => some subF
  | .mul => some mulF
  | .fdiv => some fdivF
  | .mod => some modF
  | .pow => some powF
  | .eq => some fun x y => eqF x y id
  | .ne => some fun x y => eqF x y not
  | .lt => some (cmpF fun i j => decide (i < j))
  | .le => some (cmpF fun i j => decide (i ≤ j))
  | .gt => some (cmpF fun i j => decide (j < i))
  | .ge => some (cmpF fun i j => decide (j ≤ i))
  | .isin => some (inF id)
  | .notin => some (inF not)
  | .isn => some (isnF id)
  | .notn => some (isnF not)
  | .idx => some idxF
  | .sl true false => some fun x i => (intO i).bind fun i => slF x (some i) none
  | .sl false true => some fun x i => (intO i).bind fun i => slF x none (some i)
  | .join => some joinF
  | .lcm => some lcmF
  | .min2 => some (minF fun i j => decide (j < i))
  | .max2 => some (minF fun i j => decide (j > i))
  | .gcd => some gcdF
  | .dmod => some dmodF
  | _ => none
def op3 : Op → Option (T → T → T → Option R)
  | .sl true true => some fun x i j => (intO i).bind fun i => (intO j).bind fun j => slF x (some i) (some j)
  | _ => none
def opF (f : Op) (ts : List T) : Option R := match ts with
  | [x] => (op1 f).bind fun g => g x
  | [x, y] => (op2 f).bind fun g => g x y
  | [x, y, z] => (op3 f).bind fun g => g x y z
  | _ => none

/-! ### syntax -/
mutual
inductive Pt where
  | nm (i : Nat) | tup (ps : Pts)
inductive Pts where
  | nil | cons (p : Pt) (r : Pts)
end
def Pts.len : Pts → Nat
  | .nil => 0
  | .cons _ r => r.len + 1
mutual
inductive E where
  | c (t : T) | var (i : Nat) | lst (es : Es) | tup (es : Es) | op (f : Op) (es : Es)
  | an (a b : E) | or (a b : E) | nt (a : E) | ite (c a b : E) | ch (f g : Op) (a b c : E)
  | slc (a b c : E) | jn (a b : E)
  | fld (c : Nat) (e : E) (f : Str) | con (c : Nat) (e : E) (f : Str) (t : T) | prop (c f : Nat) (e : E) | meth (c f : Nat) (n : Str) (io : List Bool) (e : E) (es : Es) | mk (c f : Nat) (pm : List Nat) (es : Es) | ceq (neg : Bool) (c f : Nat) (a b : E) | spc (s : Bool) (c f : Nat) (a : E) | fst (es : Es) | lsx (bs : List Bool) (es : Es)
  | dic0 | dsc (kvs : List (Key × T)) | dgt (a b c : E) | dcm (own : List Nat) (p : Pt) (s : Src) (cs : Es) (k v : E) | isc (cs ns : List Nat) (e : E) | bop (c f : Nat) (a b : E) | uop (c f : Nat) (a : E) | inn (neg : Bool) (c f : Nat) (a b : E) | gti (c f : Nat) (a b : E)
  | ccm (f : Nat) | lr (s : Src) | lend (is : List Nat) (e : E) | mki (c f : Nat) (io : List Bool) (es : Es)
  | call (f : Nat) (io : List Bool) (es : Es)
  | comp (own : List Nat) (p : Pt) (s : Src) (cs : Es) (e : E)
inductive Es where
  | nil | cons (e : E) (r : Es)
inductive Src where
  | it (e : E) | rng1 (e : E) | rng2 (a b : E) | enum (e : E) | zip (a b : E)
end
mutual
inductive S where
  | set (i : Nat) (e : E) | unp (p : Pt) (e : E) | par (i j : Nat) (a b : E) | aug (i : Nat) (f : Op) (e : E) | ex (e : E) | ret (e : E) | retn
  | ife (c : E) (a b : Ss) | wh (c : E) (b : Ss) | fr (p : Pt) (s : Src) (b : Ss) | app (i : Nat) (e : E) | insr (i : Nat) (k e : E) | sto (i : Nat) (k v : E) | stf (i c : Nat) (f : Str) (e : E) | stp (i c : Nat) (fs : List Str) (e : E) | nev | brk | cnt | pas | paro (i j : Nat) (a b : E) | parf (i j : Nat) (a b : E) | par3 (i j l : Nat) (a b : E) (t : T) | scp (is A : List Nat) (b : Ss)
inductive Ss where
  | nil | cons (s : S) (r : Ss)
end
structure Def where
  np : Nat
  ns : Nat
  io : List Bool
  body : Ss

/-! ### slots -/
/-- arguments in the order of the parameters -/
def pmT (pm : List Nat) (ts : List T) : List T := match pm with
  | [] => ts
  | pm => pm.map fun i => ts.getD i .non
def Es.len : Es → Nat
  | .nil => 0
  | .cons _ r => r.len + 1
/-- a result as an operand: a new object is frozen -/
def R.opd : R → Opd
  | .fz t => .t t
  | .ow o => .t o.frz
  | .bo i => .b i
/-- an operand read now -/
def der (m : List Slot) : Opd → Option T
  | .t t => some t
  | .b i => match m[i]? with
    | some (.ow o) => some o.frz
    | some (.fz t) => some t
    | _ => none
def ders (m : List Slot) : List Opd → Option (List T)
  | [] => some []
  | d :: r => match der m d, ders m r with
    | some t, some ts => some (t :: ts)
    | _, _ => none
/-- an operand that is kept by someone: its slot is frozen -/
def esc (m : List Slot) : Opd → Option (T × List Slot)
  | .t t => some (t, m)
  | .b i => match m[i]? with
    | some (.ow o) => some (o.frz, m.set i (.fz o.frz))
    | some (.fz t) => some (t, m)
    | _ => none
def escs (m : List Slot) : List Opd → Option (List T × List Slot)
  | [] => some ([], m)
  | d :: r => match esc m d with
    | some (t, m1) => (match escs m1 r with
      | some (ts, m2) => some (t :: ts, m2)
      | none => none)
    | none => none
/-- arguments: what the callee may change is moved out of its slot -/
def pass (m : List Slot) : List Bool → List Opd → Option (List Slot × List Slot)
  | [], [] => some ([], m)
  | false :: io, d :: r => match esc m d with
    | some (t, m1) => (match pass m1 io r with
      | some (ss, m2) => some (.fz t :: ss, m2)
      | none => none)
    | none => none
  | true :: io, .b i :: r => match m[i]? with
    | some (.ow o) => (match pass (m.set i .no) io r with
      | some (ss, m2) => some (.ow o :: ss, m2)
      | none => none)
    | _ => none
  | _, _ => none
/-- what comes back into the slots -/
def back (m : List Slot) : List Bool → List Opd → List Slot → Option (List Slot)
  | [], [], _ => some m
  | false :: io, _ :: r, _ :: outs => back m io r outs
  | true :: io, .b i :: r, s :: outs => back (m.set i s) io r outs
  | _, _, _ => none
mutual
def bindP (m : List Slot) : Pt → T → Option (List Slot)
  | .nm i, x => if i < m.length then some (m.set i (.fz x)) else none
  | .tup ps, x => match x with
    | .tup xs => bindPs m ps xs
    | _ => none
def bindPs (m : List Slot) : Pts → List T → Option (List Slot)
  | .nil, [] => some m
  | .cons p r, x :: xs => (match bindP m p x with
    | some m1 => bindPs m1 r xs
    | none => none)
  | _, _ => none
end
def wipeM (m : List Slot) : List Nat → List Slot
  | [] => m
  | v :: vs => (wipeM m vs).set v .no
/-- the slots vs as they stand in m0 -/
def restM (m0 m : List Slot) : List Nat → List Slot
  | [] => m
  | v :: vs => (restM m0 m vs).set v (m0[v]?.getD .no)
def noOw (m : List Slot) (vs : List Nat) : Bool := vs.all fun v => match m[v]? with
  | some (.ow _) => false
  | some _ => true
  | none => false
def rangeT (lo hi : Int) : List T := (List.range (hi - lo).toNat).map fun (k : Nat) => T.int (lo + (k : Int))
def enumT : Nat → List T → List T
  | _, [] => []
  | k, x :: r => .tup [.int (k : Int), x] :: enumT (k + 1) r
def zipT : List T → List T → List T
  | x :: xs, y :: ys => .tup [x, y] :: zipT xs ys
  | _, _ => []
/-- what a for walks: the items -/
def itemsT : T → Option (List T)
  | .lst xs => some xs
  | .tup xs => some xs
  | .scr ns => some (ns.map .int)
  | .dic kvs => some (kvs.map fun kv => unkey kv.1)
  | .str z => if z.length ≤ sizeLine then some (z.cps.toList.map fun c => .str ⟨#[c]⟩) else none
  | _ => none
def loT (x : T) : Option (List T) := match x with
  | .lst xs => some xs
  | _ => none
def loE (x : T) : Option (List T) := match x with
  | .lst xs => some xs
  | .tup xs => some xs
  | _ => none
def wideI (i : Int) : Bool := decide (-(2 ^ 62) ≤ i ∧ i < 2 ^ 62)

def O.lendable : O → Bool
  | .dic _ => false
  | _ => true
/-- owned objects, lent: those of is are frozen, the others out of sight -/
def lendM (is : List Nat) : Nat → List Slot → List Slot
  | _, [] => []
  | k, .ow o :: r => (if k ∈ is ∧ o.lendable = true then .fz o.frz else .no) :: lendM is (k + 1) r
  | k, .fz t :: r => .fz t :: lendM is (k + 1) r
  | k, .no :: r => .no :: lendM is (k + 1) r
/-- flat contents -/
def thinO : O → Bool
  | .lst xs => xs.all flatT
  | .dic kvs => kvs.all fun kv => flatT kv.2
  | .ins _ _ => false
/-! ### the comprehension's and the loops' turns -/
def compGo (own : List Nat) (p : Pt) (cond elt : List Slot → Res R) : List T → List T → List Slot → Res (List T)
  | [], acc, m => .ok acc m
  | x :: xs, acc, m => match bindP (wipeM m own) p x with
    | none => .no
    | some m1 => (cond m1).bind fun r m2 => match r with
      | .fz (.bl true) => (elt m2).bind fun r m3 => match esc m3 r.opd with
        | some (t, m4) => if acc.length < sizeLine then compGo own p cond elt xs (acc ++ [t]) (wipeM m4 own) else .no
        | none => .no
      | .fz (.bl false) => compGo own p cond elt xs acc (wipeM m2 own)
      | _ => .no
def dcGo (own : List Nat) (p : Pt) (cond ke ve : List Slot → Res R) : List T → List (Key × T) → List Slot → Res (List (Key × T))
  | [], acc, m => .ok acc m
  | x :: xs, acc, m => match bindP (wipeM m own) p x with
    | none => .no
    | some m1 => (cond m1).bind fun r m2 => match r with
      | .fz (.bl true) => (ke m2).bind fun rk m3 => match rk with
        | .fz kt => (match keyT kt with
          | some k => (ve m3).bind fun rv m4 => (match esc m4 rv.opd with
            | some (t, m5) => if acc.length < sizeLine then dcGo own p cond ke ve xs (putT acc k t) (wipeM m5 own) else .no
            | none => .no)
          | none => .no)
        | _ => .no
      | .fz (.bl false) => dcGo own p cond ke ve xs acc (wipeM m2 own)
      | _ => .no
def forGo (p : Pt) (body : List Slot → Fl) : List T → List Slot → Fl
  | [], m => .nx m
  | x :: xs, m => match bindP m p x with
    | none => .no
    | some m1 => match body m1 with
      | .nx m2 => forGo p body xs m2
      | .ct m2 => forGo p body xs m2
      | .bk m2 => .nx m2
      | f => f
def whGo (cond : List Slot → Res R) (body : List Slot → Fl) : Nat → List Slot → Fl
  | 0, _ => .no
  | n + 1, m => match cond m with
    | .ok (.fz (.bl true)) m1 => (match body m1 with
      | .nx m2 => whGo cond body n m2
      | .ct m2 => whGo cond body n m2
      | .bk m2 => .nx m2
      | f => f)
    | .ok (.fz (.bl false)) m1 => .nx m1
    | .ex x m1 => .ex x m1
    | _ => .no

/-! ### the evaluator -/
def opR (f : Op) (ds : List Opd) (m : List Slot) : Res R := match ders m ds with
  | some ts => (match opF f ts with
    | some r => .ok r m
    | none => .no)
  | none => .no
/-- the right one of an own == : of the same class, or no instance -/
def besideT (c : Nat) : Option T → Bool
  | some (.ins c' _) => decide (c' = c)
  | some _ => true
  | none => false
def callR (cal : Nat → List Slot → CRes) (f : Nat) (io : List Bool) (ds : List Opd) (m : List Slot) : Res R := match pass m io ds with
  | some (args, m1) => (match cal f args with
    | .ok (.bo _) _ => .no
    | .ok r outs => (match back m1 io ds outs with
      | some m2 => .ok r m2
      | none => .no)
    | .ex x outs => (match back m1 io ds outs with
      | some m2 => .ex x m2
      | none => .no)
    | .no => .no)
  | none => .no
section
variable (cal : Nat → List Slot → CRes)
mutual
def evE : E → List Slot → Res R
  | .c t, m => .ok (.fz t) m
  | .var i, m => match m[i]? with
    | some (.fz t) => .ok (.fz t) m
    | some (.ow _) => .ok (.bo i) m
    | _ => .no
  | .lst es, m => (evDs es m).bind fun ds m1 => match escs m1 ds with
    | some (ts, m2) => if ts.length ≤ sizeLine then .ok (.ow (.lst ts)) m2 else .no
    | none => .no
  | .tup es, m => (evDs es m).bind fun ds m1 => match escs m1 ds with
    | some (ts, m2) => if ts.length ≤ sizeLine then .ok (.fz (.tup ts)) m2 else .no
    | none => .no
  | .op f es, m => (evDs es m).bind fun ds m1 => opR f ds m1
  | .an a b, m => (evE a m).bind fun r m1 => match r with
    | .fz (.bl true) => evE b m1
    | .fz (.bl false) => .ok (.fz (.bl false)) m1
    | _ => .no
  | .or a b, m => (evE a m).bind fun r m1 => match r with
    | .fz (.bl true) => .ok (.fz (.bl true)) m1
    | .fz (.bl false) => evE b m1
    | _ => .no
  | .nt a, m => (evE a m).bind fun r m1 => match r with
    | .fz (.bl k) => .ok (.fz (.bl (!k))) m1
    | _ => .no
  | .ite c a b, m => (evE c m).bind fun r m1 => match r with
    | .fz (.bl true) => evE a m1
    | .fz (.bl false) => evE b m1
    | _ => .no
  | .ch f g a b c, m => (evE a m).bind fun ra m1 => (evE b m1).bind fun rb m2 => (opR f [ra.opd, rb.opd] m2).bind fun r m3 => match r with
    | .fz (.bl true) => (evE c m3).bind fun rc m4 => opR g [rb.opd, rc.opd] m4
    | .fz (.bl false) => .ok (.fz (.bl false)) m3
    | _ => .no
  | .slc a b c, m => (evE a m).bind fun ra m1 => (evE b m1).bind fun rb m2 => match der m2 rb.opd with
    | some (.int i) => (evE c m2).bind fun rc m3 => (match der m3 rc.opd, der m3 ra.opd with
      | some (.int j), some t => (match slF t (some i) (some j) with
        | some r => .ok r m3
        | none => .no)
      | _, _ => .no)
    | _ => .no
  | .jn a b, m => (evE a m).bind fun ra m1 => match der m1 ra.opd with
    | some (.str z) => (evE b m1).bind fun rb m2 => (match der m2 rb.opd with
      | some t => (match joinF (.str z) t with
        | some r => .ok r m2
        | none => .no)
      | none => .no)
    | _ => .no
  | .fld c e f, m => (evE e m).bind fun r m1 => match der m1 r.opd with
    | some (.ins c' fs) => if c' = c then (match fs.lookup f with
      | some t => .ok (.fz t) m1
      | none => .no) else .no
    | _ => .no
  | .con c e f t, m => (evE e m).bind fun r m1 => match der m1 r.opd with
    | some (.ins c' fs) => if c' = c ∧ fs.lookup f = none then .ok (.fz t) m1 else .no
    | _ => .no
  | .prop c f e, m => (evE e m).bind fun r m1 => match der m1 r.opd with
    | some (.ins c' _) => if c' = c then (callR cal f [false] [r.opd] m1).calm else .no
    | _ => .no
  | .meth c f n io e es, m => (evE e m).bind fun r m1 => match der m1 r.opd with
    | some (.ins c' fs) => if c' = c ∧ fs.lookup n = none then (evDs es m1).bind fun ds m2 => (callR cal f (false :: io) (r.opd :: ds) m2).calm else .no
    | _ => .no
  | .mk c f pm es, m => (evDs es m).bind fun ds m1 => match escs m1 ds with
    | some (ts, m2) => (match cal f (.ow (.ins c []) :: (pmT pm ts).map .fz) with
      | .ok (.fz .non) (.ow o :: _) => .ok (.ow o) m2
      | _ => .no)
    | none => .no
  | .ceq neg c f a b, m => (evE a m).bind fun ra m1 => (evE b m1).bind fun rb m2 => match der m2 ra.opd with
    | some (.ins c' _) => if c' = c ∧ besideT c (der m2 rb.opd) = true then (callR cal f [false, false] [ra.opd, rb.opd] m2).calm.bind fun r m3 => (match r with
      | .fz (.bl k) => .ok (.fz (.bl (if neg = true then !k else k))) m3
      | _ => .no) else .no
    | _ => opR (if neg = true then .ne else .eq) [ra.opd, rb.opd] m2
  | .spc s c f a, m => (evE a m).bind fun ra m1 => match der m1 ra.opd with
    | some (.ins c' _) => if c' = c then (callR cal f [false] [ra.opd] m1).calm.bind fun r m2 => (match r with
      | .fz (.str z) => if s = true then .ok (.fz (.str z)) m2 else .no
      | .fz (.bl z) => if s = true then .no else .ok (.fz (.bl z)) m2
      | _ => .no) else .no
    | _ => .no
  | .lsx bs es, m => (evDx es bs m).bind fun ds m1 => match escs m1 ds with
    | some (ts, m2) => if ts.length ≤ sizeLine then .ok (.ow (.lst ts)) m2 else .no
    | none => .no
  | .fst es, m => (evJs es Str.empty m).bind fun z m1 => .ok (.fz (.str z)) m1
  | .dic0, m => .ok (.ow (.dic [])) m
  | .dgt a b c, m => (evE a m).bind fun ra m1 => match der m1 ra.opd with
    | some (.dic _) => (evE b m1).bind fun rb m2 => (evE c m2).bind fun rc m3 => (match der m3 ra.opd, der m3 rb.opd, der m3 rc.opd with
      | some (.dic kvs), some k, some x => if flatT x = true then (match keyT k with
        | some q => .ok (.fz ((valT kvs q).getD x)) m3
        | none => .no) else .no
      | _, _, _ => .no)
    | _ => .no
  | .dsc kvs, m => if kvs.all (fun kv => flatT kv.2) = true ∧ kvs.length ≤ 15 then .ok (.ow (.dic (putsT [] kvs))) m else .no
  | .dcm own p s cs k v, m => (evSrc s m).bind fun xs m1 => if noOw m1 own = true then
      (dcGo own p (fun m => evAll cs m) (fun m => evE k m) (fun m => evE v m) xs [] (wipeM m1 own)).calm.bind fun acc m2 => .ok (.ow (.dic acc)) (restM m1 m2 own)
    else .no
  | .isc cs ns e, m => (evE e m).bind fun r m1 => match der m1 r.opd with
    | some (.ins c _) => if c ∈ cs then .ok (.fz (.bl true)) m1 else if c ∈ ns then .ok (.fz (.bl false)) m1 else .no
    | some _ => .ok (.fz (.bl false)) m1
    | none => .no
  | .bop c f a b, m => (evE a m).bind fun ra m1 => (evE b m1).bind fun rb m2 => match der m2 ra.opd, der m2 rb.opd with
    | some (.ins c1 _), some (.ins c2 _) => if c1 = c ∧ c2 = c then (callR cal f [false, false] [ra.opd, rb.opd] m2).calm else .no
    | _, _ => .no
  | .uop c f a, m => (evE a m).bind fun ra m1 => match der m1 ra.opd with
    | some (.ins c1 _) => if c1 = c then (callR cal f [false] [ra.opd] m1).calm else .no
    | _ => .no
  | .inn neg c f a b, m => (evE a m).bind fun ra m1 => (evE b m1).bind fun rb m2 => match der m2 rb.opd with
    | some (.ins c1 _) => if c1 = c then (callR cal f [false, false] [rb.opd, ra.opd] m2).calm.bind fun r m3 => (match r with
      | .fz (.bl k) => .ok (.fz (.bl (if neg = true then !k else k))) m3
      | _ => .no) else .no
    | _ => .no
  | .gti c f a b, m => (evE a m).bind fun ra m1 => (evE b m1).bind fun rb m2 => match der m2 ra.opd with
    | some (.ins c1 _) => if c1 = c then (callR cal f [false, false] [ra.opd, rb.opd] m2).calm else .no
    | _ => .no
  | .ccm f, m => match cal f [.no] with
    | .ok (.fz t) _ => .ok (.fz t) m
    | .ok (.ow o) _ => .ok (.ow o) m
    | _ => .no
  | .lr s, m => (evSrc s m).bind fun xs m1 => if xs.length ≤ sizeLine then .ok (.ow (.lst xs)) m1 else .no
  | .lend is e, m => match evE e (lendM is 0 m) with
    | .ok (.fz t) _ => if flatT t = true then .ok (.fz t) m else .no
    | .ok (.ow o) _ => if thinO o = true then .ok (.ow o) m else .no
    | _ => .no
  | .mki c f io es, m => (evDs es m).bind fun ds m1 => match pass m1 io ds with
    | some (args, m2) => (match cal f (.ow (.ins c []) :: args) with
      | .ok (.fz .non) (.ow o :: outs) => (match back m2 io ds outs with
        | some m3 => .ok (.ow o) m3
        | none => .no)
      | _ => .no)
    | none => .no
  | .call f io es, m => (evDs es m).bind fun ds m1 => callR cal f io ds m1
  | .comp own p s cs e, m => (evSrc s m).bind fun xs m1 => if noOw m1 own = true then
      (compGo own p (fun m => evAll cs m) (fun m => evE e m) xs [] (wipeM m1 own)).calm.bind fun acc m2 => .ok (.ow (.lst acc)) (restM m1 m2 own)
    else .no
def evDs : Es → List Slot → Res (List Opd)
  | .nil, m => .ok [] m
  | .cons e r, m => (evE e m).bind fun x m1 => (evDs r m1).bind fun xs m2 => .ok (x.opd :: xs) m2
/-- items, some of them starred -/
def evDx : Es → List Bool → List Slot → Res (List Opd)
  | .nil, _, m => .ok [] m
  | .cons e r, bs, m => (evE e m).bind fun x m1 => if bs.headD false = true then (match der m1 x.opd with
      | some (.lst xs) => (evDx r bs.tail m1).bind fun ds m2 => .ok (xs.map Opd.t ++ ds) m2
      | _ => .no) else (evDx r bs.tail m1).bind fun ds m2 => .ok (x.opd :: ds) m2
/-- the texts one behind the other -/
def evJs : Es → Str → List Slot → Res Str
  | .nil, acc, m => .ok acc m
  | .cons e r, acc, m => (evE e m).bind fun x m1 => match x with
    | .fz (.str y) => if (acc ++ y).length ≤ sizeLine then evJs r (acc ++ y) m1 else .no
    | .fz (.int i) => if (acc ++ toString i).length ≤ sizeLine ∧ i.natAbs.log2 < 1920 then evJs r (acc ++ toString i) m1 else .no
    | _ => .no
def evAll : Es → List Slot → Res R
  | .nil, m => .ok (.fz (.bl true)) m
  | .cons e r, m => (evE e m).bind fun x m1 => match x with
    | .fz (.bl true) => evAll r m1
    | .fz (.bl false) => .ok (.fz (.bl false)) m1
    | _ => .no
def evSrc : Src → List Slot → Res (List T)
  | .it e, m => (evE e m).bind fun r m1 => match esc m1 r.opd with
    | some (t, m2) => (match itemsT t with
      | some xs => .ok xs m2
      | none => .no)
    | none => .no
  | .rng1 e, m => (evE e m).bind fun r m1 => match der m1 r.opd with
    | some (.int j) => if wideI j = true then .ok (rangeT 0 j) m1 else .no
    | _ => .no
  | .rng2 a b, m => (evE a m).bind fun ra m1 => (evE b m1).bind fun rb m2 => match der m2 ra.opd, der m2 rb.opd with
    | some (.int i), some (.int j) => if wideI i = true ∧ wideI j = true then .ok (rangeT i j) m2 else .no
    | _, _ => .no
  | .enum e, m => (evE e m).bind fun r m1 => match esc m1 r.opd with
    | some (t, m2) => (match loE t with
      | some xs => .ok (enumT 0 xs) m2
      | none => .no)
    | none => .no
  | .zip a b, m => (evE a m).bind fun ra m1 => (evE b m1).bind fun rb m2 => match escs m2 [ra.opd, rb.opd] with
    | some ([t, u], m3) => (match loT t, loT u with
      | some xs, some ys => .ok (zipT xs ys) m3
      | _, _ => .no)
    | _ => .no
end
/-- name += value, name -= value: whole numbers -/
def augF (f : Op) (x y : T) : Option T := match f, x, y with
  | .add, .int i, .int j => some (.int (i + j))
  | .sub, .int i, .int j => some (.int (i - j))
  | _, _, _ => none
/-- a value that is returned: an owned slot's object is moved out -/
def outR (r : R) (m : List Slot) : Option (R × List Slot) := match r with
  | .bo i => (match m[i]? with
    | some (.ow o) => some (.ow o, m.set i .no)
    | some (.fz t) => some (.fz t, m)
    | _ => none)
  | r => some (r, m)
/-- name = value -/
def putR (i : Nat) (r : R) (m : List Slot) : Fl := if i < m.length then (match r with
    | .fz t => .nx (m.set i (.fz t))
    | .ow o => .nx (m.set i (.ow o))
    | .bo j => (match esc m (.b j) with
      | some (t, m1) => .nx (m1.set i (.fz t))
      | none => .no)) else .no
def putS (f : Str) (v : T) : List (Str × T) → List (Str × T)
  | [] => [(f, v)]
  | (g, x) :: r => if g = f then (g, v) :: r else (g, x) :: putS f v r
def putSs (l : List (Str × T)) (gs : List (Str × T)) : List (Str × T) := l.foldl (fun g p => putS p.1 p.2 g) gs
def ofR (r : Res R) (k : R → List Slot → Fl) : Fl := match r with
  | .ok r m => k r m
  | .ex x m => .ex x m
  | .no => .no
variable (L : Nat)
mutual
def evS : S → List Slot → Fl
  | .set i e, m => ofR (evE cal e m) fun r m1 => putR i r m1
  | .unp p e, m => ofR (evE cal e m) fun r m1 => match esc m1 r.opd with
    | some (t, m2) => (match bindP m2 p t with
      | some m3 => .nx m3
      | none => .no)
    | none => .no
  | .par i j a b, m => ofR (evE cal a m) fun ra m1 => ofR (evE cal b m1) fun rb m2 => match escs m2 [ra.opd, rb.opd] with
    | some ([t, u], m3) => if i < m3.length ∧ j < m3.length then .nx ((m3.set i (.fz t)).set j (.fz u)) else .no
    | _ => .no
  | .aug i f e, m => match m[i]? with
    | some (.fz x) => ofR (evE cal e m) fun r m1 => (match m1[i]?, der m1 r.opd with
      | some (.fz _), some y => (match augF f x y with
        | some z => .nx (m1.set i (.fz z))
        | none => .no)
      | _, _ => .no)
    | _ => .no
  | .ex e, m => ofR (evE cal e m) fun _ m1 => .nx m1
  | .ret e, m => ofR (evE cal e m) fun r m1 => match outR r m1 with
    | some (r, m2) => .rt r m2
    | none => .no
  | .retn, m => .rt (.fz .non) m
  | .ife c a b, m => ofR (evE cal c m) fun r m1 => match r with
    | .fz (.bl true) => evSs a m1
    | .fz (.bl false) => evSs b m1
    | _ => .no
  | .wh c b, m => whGo (fun m => evE cal c m) (fun m => evSs b m) L m
  | .fr p s b, m => match evSrc cal s m with
    | .ok xs m1 => forGo p (fun m => evSs b m) xs m1
    | .ex x m1 => .ex x m1
    | .no => .no
  | .app i e, m => match m[i]? with
    | some (.ow (.lst _)) => ofR (evE cal e m) fun r m1 => (match esc m1 r.opd with
      | some (t, m2) => (match m2[i]? with
        | some (.ow (.lst xs)) => if xs.length < sizeLine then .nx (m2.set i (.ow (.lst (xs ++ [t])))) else .no
        | _ => .no)
      | none => .no)
    | _ => .no
  | .insr i k e, m => match m[i]? with
    | some (.ow (.lst _)) => ofR (evE cal k m) fun rk m1 => (match rk with
      | .fz (.int j) => ofR (evE cal e m1) fun r m2 => (match esc m2 r.opd with
        | some (t, m3) => (match m3[i]? with
          | some (.ow (.lst xs)) => if 0 ≤ j ∧ j < 2 ^ 63 ∧ xs.length < sizeLine then .nx (m3.set i (.ow (.lst (xs.take j.toNat ++ [t] ++ xs.drop j.toNat)))) else .no
          | _ => .no)
        | none => .no)
      | _ => .no)
    | _ => .no
  | .sto i k v, m => ofR (evE cal v m) fun rv m1 => match m1[i]? with
    | some (.ow _) => ofR (evE cal k m1) fun rk m2 => (match esc m2 rv.opd with
      | some (t, m3) => (match der m3 rk.opd, m3[i]? with
        | some (.int j), some (.ow (.lst xs)) => (match ixN xs.length j with
          | some n => .nx (m3.set i (.ow (.lst (xs.set n t))))
          | none => .no)
        | some kt, some (.ow (.dic kvs)) => (match keyT kt with
          | some k => if kvs.length < sizeLine then .nx (m3.set i (.ow (.dic (putT kvs k t)))) else .no
          | none => .no)
        | _, _ => .no)
      | none => .no)
    | _ => .no
  | .stf i c f e, m => ofR (evE cal e m) fun r m1 => match esc m1 r.opd with
    | some (t, m2) => (match m2[i]? with
      | some (.ow (.ins c' fs)) => if c' = c ∧ fs.length < 1000 then .nx (m2.set i (.ow (.ins c (putS f t fs)))) else .no
      | _ => .no)
    | none => .no
  | .stp i c fs e, m => ofR (evE cal e m) fun r m1 => match esc m1 r.opd with
    | some (.tup ts, m2) => (match m2[i]? with
      | some (.ow (.ins c' gs)) => if c' = c ∧ gs.length + fs.length < 1000 ∧ ts.length = fs.length then .nx (m2.set i (.ow (.ins c (putSs (fs.zip ts) gs)))) else .no
      | _ => .no)
    | _ => .no
  | .paro i j a b, m => ofR (evE cal a m) fun ra m1 => match ra with
    | .ow o1 => ofR (evE cal b m1) fun rb m2 => (match rb with
      | .ow o2 => if i < m2.length ∧ j < m2.length ∧ i ≠ j then .nx ((m2.set i (.ow o1)).set j (.ow o2)) else .no
      | _ => .no)
    | _ => .no
  | .parf i j a b, m => ofR (evE cal a m) fun ra m1 => match ra with
    | .fz t => ofR (evE cal b m1) fun rb m2 => (match rb with
      | .ow o => if i < m2.length ∧ j < m2.length ∧ i ≠ j then .nx ((m2.set i (.fz t)).set j (.ow o)) else .no
      | _ => .no)
    | _ => .no
  | .par3 i j l a b t, m => ofR (evE cal a m) fun ra m1 => match ra with
    | .fz u => ofR (evE cal b m1) fun rb m2 => (match rb with
      | .ow o => if (i < m2.length ∧ j < m2.length ∧ l < m2.length) ∧ (i ≠ j ∧ i ≠ l ∧ j ≠ l) ∧ flatT t = true then .nx (((m2.set i (.fz u)).set j (.ow o)).set l (.fz t)) else .no
      | _ => .no)
    | _ => .no
  | .scp is A b, m => match evSs b (lendM is 0 m) with
    | .nx m1 => if m1.length = m.length then .nx (wipeM m A) else .no
    | _ => .no
  | .nev, _ => .no
  | .brk, m => .bk m
  | .cnt, m => .ct m
  | .pas, m => .nx m
def evSs : Ss → List Slot → Fl
  | .nil, m => .nx m
  | .cons s r, m => match evS s m with
    | .nx m1 => evSs r m1
    | f => f
end
end
/-- what the caller sees of the arguments' slots -/
def outsM : List Bool → List Slot → List Slot
  | [], _ => []
  | _ :: io, [] => .no :: outsM io []
  | true :: io, s :: m => s :: outsM io m
  | false :: io, _ :: m => .no :: outsM io m
def runD (cal : Nat → List Slot → CRes) (L : Nat) (d : Def) (args : List Slot) : CRes := if args.length = d.np then (match evSs cal L d.body (args ++ List.replicate (d.ns - d.np) .no) with
    | .nx m => .ok (.fz .non) (outsM d.io m)
    | .rt (.bo _) _ => .no
    | .rt r m => .ok r (outsM d.io m)
    | .ex x m => .ex x (outsM d.io m)
    | _ => .no) else .no
def callF (Γ : Nat → Option Def) (L : Nat) : Nat → Nat → List Slot → CRes
  | 0, _, _ => .no
  | k + 1, f, args => match Γ f with
    | some d => runD (callF Γ L k) L d args
    | none => .no
end Mi
set_option maxHeartbeats 1000000
/-! calls with two stars: what the keywords' dict is made of -/
namespace PySem
open Sem (wp)
section
variable {prog : Program} {w : World} {K : Type} [DecidableEq K] {knd : KeyKind prog w K} {A : Around} {E : Value → Shared → Prop} {s : Shared}
theorem kw_put {d : Addr} {kvs : List (K × Value)} {k : K} {key v : Value} {Q : Unit → Shared → Prop} (hkey : knd.is k key = true) (hm : s.heap.DictOf knd d kvs) (hf : k ∉ kvs.map (·.1))
    (hQ : ∀ h', h'.DictOf knd d (kvs ++ [(k, v)]) → Heap.SameBut d s.heap h' → Q () { s with heap := h' })
    (hsz : kvs.length ≤ sizeLine) :
    wpAny (model prog w) A (dictPut d (knd.hash k) key v) Q E s := by
  obtain ⟨o, es, ep, ho, hc, hd, hk, hp, hn⟩ := hm
  have hes : es.size ≤ sizeLine := by have e1 := hp.length; have e2 : es.toList.length = es.size := by simp
                                      omega
  unfold dictPut
  refine wpAny_bind (wpAny_dictFind_of hkey ho hd hk ?_)
  have hidx : (es.findIdx? fun e => knd.is k e.key) = kvs.findIdx? fun kv => decide (kv.1 = k) := by
    rw [← hp.findIdx k]; obtain ⟨l⟩ := es; simp
  have hnone : (es.findIdx? fun e => knd.is k e.key) = none := by
    rw [hidx, List.findIdx?_eq_none_iff]
    intro x hx
    exact decide_eq_false fun e => hf (e ▸ List.mem_map.mpr ⟨x, hx, rfl⟩)
  rw [hnone]
  refine wpAny_updateDictKeys (hz := hes) ho hd (hQ _ ⟨_, _, ep + 1, Heap.get?_update_self _ ho (Obj.isFreed_of_dict (Obj.data_mapDictKeys hd _)),
      hc.mapDictKeys _, Obj.data_mapDictKeys hd _, hk.push hkey _, ?_, ?_⟩ (Heap.SameBut.update ..))
  · have := hp.append hkey (knd.hash k) v
    obtain ⟨l⟩ := es
    simpa using this
  · rw [List.map_append, List.nodup_append]
    refine ⟨hn, by simp, ?_⟩
    intro a ha b hb
    simp only [List.map_cons, List.map_nil, List.mem_singleton] at hb
    subst hb
    exact fun e => hf (e ▸ ha)
theorem kw_find {d : Addr} {kvs : List (K × Value)} {k : K} {key : Value} {Q : Option _ → Shared → Prop} (hkey : knd.is k key = true) (hm : s.heap.DictOf knd d kvs) (hf : k ∉ kvs.map (·.1))
    (hQ : Q none s) : wpAny (model prog w) A (dictFind d key (knd.hash k)) Q E s := by
  obtain ⟨o, es, ep, ho, hc, hd, hk, hp, hn⟩ := hm
  have hidx : (es.findIdx? fun e => knd.is k e.key) = kvs.findIdx? fun kv => decide (kv.1 = k) := by
    rw [← hp.findIdx k]; obtain ⟨l⟩ := es; simp
  have hnone : (es.findIdx? fun e => knd.is k e.key) = none := by
    rw [hidx, List.findIdx?_eq_none_iff]
    intro x hx
    exact decide_eq_false fun e => hf (e ▸ List.mem_map.mpr ⟨x, hx, rfl⟩)
  refine wpAny_dictFind_of hkey ho hd hk ?_
  rw [hnone]; exact hQ
theorem kw_merge {d a : Addr} {more : List (K × Value)} {Q : Unit → Shared → Prop} (hda : d ≠ a) (haS : (a == sysModules) = false) (hnr : ∀ k v, knd.is k v = true → ∀ b, v ≠ .ref b)
    (hd : s.heap.DictOf knd d []) (ha : s.heap.DictOf knd a more) (hz : more.length ≤ sizeLine)
    (hQ : ∀ h', h'.DictOf knd d more → Heap.SameBut d s.heap h' → Q () { s with heap := h' }) : wpAny (model prog w) A (mergeMapping d (.ref a) true) Q E s := by
  obtain ⟨od, esd, epd, hod, hcd, hdd, hkd, hpd, hnd⟩ := id hd
  obtain ⟨oo, eso, epo, hoo, hco, hdo', hko, hpo, hno⟩ := id ha
  have hT : s.TypeIs (.ref a) "dict" := ⟨oo, hoo, hco.1⟩
  unfold mergeMapping
  refine wpAny_bind ?_
  refine wpAny_isInstance (b := true) hT rfl ?_
  rw [if_pos rfl]
  refine wpAny_bind ?_
  refine wpAny_specialOf hT PySem.F.slot_dict_iter.lookup ?_
  refine wpAny_bind (wpAny_pure ?_)
  rw [beq_self_eq_true]
  show wpAny _ _ (if (a == sysModules) = true then _ else _) _ _ _
  rw [if_neg (by rw [haS]; exact Bool.false_ne_true)]
  have hlen : more.length = eso.size := by rw [← hpo.length]; simp
  have h0 : esd = #[] := by
    have := hpd.length; simp only [List.length_nil] at this
    exact Array.eq_empty_of_size_eq_zero (by simpa using this)
  refine wpAny_bind (wpAny_dictEntries hod hdd ?_)
  rw [h0]
  dsimp only
  rw [if_pos (show (#[] : Array DictEntry).isEmpty = true from rfl)]
  refine wpAny_bind (wpAny_dictEntries hoo hdo' ?_)
  refine wpAny_bind ?_
  rw [← Array.forIn_toList]
  refine wpAny_forIn_list _ (fun rest _ s' => s' = s ∧ ∀ e ∈ rest, ∀ b, e.key ≠ .ref b) _ ?_ ?_ _ _ ⟨rfl, fun e he b => ?_⟩
  · rintro x rest b s' ⟨rfl, hh⟩
    split
    · rename_i hx; exact absurd hx (hh x List.mem_cons_self _)
    · exact wpAny_pure ⟨rfl, fun e he => hh e (List.mem_cons_of_mem _ he)⟩
  · rintro b s' ⟨rfl, -⟩
    refine wpAny_bind (wpAny_dictEntries hoo hdo' ?_)
    refine wpAny_bind (wpAny_dictEpoch hoo hdo' ?_)
    refine wpAny_bind ?_
    rw [List.range_eq_range']
    refine wpAny_forIn_list _
      (fun rest _ s'' => ∃ h' i, s'' = { s' with heap := h' } ∧ rest = List.range' i (eso.size - i) ∧ i ≤ eso.size ∧ h'.DictOf knd d (more.take i) ∧ h'.get? a = some oo ∧ Heap.SameBut d s'.heap h')
      _ ?_ ?_ _ _ ⟨s'.heap, 0, rfl, by simp, Nat.zero_le _, by simpa using hd, hoo, Heap.SameBut.refl _ _⟩
    · rintro x rest b s'' ⟨h', i, rfl, hr, hi, hd', hoo', hs'⟩
      have hlt : i < eso.size := by
        rcases Nat.lt_or_ge i eso.size with h | h
        · exact h
        · rw [Nat.sub_eq_zero_of_le h] at hr; simp at hr
      obtain ⟨rfl, hrest⟩ : x = i ∧ rest = List.range' (i + 1) (eso.size - (i + 1)) := by
        have e : eso.size - i = (eso.size - (i + 1)) + 1 := by omega
        rw [e, List.range'_succ] at hr
        injection hr with h1 h2
        exact ⟨h1, h2⟩
      refine wpAny_bind (wpAny_dictEntries hoo' hdo' ?_)
      rw [Array.getElem?_eq_getElem hlt]
      have hxl : x < more.length := by rw [hlen]; exact hlt
      obtain ⟨kv, hkv⟩ : ∃ kv, more[x]? = some kv := ⟨more[x]'hxl, List.getElem?_eq_getElem _⟩
      obtain ⟨k, v⟩ := kv
      obtain ⟨hkey, hval⟩ := hpo.get? (e := eso[x]) (by simp [hlt]) hkv
      obtain ⟨k', hkey', hhash⟩ := hko eso[x] (Array.getElem_mem hlt)
      obtain rfl : k' = k := knd.inj _ _ _ hkey' hkey
      have htk : more.take (x + 1) = more.take x ++ [(k', v)] := by rw [List.take_add_one, hkv]; rfl
      have hfr : k' ∉ (more.take x).map (·.1) := by
        have h1 : ((more.take (x + 1)).map (·.1)).Nodup := by
          rw [List.map_take]; exact hno.sublist (List.take_sublist _ _)
        rw [htk, List.map_append, List.nodup_append] at h1
        intro hc
        exact h1.2.2 k' hc k' (by simp) rfl
      have hzx : (more.take x).length ≤ sizeLine := by rw [List.length_take]; omega
      dsimp only
      rw [if_pos rfl, hhash, hval]
      refine wpAny_bind (wpAny_holding (wpAny_bind (kw_find hkey hd' hfr ?_)))
      rw [if_neg (by exact Bool.false_ne_true)]
      refine kw_put hkey hd' hfr (fun h'' hd'' hs'' => ?_) hzx
      have hoo'' : h''.get? a = some oo := (hs''.2 a (Ne.symm hda)).trans hoo'
      refine wpAny_bind (wpAny_dictEpoch hoo'' hdo' ?_)
      rw [if_neg (by simp)]
      exact wpAny_pure ⟨h'', x + 1, rfl, hrest, hlt, htk ▸ hd'', hoo'', hs'.trans hs''⟩
    · rintro b s'' ⟨h', i, rfl, hr, hi, hd', hoo', hs'⟩
      have hin : i = eso.size := by
        rcases Nat.lt_or_ge i eso.size with h | h
        · have e : eso.size - i = (eso.size - (i + 1)) + 1 := by omega
          rw [e, List.range'_succ] at hr; exact nomatch hr
        · exact Nat.le_antisymm hi h
      refine wpAny_pure (hQ h' ?_ hs')
      rw [hin, ← hlen, List.take_length] at hd'; exact hd'
  · obtain ⟨k, hk, -⟩ := hko e (by simpa using he)
    exact hnr k _ hk b

theorem kw_merged {f : Value} {x : Sem Value} {Q : Addr → Shared → Prop} (hnr : ∀ k v, knd.is k v = true → ∀ b, v ≠ .ref b)
    (hx : wpAny (model prog w) A x (fun v s2 => ∃ a more, v = .ref a ∧ s.heap.objs.size ≠ a ∧ (a == sysModules) = false ∧ s2.heap.DictOf knd s.heap.objs.size [] ∧ s2.heap.DictOf knd a more ∧ more.length ≤ sizeLine ∧
      ∀ h', h'.DictOf knd s.heap.objs.size more → Heap.SameBut s.heap.objs.size s2.heap h' → Q s.heap.objs.size { s2 with heap := h' }) E { s with heap := s.heap.push { cls := .type "dict", data := .dict #[] } }) :
    wpAny (model prog w) A (mergedKeywords f [(none, x)]) Q E s := by
  unfold mergedKeywords
  refine wpAny_bind (wpAny_alloc ?_)
  refine wpAny_bind (wpAny_holding ?_)
  dsimp only
  rw [List.forIn_cons]
  refine wpAny_bind (wpAny_bind ?_)
  rw [if_pos (by rfl)]
  refine wpAny_bind (wpAny_pure ?_)
  refine wpAny_bind (wpAny_mono hx (fun v s2 ⟨a, more, ev, hne, haS, hd, ha, hz, hQ⟩ => ?_) fun _ _ q => q)
  subst ev
  refine wpAny_bind (wpAny_onRaise (wpAny_holding (wpAny_tryCatch (wpAny_onRaise (kw_merge hne haS hnr hd ha hz fun h' dd hs => ?_)))))
  refine wpAny_pure ?_
  dsimp only
  rw [List.forIn_nil]
  refine wpAny_pure ?_
  rw [if_pos (by rfl)]
  exact wpAny_pure (wpAny_pure (hQ h' dd hs))
theorem kw_in {f : Value} {d : Addr} {o : Obj} {es : Array DictEntry} {ep : Nat} {ks : List (Str × Value)} {M : Model} {Q : List (Str × Value) → Shared → Prop} (ho : s.heap.get? d = some o) (hd : o.data = .dict es ep)
    (hes : Paired (fun (e : DictEntry) (k : Str × Value) => (∃ t, e.key = .str k.1 t) ∧ e.val = k.2) es.toList ks) (hQ : Q ks s) : wpAny M A (keywordsIn f d) Q E s := by
  unfold keywordsIn
  refine wpAny_bind (wpAny_dictEntries ho hd ?_)
  dsimp only
  rw [← Array.forIn_toList]
  refine wpAny_bind ?_
  have key : ∀ (es : List DictEntry) (ks acc : List (Str × Value)) (Q : List (Str × Value) → Shared → Prop) (body : DictEntry → List (Str × Value) → Sem (ForInStep (List (Str × Value)))),
      (∀ e acc k t, e.key = .str k t → body e acc = pure (ForInStep.yield (acc ++ [(k, e.val)]))) → Paired (fun (e : DictEntry) (k : Str × Value) => (∃ t, e.key = .str k.1 t) ∧ e.val = k.2) es ks → Q (acc ++ ks) s → wpAny M A (forIn es acc body) Q E s := by
    intro es
    induction es with
    | nil =>
      intro ks acc Q body hb h q
      cases h
      rw [List.append_nil] at q
      rw [List.forIn_nil]
      exact wpAny_pure q
    | cons e es ih =>
      intro ks acc Q body hb h q
      cases h with
      | @cons _ k _ ks a b =>
        obtain ⟨⟨t, ha⟩, hv⟩ := a
        rw [List.forIn_cons, hb e acc _ t ha]
        refine wpAny_bind (wpAny_pure ?_)
        refine ih ks _ Q body hb b ?_
        rw [hv, List.append_assoc]
        exact q
  refine key es.toList ks [] _ _ (fun e acc k t ek => ?_) hes (wpAny_pure hQ)
  show (match e.key with | .str s _ => _ | _ => _) = _
  rw [ek]
theorem kw_args {f : Value} {M : Model} {x : Sem Value} {args : List (Bool × Sem Value)} {t : Sem Value} {rest : List (Bool × Sem Value)} {Q : Args → Shared → Prop} (he : args = (false, t) :: rest)
    (h : wpAny M A (spliced args) (fun vs s1 => wpAny M A (mergedKeywords f [(none, x)]) (fun d s2 => wpAny M A (keywordsIn f d) (fun kw s3 => Q ⟨vs, kw⟩ s3) E s2) E s1) E s) : wpAny M A (evalArgs f true args [(none, x)]) Q E s := by
  subst he
  unfold evalArgs
  dsimp only
  generalize spliced ((false, t) :: rest) = sp at h ⊢
  refine wpAny_bind (wpAny_mono h (fun vs s1 h1 => ?_) fun _ _ q => q)
  refine wpAny_bind (wpAny_pure ?_)
  refine wpAny_holding ?_
  dsimp only
  have hf : ¬ ([((none : Option Str), x)].all fun x => x.fst.isSome) = true := by
    intro z
    cases z
  rw [if_neg hf]
  refine wpAny_bind (wpAny_mono h1 (fun d s2 h2 => ?_) fun _ _ q => q)
  refine wpAny_bind (wpAny_pure ?_)
  exact wpAny_bind (wpAny_holding (wpAny_mono h2 (fun kw s3 h3 => wpAny_pure h3) fun _ _ q => q))
theorem kw_call {f : Value} {first : List Value} {M : Model} {pos : Pos} {Q : Value → Shared → Prop} {P : Heap → Prop} {args : List (Bool × Sem Value)} {kws : List (Option Str × Sem Value)} (hst : kws.any (·.1.isNone) = true)
    (hk : ∀ h, P h → ∃ k, (k = Keeper.frame ∨ k = Keeper.machine ∨ k = Keeper.boundFrame) ∧ PySem.W.Looks M h (keeperOf f) k)
    (h : wpAny M A (evalArgs f true args kws) (fun a s₁ => P s₁.heap ∧ wpAny M A (call f (first ++ a.pos) a.kw) Q E s₁) E s) : wpAny M A (callWith pos f first args kws) Q E s := by
  unfold callWith
  refine wpAny_bind (wpAny_holding (wpAny_mono h (fun a s₁ h₁ => wpAny_bind (wpAny_standAt ?_)) fun _ _ x => x))
  obtain ⟨k, hk', L⟩ := hk _ h₁.1
  simp only [hst, Bool.or_true]
  refine wpAny_bind (L.here ?_)
  have tail : ∀ {t : Sem Value}, wpAny M A t Q E s₁ → wpAny M A (t >>= fun r => holding [r] point >>= fun _ => pure r) Q E s₁ :=
    fun ht => wpAny_bind (wpAny_mono ht (fun r s₂ hr => wpAny_bind (wpAny_holding (wpAny_point (wpAny_pure hr)))) fun _ _ x => x)
  have marked (mk : Value) : wpAny M A (callMarked mk f (first ++ a.pos) a.kw) Q E s₁ := by unfold callMarked; exact Calls.wpAny_keep h₁.2
  rcases hk' with rfl | rfl | rfl <;> dsimp only <;> first | exact tail (marked _) | exact tail (wpAny_operating h₁.2)
end
end PySem
set_option maxHeartbeats 4000000
namespace Mi
open PySem PySem.Spec PyProof.Rows L2

/-! ### results, read as wishes -/
def Res.sat {α : Type} (r : Res α) (A : α → List Slot → Prop) (B : T → List Slot → Prop) : Prop := match r with
  | .ok a m => A a m
  | .ex x m => B x m
  | .no => False
theorem Res.sat_bind {α β : Type} {r : Res α} {f : α → List Slot → Res β} {A : β → List Slot → Prop} {B : T → List Slot → Prop} : (r.bind f).sat A B ↔ r.sat (fun a m => (f a m).sat A B) B := by
  cases r <;> exact Iff.rfl
theorem Res.sat_mono {α : Type} {r : Res α} {A A' : α → List Slot → Prop} {B : T → List Slot → Prop} (h : r.sat A B) (k : ∀ a m, A a m → A' a m) : r.sat A' B := by
  cases r with
  | ok a m => exact k a m h
  | ex x m => exact h
  | no => exact h

structure Ct where
  G : Gm
  w0 : Wd
  s0 : St
  fx : Nat → Bool
  EM : T → List Slot → Prop
/-- a result's relation -/
def RR (G : Gm) (w : Wd) (m : List Slot) (σ : St) : R → V → Prop
  | .fz t, v => RF G w t v
  | .ow o, v => ∃ p, v = .ref p ∧ RO G w p o ∧ w.L p ∧ ∀ (i : Nat) (o' : O), m[i]? = some (.ow o') → σ[i]? ≠ some (some (.ref p))
  | .bo i, v => σ[i]? = some (some v)
def RD (G : Gm) (w : Wd) (σ : St) : Opd → V → Prop
  | .t t, v => RF G w t v
  | .b i, v => σ[i]? = some (some v)
inductive RDs (G : Gm) (w : Wd) (σ : St) : List Opd → List V → Prop
  | nil : RDs G w σ [] []
  | cons {d : Opd} {v : V} {ds : List Opd} {vs : List V} : RD G w σ d v → RDs G w σ ds vs → RDs G w σ (d :: ds) (v :: vs)
/-- representation now: the top may be owned -/
inductive RA (G : Gm) (w : Wd) : T → V → Prop
  | fz {t : T} {v : V} : RF G w t v → RA G w t v
  | ow {o : O} {p : Addr} : RO G w p o → RA G w o.frz (.ref p)
inductive RAs (G : Gm) (w : Wd) : List T → List V → Prop
  | nil : RAs G w [] []
  | cons {t : T} {v : V} {ts : List T} {vs : List V} : RA G w t v → RAs G w ts vs → RAs G w (t :: ts) (v :: vs)
section
variable {G : Gm} {w w' : Wd} {m m' : List Slot} {σ : St}
theorem RD.mono {d : Opd} {v : V} (r : RD G w σ d v) (mo : Mo w w') : RD G w' σ d v := by
  cases d with
  | t t => exact RF.mono mo r
  | b i => exact r
theorem RDs.mono {ds : List Opd} {vs : List V} (r : RDs G w σ ds vs) (mo : Mo w w') : RDs G w' σ ds vs := by
  induction r with
  | nil => exact .nil
  | cons a _ ih => exact .cons (a.mono mo) ih
theorem RAs.length {ts : List T} {vs : List V} (r : RAs G w ts vs) : ts.length = vs.length := by
  induction r with
  | nil => rfl
  | cons _ _ ih => exact congrArg Nat.succ ih
/-- an operand is read -/
theorem SR.der (S : SR G w m σ) {d : Opd} {v : V} {t : T} (r : RD G w σ d v) (h : der m d = some t) : RA G w t v := by
  cases d with
  | t t' =>
    cases h
    exact .fz r
  | b i =>
    have r' : σ[i]? = some (some v) := r
    cases e : m[i]? with
    | none => simp [Mi.der, e] at h
    | some s =>
      have q := S.sl i s e
      cases s with
      | no => simp [Mi.der, e] at h
      | fz t' =>
        simp only [Mi.der, e, Option.some.injEq] at h
        subst h
        obtain ⟨x, e1, e2⟩ := q
        rw [r'] at e1
        cases e1
        exact .fz e2
      | ow o =>
        simp only [Mi.der, e, Option.some.injEq] at h
        subst h
        obtain ⟨a, e1, e2, _⟩ := q
        rw [r'] at e1
        cases e1
        exact .ow e2
theorem SR.ders (S : SR G w m σ) : ∀ {ds : List Opd} {vs : List V} {ts : List T}, RDs G w σ ds vs → ders m ds = some ts → RAs G w ts vs
  | _, _, _, .nil, h => by cases h; exact .nil
  | _, _, _, .cons (d := d) (ds := ds) a b, h => by
    unfold Mi.ders at h
    cases h1 : Mi.der m d with
    | none => rw [h1] at h; cases h
    | some t =>
      cases h2 : Mi.ders m ds with
      | none => rw [h1, h2] at h; cases h
      | some us =>
        rw [h1, h2] at h
        cases h
        exact .cons (S.der a h1) (S.ders b h2)
/-- an operand is kept: its slot is frozen -/
theorem SR.esc (S : SR G w m σ) {d : Opd} {v : V} {t : T} (r : RD G w σ d v) (h : esc m d = some (t, m')) : ∃ w', w'.H = w.H ∧ SR G w' m' σ ∧ Ex w w' ∧ RF G w' t v := by
  cases d with
  | t t' =>
    cases h
    exact ⟨w, rfl, S, .refl w, r⟩
  | b i =>
    have r' : σ[i]? = some (some v) := r
    cases e : m[i]? with
    | none => simp [Mi.esc, e] at h
    | some s =>
      have q := S.sl i s e
      cases s with
      | no => simp [Mi.esc, e] at h
      | fz t' =>
        simp only [Mi.esc, e, Option.some.injEq, Prod.mk.injEq] at h
        obtain ⟨rfl, rfl⟩ := h
        obtain ⟨x, e1, e2⟩ := q
        rw [r'] at e1
        cases e1
        exact ⟨w, rfl, S, .refl w, e2⟩
      | ow o =>
        simp only [Mi.esc, e, Option.some.injEq, Prod.mk.injEq] at h
        obtain ⟨rfl, rfl⟩ := h
        obtain ⟨a, e1, _, _⟩ := q
        rw [r'] at e1
        cases e1
        obtain ⟨h1, h2, h3⟩ := S.frSlot e r'
        exact ⟨w.fr a, rfl, h1, h3, h2⟩
theorem SR.escs : ∀ {ds : List Opd} {vs : List V} {ts : List T} {w : Wd} {m m' : List Slot}, SR G w m σ → RDs G w σ ds vs → escs m ds = some (ts, m') → ∃ w', w'.H = w.H ∧ SR G w' m' σ ∧ Ex w w' ∧ RFs G w' ts vs
  | _, _, _, w, _, _, S, .nil, h => by cases h; exact ⟨w, rfl, S, .refl w, .nil⟩
  | _, _, _, w, m, _, S, .cons (d := d) (ds := ds) a b, h => by
    unfold Mi.escs at h
    cases h1 : Mi.esc m d with
    | none => rw [h1] at h; cases h
    | some p =>
      obtain ⟨t, m1⟩ := p
      rw [h1] at h
      obtain ⟨w1, e1, S1, x1, r1⟩ := S.esc a h1
      simp only at h
      cases h2 : Mi.escs m1 ds with
      | none => rw [h2] at h; cases h
      | some p2 =>
        obtain ⟨us, m2⟩ := p2
        rw [h2] at h
        cases h
        obtain ⟨w2, e2, S2, x2, r2⟩ := SR.escs S1 (b.mono x1.mo) h2
        exact ⟨w2, e2.trans e1, S2, x1.trans x2, .cons (r1.mono x2.mo) r2⟩
/-- a result as an operand -/
theorem SR.opd (S : SR G w m σ) {r : R} {v : V} (q : RR G w m σ r v) : ∃ w', w'.H = w.H ∧ SR G w' m σ ∧ Ex w w' ∧ RD G w' σ r.opd v := by
  cases r with
  | fz t => exact ⟨w, rfl, S, .refl w, q⟩
  | bo i => exact ⟨w, rfl, S, .refl w, q⟩
  | ow o =>
    obtain ⟨p, rfl, r, l, n⟩ := q
    exact ⟨w.fr p, rfl, S.fr l r.trk n, .fr l, r.rf (.inr rfl) .fr rfl⟩
end

/-! ### readings -/
structure Pre (C : Ct) (w : Wd) (m : List Slot) (σ : St) : Prop where
  sr : SR C.G w m σ
  ex : Ex C.w0 w
  fix : ∀ j, C.fx j = true → σ[j]? = C.s0[j]?
theorem Pre.step {C : Ct} {w w' : Wd} {m m' : List Slot} {σ : St} (p : Pre C w m σ) (s : SR C.G w' m' σ) (x : Ex w w') : Pre C w' m' σ := ⟨s, p.ex.trans x, p.fix⟩
section
variable (C : Ct)
def rdE (f : List Slot → Res R) : TE := fun σ H Q => ∃ w m, w.H = H ∧ Pre C w m σ ∧ (f m).sat (fun r m' => ∀ w' v, SR C.G w' m' σ → Ex w w' → RR C.G w' m' σ r v → Q v w'.H) C.EM
def rdD (f : List Slot → Res Opd) : TE := fun σ H Q => ∃ w m, w.H = H ∧ Pre C w m σ ∧ (f m).sat (fun d m' => ∀ w' v, SR C.G w' m' σ → Ex w w' → RD C.G w' σ d v → Q v w'.H) C.EM
def rdDs (f : List Slot → Res (List Opd)) : TA := fun σ H Q => ∃ w m, w.H = H ∧ Pre C w m σ ∧ (f m).sat (fun ds m' => ∀ w' vs, SR C.G w' m' σ → Ex w w' → RDs C.G w' σ ds vs → Q vs w'.H) C.EM
def rdB (f : List Slot → Res R) : TT := fun σ H Q => ∃ w m, w.H = H ∧ Pre C w m σ ∧ (f m).sat (fun r m' => ∃ k, r = .fz (.bl k) ∧ ∀ w', SR C.G w' m' σ → Ex w w' → Q k w'.H) C.EM
end
theorem PE.imp {X : Cx} {e : Expr} {t t' : TE} (h : PE X e t) (i : ∀ σ H Q, t' σ H Q → t σ H Q) : PE X e t' := ⟨fun pins s σ H Q I q => h.run pins s σ H Q I (i σ H Q q)⟩
theorem PT.imp {X : Cx} {e : Expr} {t t' : TT} (h : PT X e t) (i : ∀ σ H Q, t' σ H Q → t σ H Q) : PT X e t' := ⟨fun pins s σ H Q I q => h.run pins s σ H Q I (i σ H Q q)⟩
theorem PW.imp {X : Cx} {e : Expr} {t t' : TT} (h : PW X e t) (i : ∀ σ H Q, t' σ H Q → t σ H Q) : PW X e t' := ⟨fun wh pins s σ H Q I q => h.run wh pins s σ H Q I (i σ H Q q)⟩
theorem PA.imp {X : Cx} {es : List Expr} {t t' : TA} (h : PA X es t) (i : ∀ σ H Q, t' σ H Q → t σ H Q) : PA X es t' := ⟨fun p pins s σ H Q I q => h.run p pins s σ H Q I (i σ H Q q)⟩
theorem PS.imp {X : Cx} {e : Stmt} {t t' : TS} (h : PS X e t) (i : ∀ D σ H, t' D σ H → t D σ H) : PS X e t' := ⟨fun pins s σ H D I q => h.run pins s σ H D I (i D σ H q)⟩
theorem PSs.imp {X : Cx} {e : List Stmt} {t t' : TS} (h : PSs X e t) (i : ∀ D σ H, t' D σ H → t D σ H) : PSs X e t' := ⟨fun pins s σ H D I q => h.run pins s σ H D I (i D σ H q)⟩

section
variable {C : Ct} {X : Cx}
def opdF (f : List Slot → Res R) : List Slot → Res Opd := fun m => (f m).bind fun r m' => .ok r.opd m'
theorem rd_opd {f : List Slot → Res R} {σ : St} {H : Hp} {Q : VK} (h : rdD C (opdF f) σ H Q) : rdE C f σ H Q := by
  obtain ⟨w, m, e, P, q⟩ := h
  refine ⟨w, m, e, P, ?_⟩
  rw [opdF, Res.sat_bind] at q
  refine Res.sat_mono q fun r m' k w' v S' x' rr => ?_
  obtain ⟨w2, e2, S2, x2, d2⟩ := S'.opd rr
  have := k w2 v S2 (x'.trans x2) d2
  rwa [e2] at this
theorem pe_opd {e : Expr} {f : List Slot → Res R} (h : PE X e (rdE C f)) : PE X e (rdD C (opdF f)) := PE.imp h fun _ _ _ q => rd_opd q
theorem pa_nilM : PA X [] (rdDs C fun m => .ok [] m) := PA.imp pa_nil fun σ H Q ⟨w, m, e, P, q⟩ => by
  have := q w [] P.sr (.refl w) .nil
  rwa [e] at this
/-- argument by argument -/
def consD (f : List Slot → Res R) (g : List Slot → Res (List Opd)) : List Slot → Res (List Opd) := fun m => (f m).bind fun x m1 => (g m1).bind fun xs m2 => .ok (x.opd :: xs) m2
theorem rd_cons {f : List Slot → Res R} {g : List Slot → Res (List Opd)} {σ : St} {H : Hp} {Q : List V → Hp → Prop} (h : rdDs C (consD f g) σ H Q) : tCons (rdD C (opdF f)) (rdDs C g) σ H Q := by
  obtain ⟨w, m, e, P, q⟩ := h
  refine ⟨w, m, e, P, ?_⟩
  rw [consD, Res.sat_bind] at q
  rw [opdF, Res.sat_bind]
  refine Res.sat_mono q fun r m1 q1 w1 v1 S1 x1 r1 => ?_
  rw [Res.sat_bind] at q1
  refine ⟨w1, m1, rfl, P.step S1 x1, Res.sat_mono q1 fun ds m2 q2 w2 vs S2 x2 r2 => ?_⟩
  exact q2 w2 (v1 :: vs) S2 (x1.trans x2) (.cons (r1.mono x2.mo) r2)
theorem pa_consM {e : Expr} {es : List Expr} {f : List Slot → Res R} {g : List Slot → Res (List Opd)} (h : PE X e (rdE C f)) (hr : PA X es (rdDs C g)) (hs : starEach (e :: es) X.env = (false, eval e X.env) :: starEach es X.env) : PA X (e :: es) (rdDs C (consD f g)) :=
  PA.imp (pa_cons (pe_opd h) hr hs) fun _ _ _ q => rd_cons q
end
end Mi
set_option maxHeartbeats 4000000
namespace Mi
open PySem PySem.Spec PyProof.Rows L2

section
variable {G : Gm} {w : Wd} {m : List Slot} {σ : St} {v : V}
theorem RA.cases' {t : T} (h : RA G w t v) : RF G w t v ∨ ∃ o p, t = O.frz o ∧ v = .ref p ∧ RO G w p o := by
  cases h with
  | fz r => exact .inl r
  | ow r => exact .inr ⟨_, _, rfl, rfl, r⟩
theorem RA.int {i : Int} (h : RA G w (.int i) v) : v = .int i := by
  rcases h.cases' with r | ⟨o, p, e, _, _⟩
  · cases r; rfl
  · cases o <;> cases e
theorem RA.str {i : Str} (h : RA G w (.str i) v) : v = .str i := by
  rcases h.cases' with r | ⟨o, p, e, _, _⟩
  · cases r; rfl
  · cases o <;> cases e
theorem RA.bl {i : Bool} (h : RA G w (.bl i) v) : v = .bl i := by
  rcases h.cases' with r | ⟨o, p, e, _, _⟩
  · cases r; rfl
  · cases o <;> cases e
theorem RA.non (h : RA G w .non v) : v = .non := by
  rcases h.cases' with r | ⟨o, p, e, _, _⟩
  · cases r; rfl
  · cases o <;> cases e
theorem RF.lst_inv {xs : List T} : RF G w (.lst xs) v → ∃ a vs, v = .ref a ∧ w.F a ∧ w.H a = some (.lst vs) ∧ RFs G w xs vs
  | .lst f h r => ⟨_, _, rfl, f, h, r⟩
theorem RF.tup_inv {xs : List T} : RF G w (.tup xs) v → ∃ a vs, v = .ref a ∧ ((w.F a ∧ w.H a = some (.tup vs)) ∨ KT G.K a vs) ∧ RFs G w xs vs
  | .tup h r => ⟨_, _, rfl, h, r⟩
theorem RF.scr_inv {ns : List Int} : RF G w (.scr ns) v → ∃ a, v = .ref a ∧ ((w.F a ∧ ∃ o, w.H a = some (.frz o (.lst (ns.map V.int)))) ∨ KL G.K a (ns.map V.int))
  | .scr h => ⟨_, rfl, h⟩
theorem RF.dic_inv {kvs : List (Key × T)} : RF G w (.dic kvs) v → ∃ a ks, v = .ref a ∧ w.F a ∧ Rdo (w.H a) (.dK ks) ∧ RFk G w kvs ks
  | .dic f h r => ⟨_, _, rfl, f, h, r⟩
theorem RF.ins_inv {c : Nat} {fs : List (Str × T)} : RF G w (.ins c fs) v → ∃ a dx gs, v = .ref a ∧ w.F a ∧ w.H a = some (.ins (G.cls c) dx gs) ∧ RFf G w fs gs
  | .ins f h r => ⟨_, _, _, rfl, f, h, r⟩
theorem RO.lst_inv {p : Addr} {xs : List T} : RO G w p (.lst xs) → ∃ vs, w.H p = some (.lst vs) ∧ RFs G w xs vs
  | .lst h r => ⟨_, h, r⟩
theorem RO.dic_inv {p : Addr} {kvs : List (Key × T)} : RO G w p (.dic kvs) → ∃ ks, w.H p = some (.dK ks) ∧ RFk G w kvs ks
  | .dic h r => ⟨_, h, r⟩
theorem RO.ins_inv {p : Addr} {c : Nat} {fs : List (Str × T)} : RO G w p (.ins c fs) → ∃ dx gs, w.H p = some (.ins (G.cls c) dx gs) ∧ RFf G w fs gs
  | .ins h r => ⟨_, _, h, r⟩
theorem RA.lst {xs : List T} (h : RA G w (.lst xs) v) : ∃ a vs, v = .ref a ∧ w.H a = some (.lst vs) ∧ RFs G w xs vs := by
  rcases h.cases' with r | ⟨o, p, e, rfl, r⟩
  · obtain ⟨a, vs, e, _, h1, r1⟩ := r.lst_inv
    exact ⟨a, vs, e, h1, r1⟩
  · cases o <;> cases e
    obtain ⟨vs, h1, r1⟩ := r.lst_inv
    exact ⟨_, vs, rfl, h1, r1⟩
theorem RA.tup {xs : List T} (h : RA G w (.tup xs) v) : ∃ a vs, v = .ref a ∧ SqT G.K w.H a vs ∧ RFs G w xs vs := by
  rcases h.cases' with r | ⟨o, p, e, _, _⟩
  · obtain ⟨a, vs, e, h1, r1⟩ := r.tup_inv
    refine ⟨a, vs, e, ?_, r1⟩
    rcases h1 with ⟨_, h1⟩ | h1
    · exact .inl (.inl h1)
    · exact .inr h1
  · cases o <;> cases e
theorem RA.scr {ns : List Int} (h : RA G w (.scr ns) v) : ∃ a, v = .ref a ∧ SqL G.K w.H a (ns.map V.int) := by
  rcases h.cases' with r | ⟨o, p, e, _, _⟩
  · obtain ⟨a, e, h1⟩ := r.scr_inv
    refine ⟨a, e, ?_⟩
    rcases h1 with ⟨_, o, h1⟩ | h1
    · exact .inl (.inr ⟨o, h1⟩)
    · exact .inr h1
  · cases o <;> cases e
theorem RA.dic {kvs : List (Key × T)} (h : RA G w (.dic kvs) v) : ∃ a ks, v = .ref a ∧ Rdo (w.H a) (.dK ks) ∧ RFk G w kvs ks := by
  rcases h.cases' with r | ⟨o, p, e, rfl, r⟩
  · obtain ⟨a, vs, e, _, h1, r1⟩ := r.dic_inv
    exact ⟨a, vs, e, h1, r1⟩
  · cases o <;> cases e
    obtain ⟨vs, h1, r1⟩ := r.dic_inv
    exact ⟨_, vs, rfl, .inl h1, r1⟩
theorem RA.ins {c : Nat} {fs : List (Str × T)} (h : RA G w (.ins c fs) v) : ∃ a dx gs, v = .ref a ∧ w.H a = some (.ins (G.cls c) dx gs) ∧ RFf G w fs gs := by
  rcases h.cases' with r | ⟨o, p, e, rfl, r⟩
  · obtain ⟨a, dx, vs, e, _, h1, r1⟩ := r.ins_inv
    exact ⟨a, dx, vs, e, h1, r1⟩
  · cases o <;> cases e
    obtain ⟨dx, vs, h1, r1⟩ := r.ins_inv
    exact ⟨_, dx, vs, rfl, h1, r1⟩
theorem RFs.ints : ∀ {ns : List Int} {vs : List V}, RFs G w (ns.map T.int) vs → vs = ns.map V.int
  | [], _, .nil => rfl
  | n :: ns, _, .cons a b => by
    cases a
    rw [RFs.ints b]
    rfl
theorem RFs.of_ints : ∀ (ns : List Int), RFs G w (ns.map T.int) (ns.map V.int)
  | [] => .nil
  | n :: ns => .cons (.int n) (RFs.of_ints ns)
theorem RFs.bools : ∀ {ts : List T} {vs : List V} {bs : List Bool}, RFs G w ts vs → bools ts = some bs → vs = bs.map V.bl
  | _, _, _, .nil, h => by cases h; rfl
  | _, _, _, .cons (t := t) (ts := ts) a b, h => by
    cases t with
    | bl k =>
      cases a
      cases h1 : Mi.bools ts with
      | none => simp [Mi.bools, h1] at h
      | some bs =>
        simp only [Mi.bools, h1, Option.map_some, Option.some.injEq] at h
        subst h
        rw [RFs.bools b h1]
        rfl
    | _ => simp [Mi.bools] at h
theorem RFs.strs' : ∀ {ts : List T} {vs : List V} {bs : List Str}, RFs G w ts vs → strsT ts = some bs → vs = bs.map V.str
  | _, _, _, .nil, h => by cases h; rfl
  | _, _, _, .cons (t := t) (ts := ts) a b, h => by
    cases t with
    | str k =>
      cases a
      cases h1 : Mi.strsT ts with
      | none => simp [Mi.strsT, h1] at h
      | some bs =>
        simp only [Mi.strsT, h1, Option.map_some, Option.some.injEq] at h
        subst h
        rw [RFs.strs' b h1]
        rfl
    | _ => simp [Mi.strsT] at h
/-! flat values -/
def vT : T → V
  | .non => .non
  | .bl b => .bl b
  | .int i => .int i
  | .str s => .str s
  | _ => .non
theorem RF.flat {t : T} (h : flatT t = true) (r : RF G w t v) : v = vT t := by
  cases r <;> first | rfl | cases h
theorem RA.flat {t : T} (h : flatT t = true) (r : RA G w t v) : v = vT t := by
  rcases r.cases' with r | ⟨o, p, e, _, _⟩
  · exact r.flat h
  · subst e; cases o <;> cases h
theorem RF.of_flat {t : T} (h : flatT t = true) : RF G w t (vT t) := by
  cases t <;> first | constructor | cases h
theorem flat_vT {t : T} (h : flatT t = true) : flatV (vT t) = true := by
  cases t <;> first | rfl | cases h
theorem eqT_vT {t u : T} (h : flatT t = true) (h' : flatT u = true) : eqV (vT t) (vT u) = eqT t u := by
  cases t <;> (try cases h) <;> cases u <;> first | rfl | cases h'
theorem RFs.flat : ∀ {ts : List T} {vs : List V}, RFs G w ts vs → ts.all flatT = true → vs = ts.map vT
  | _, _, .nil, _ => rfl
  | _, _, .cons a b, h => by
    rw [List.all_cons, Bool.and_eq_true] at h
    rw [a.flat h.1, RFs.flat b h.2]
    rfl
theorem all_flatV {ts : List T} (h : ts.all flatT = true) : (ts.map vT).all flatV = true := by
  rw [List.all_map]
  rw [List.all_eq_true] at h ⊢
  exact fun x hx => flat_vT (h x hx)
theorem any_eqT {ts : List T} {x : T} (hx : flatT x = true) (h : ts.all flatT = true) : inV (vT x) (ts.map vT) = ts.any fun y => eqT y x := by
  unfold inV
  induction ts with
  | nil => rfl
  | cons t r ih =>
    rw [List.all_cons, Bool.and_eq_true] at h
    rw [List.map_cons, List.any_cons, List.any_cons, ih h.2, eqT_vT h.1 hx]

/-- what follows -/
def After (G : Gm) (w : Wd) (m : List Slot) (σ : St) (res : R) (Q : VK) : Prop := ∀ w' v, SR G w' m σ → Ex w w' → RR G w' m σ res v → Q v w'.H
theorem After.fz {t : T} {Q : VK} (k : After G w m σ (.fz t) Q) (S : SR G w m σ) (r : RF G w t v) : Q v w.H := k w v S (.refl w) r
theorem After.new {o : O} {Q : VK} (k : After G w m σ (.ow o) Q) (S : SR G w m σ) {p : Addr} {u : HO} (hp : w.H p = none) (r : RO G (w.new p u) p o) : Q (.ref p) (upd w.H p u) := by
  refine k (w.new p u) (.ref p) (S.new hp) (Ex.new S.trk hp) ⟨p, rfl, r, .inr rfl, fun i o' h e => ?_⟩
  obtain ⟨a, e1, r1, _⟩ := S.sl i _ h
  rw [e] at e1
  cases e1
  obtain ⟨u', hu⟩ := r1.trk
  rw [hp] at hu
  cases hu
theorem RFs.new {xs : List T} {vs : List V} (r : RFs G w xs vs) (S : SR G w m σ) {p : Addr} {u : HO} (hp : w.H p = none) : RFs G (w.new p u) xs vs := RFs.mono (Mo.new S.trk hp) r
/-- a new list -/
theorem After.lst {xs : List T} {vs : List V} {Q : VK} (k : After G w m σ (.ow (.lst xs)) Q) (S : SR G w m σ) (r : RFs G w xs vs) : ∀ p, w.H p = none → Q (.ref p) (upd w.H p (.lst vs)) :=
  fun p hp => k.new S hp (.lst upd_same (r.new S hp))
/-- a new tuple, frozen at once -/
theorem After.tup {xs : List T} {vs : List V} {Q : VK} (k : After G w m σ (.fz (.tup xs)) Q) (S : SR G w m σ) (r : RFs G w xs vs) : ∀ p, w.H p = none → Q (.ref p) (upd w.H p (.tup vs)) := fun p hp => by
  have S1 := S.new (u := .tup vs) hp
  have r1 := r.new (u := .tup vs) S hp
  have hH : (w.new p (.tup vs)).H p = some (.tup vs) := upd_same
  refine k ((w.new p (.tup vs)).fr p) (.ref p) (S1.fr (.inr rfl) ⟨_, hH⟩ fun i o h e => ?_) ((Ex.new S.trk hp).trans (.fr (.inr rfl))) (.tup (.inl ⟨.inr rfl, hH⟩) (RFs.mono .fr r1))
  obtain ⟨a, e1, r1', _⟩ := S.sl i _ h
  rw [e] at e1
  cases e1
  obtain ⟨u', hu⟩ := r1'.trk
  rw [hp] at hu
  cases hu
end

end Mi
set_option maxHeartbeats 400000
namespace Mi
open PySem PySem.Spec PyProof.Rows L2
def OpOk2 (G : Gm) (f : Op) (r : R2) : Prop := ∀ (w : Wd) (m : List Slot) (σ : St) (t1 t2 : T) (v1 v2 : V) (res : R) (Q : VK), SR G w m σ → RA G w t1 v1 → RA G w t2 v2 → opF f [t1, t2] = some res → After G w m σ res Q → r v1 v2 w.H Q
def OpOk1 (G : Gm) (f : Op) (r : V → Hp → VK → Prop) : Prop := ∀ (w : Wd) (m : List Slot) (σ : St) (t1 : T) (v1 : V) (res : R) (Q : VK), SR G w m σ → RA G w t1 v1 → opF f [t1] = some res → After G w m σ res Q → r v1 w.H Q
section
variable {G : Gm}
/-! ### arithmetic -/
def rAddM : R2 := fun x y H Q => ((∃ i j, x = .int i ∧ y = .int j ∧ Q (.int (i + j)) H) ∨ (∃ i j, x = .str i ∧ y = .str j ∧ i.length + j.length ≤ sizeLine ∧ Q (.str (i ++ j)) H)) ∨ rCat x y H Q
theorem okAdd : OpOk2 G .add rAddM := fun w m σ t1 t2 v1 v2 res Q S a b h k => by
  replace h : addF t1 t2 = some res := h
  cases t1 <;> try (cases h; done)
  case int i =>
    cases t2 <;> try (cases h; done)
    case int j =>
      cases a.int; cases b.int
      cases h
      exact .inl (.inl ⟨i, j, rfl, rfl, k.fz S (.int _)⟩)
  case str i =>
    cases t2 <;> try (cases h; done)
    case str j =>
      cases a.str; cases b.str
      simp only [addF] at h
      split at h
      · rename_i hl
        cases h
        exact .inl (.inr ⟨i, j, rfl, rfl, hl, k.fz S (.str _)⟩)
      · cases h
  case lst xs =>
    cases t2 <;> try (cases h; done)
    case lst ys =>
      obtain ⟨p, vs, rfl, h1, r1⟩ := a.lst
      obtain ⟨q, us, rfl, h2, r2⟩ := b.lst
      simp only [addF] at h
      split at h
      · rename_i hl
        cases h
        refine .inr ⟨p, q, vs, us, rfl, rfl, h1, h2, by rw [← r1.length, ← r2.length]; exact hl, k.lst S (r1.append r2)⟩
      · cases h
def rInt2 (C : Int → Int → Prop) (g : Int → Int → V) : R2 := rI C g
theorem okSub : OpOk2 G .sub (rI0 fun i j => .int (i - j)) := fun w m σ t1 t2 v1 v2 res Q S a b h k => by
  replace h : subF t1 t2 = some res := h
  cases t1 <;> try (cases h; done)
  case int i =>
    cases t2 <;> try (cases h; done)
    case int j =>
      cases a.int; cases b.int
      cases h
      exact ⟨i, j, rfl, rfl, k.fz S (.int _)⟩
def rMulS : R2 := fun x y H Q => ∃ z n, x = .str z ∧ y = .int n ∧ 0 ≤ n ∧ n ≤ 1000 ∧ z.length ≤ 1000 ∧ Q (.str (Txt.mul z n)) H
def rMulM : R2 := fun x y H Q => rI CMulW (fun i j => .int (i * j)) x y H Q ∨ rMulS x y H Q
theorem okMul : OpOk2 G .mul rMulM := fun w m σ t1 t2 v1 v2 res Q S a b h k => by
  replace h : mulF t1 t2 = some res := h
  cases t1 <;> try (cases h; done)
  case int i =>
    cases t2 <;> try (cases h; done)
    case int j =>
      cases a.int; cases b.int
      simp only [mulF] at h
      split at h
      · rename_i hl
        cases h
        exact .inl ⟨i, j, rfl, rfl, hl, k.fz S (.int _)⟩
      · cases h
  case str z =>
    cases t2 <;> try (cases h; done)
    case int j =>
      cases a.str; cases b.int
      simp only [mulF] at h
      split at h
      · rename_i hl
        cases h
        exact .inr ⟨z, j, rfl, rfl, hl.1, hl.2.1, hl.2.2, k.fz S (.str _)⟩
      · cases h
theorem okFdiv : OpOk2 G .fdiv (rI CDivW fun i j => .int (i / j)) := fun w m σ t1 t2 v1 v2 res Q S a b h k => by
  replace h : fdivF t1 t2 = some res := h
  cases t1 <;> try (cases h; done)
  case int i =>
    cases t2 <;> try (cases h; done)
    case int j =>
      cases a.int; cases b.int
      simp only [fdivF] at h
      split at h
      · rename_i hl
        cases h
        exact ⟨i, j, rfl, rfl, hl, k.fz S (.int _)⟩
      · cases h
theorem okMod : OpOk2 G .mod (rI (fun _ j => 0 < j) fun i j => .int (i % j)) := fun w m σ t1 t2 v1 v2 res Q S a b h k => by
  replace h : modF t1 t2 = some res := h
  cases t1 <;> try (cases h; done)
  case int i =>
    cases t2 <;> try (cases h; done)
    case int j =>
      cases a.int; cases b.int
      simp only [modF] at h
      split at h
      · rename_i hl
        cases h
        exact ⟨i, j, rfl, rfl, hl, k.fz S (.int _)⟩
      · cases h
theorem okPow : OpOk2 G .pow (rI CPow fun i j => .int (i ^ j.toNat)) := fun w m σ t1 t2 v1 v2 res Q S a b h k => by
  replace h : powF t1 t2 = some res := h
  cases t1 <;> try (cases h; done)
  case int i =>
    cases t2 <;> try (cases h; done)
    case int j =>
      cases a.int; cases b.int
      simp only [powF] at h
      split at h
      · rename_i hl
        cases h
        exact ⟨i, j, rfl, rfl, hl, k.fz S (.int _)⟩
      · cases h
theorem okNeg : OpOk1 G .neg (rU fun i => .int (-i)) := fun w m σ t1 v1 res Q S a h k => by
  replace h : negF t1 = some res := h
  cases t1 <;> try (cases h; done)
  case int i =>
    cases a.int
    cases h
    exact ⟨i, rfl, k.fz S (.int _)⟩
theorem okCmp {f : Op} {p : Int → Int → Bool} (hf : ∀ x y, opF f [x, y] = cmpF p x y) : OpOk2 G f (rI0 fun i j => .bl (p i j)) := fun w m σ t1 t2 v1 v2 res Q S a b h k => by
  rw [hf] at h
  cases t1 <;> try (cases h; done)
  case int i =>
    cases t2 <;> try (cases h; done)
    case int j =>
      cases a.int; cases b.int
      cases h
      exact ⟨i, j, rfl, rfl, k.fz S (.bl _)⟩
/-! ### equality -/
theorem scal_flat {x y : T} (h : scalT x y = true) : flatT x = true ∧ flatT y = true ∧ scal (vT x) (vT y) = true ∧ decide (vT x = vT y) = eqT x y := by
  cases x with
  | non => cases y <;> first | cases h; done | exact ⟨rfl, rfl, rfl, rfl⟩
  | bl a => cases y <;> first | cases h; done | exact ⟨rfl, rfl, rfl, dec_bl⟩ | exact ⟨rfl, rfl, rfl, rfl⟩
  | int a => cases y <;> first | cases h; done | exact ⟨rfl, rfl, rfl, dec_int⟩ | exact ⟨rfl, rfl, rfl, rfl⟩
  | str a => cases y <;> first | cases h; done | exact ⟨rfl, rfl, rfl, dec_str⟩ | exact ⟨rfl, rfl, rfl, rfl⟩
  | _ => cases h
mutual
theorem RF.dp {G : Gm} {w : Wd} : ∀ (t : T) (v : V) (d : PyData), RF G w t v → pyT t = some d → Dp G.K w.H v d
  | .non, _, _, r, h => by cases r; cases h; exact .non
  | .bl b, _, _, r, h => by cases r; cases h; exact .bl b
  | .int i, _, _, r, h => by cases r; cases h; exact .int i
  | .str s, _, _, r, h => by cases r; cases h; exact .str s
  | .lst xs, v, d, r, h => by
    obtain ⟨a, vs, rfl, f, e, r⟩ := r.lst_inv
    cases h1 : pyTs xs with
    | none => rw [pyT, h1] at h; cases h
    | some ds =>
      rw [pyT, h1] at h
      cases h
      exact .lst (.inl (.inl e)) (RFs.dp xs vs ds r h1)
  | .tup xs, v, d, r, h => by
    obtain ⟨a, vs, rfl, e, r⟩ := r.tup_inv
    cases h1 : pyTs xs with
    | none => rw [pyT, h1] at h; cases h
    | some ds =>
      rw [pyT, h1] at h
      cases h
      refine .tup ?_ (RFs.dp xs vs ds r h1)
      rcases e with ⟨_, e⟩ | e
      · exact .inl (.inl e)
      · exact .inr e
  | .dic _, _, _, _, h => by cases h
  | .ins _ _, _, _, _, h => by cases h
  | .scr _, _, _, _, h => by cases h
theorem RFs.dp {G : Gm} {w : Wd} : ∀ (t : List T) (v : List V) (d : List PyData), RFs G w t v → pyTs t = some d → DpAll G.K w.H v d
  | [], _, _, r, h => by cases r; rw [pyTs] at h; cases h; exact .nil
  | t :: ts, _, _, r, h => by
    cases r with
    | cons a b =>
      cases h1 : pyT t with
      | none => rw [pyTs, h1] at h; cases h
      | some d =>
        cases h2 : pyTs ts with
        | none => rw [pyTs, h1, h2] at h; cases h
        | some ds =>
          rw [pyTs, h1, h2] at h
          cases h
          exact .cons (RF.dp t _ d a h1) (RFs.dp ts _ ds b h2)
end
theorem RA.dp {w : Wd} {t : T} {v : V} {d : PyData} (r : RA G w t v) (h : pyT t = some d) : Dp G.K w.H v d := by
  rcases r.cases' with r | ⟨o, p, rfl, rfl, r2⟩
  · exact RF.dp _ _ _ r h
  · cases o with
    | lst xs =>
      obtain ⟨vs, e, r⟩ := r2.lst_inv
      cases h1 : pyTs xs with
      | none => simp [O.frz, pyT, h1] at h
      | some ds =>
        simp only [O.frz, pyT, h1, Option.map_some, Option.some.injEq] at h
        subst h
        exact .lst (.inl (.inl e)) (RFs.dp _ _ _ r h1)
    | dic _ => cases h
    | ins _ _ => cases h
/-- two dicts of flat values, item by item -/
def sameV : V → V → Bool
  | .bl _, .bl _ => true
  | .int _, .int _ => true
  | .str _, .str _ => true
  | _, _ => false
inductive Hv (ls : List (Key × V)) : List (Key × V) → Bool → Prop
  | nil : Hv ls [] true
  | miss {k : Key} {v : V} {r : List (Key × V)} : valV ls k = none → Hv ls ((k, v) :: r) false
  | hit {k : Key} {v y : V} {r : List (Key × V)} {b : Bool} : valV ls k = some y → sameV v y = true → Hv ls r b → Hv ls ((k, v) :: r) (decide (v = y) && b)
def rDic (k' : Bool → Bool) : R2 := fun x y H Q => ∃ a b ks ls r, x = .ref a ∧ y = .ref b ∧ Rd H a (.dK ks) ∧ Rd H b (.dK ls) ∧ (ks.length = ls.length → Hv ls ks r) ∧ Q (.bl (k' (ks.length == ls.length && r))) H
theorem eqAt_sameV {A : Around} {s : Shared} {v y : V} {u u' : Value} (h : sameV v y = true) (r : RelV v u) (r' : RelV y u') : SeqAt.EqAt A s u u' (decide (v = y)) := by
  cases v <;> cases y <;> try (cases h; done)
  case bl.bl a b =>
    cases r; cases r'
    rw [show decide (V.bl a = V.bl b) = (a == b) from by cases a <;> cases b <;> rfl]
    exact SeqAt.EqAt.bool_bool a b
  case int.int a b =>
    obtain ⟨t, rfl⟩ := r
    obtain ⟨t', rfl⟩ := r'
    rw [show decide (V.int a = V.int b) = (a == b) from dec_int]
    exact SeqAt.EqAt.int_int a t b t'
  case str.str a b =>
    obtain ⟨t, rfl⟩ := r
    obtain ⟨t', rfl⟩ := r'
    rw [show decide (V.str a = V.str b) = (a == b) from dec_str]
    exact SeqAt.EqAt.str_str a t b t'
theorem hv_hits {A : Around} {s : Shared} {ls : List (Key × V)} {vb : List (Key × Value)} (rb : KV ls vb) {ks : List (Key × V)} {va : List (Key × Value)} {b : Bool} (h : Hv ls ks b) : KV ks va → PySem.W.KeqHits A s vb va b := by
  intro ra
  unfold KV at ra
  induction h generalizing va with
  | nil => cases ra; exact .nil
  | @miss k v r e =>
    cases ra with
    | @cons _ q _ qs h t =>
      obtain ⟨k2, v2⟩ := q
      obtain ⟨h1, _⟩ := h
      have h1 : k = k2 := h1
      have rr : RelO (valV ls k) (valueAt vb k) := rb.val k
      rw [e] at rr
      subst h1
      refine .miss ?_
      cases hv : valueAt vb k with
      | none => rfl
      | some z => rw [hv] at rr; exact rr.elim
  | @hit k v y r b e sv _ ih =>
    cases ra with
    | @cons _ q _ qs h t =>
      obtain ⟨k2, v2⟩ := q
      obtain ⟨h1, h2⟩ := h
      have h1 : k = k2 := h1
      subst h1
      have rr : RelO (some y) (valueAt vb k) := by rw [← e]; exact rb.val k
      obtain ⟨z, hz, rz⟩ := rr.some_of
      exact .hit hz (eqAt_sameV sv h2 rz) (ih t)
theorem op_eqDic {X : Cx} (hu : X.A.units < cLine) : OpR X (compareOp .Eq) (rDic id) := by
  intro pins s σ H x y v u Q I rx ry h
  obtain ⟨a, b, ks, ls, r, rfl, rfl, ea, eb, hp, q⟩ := h
  obtain rfl : v = Value.ref a := rx
  obtain rfl : u = Value.ref b := ry
  obtain ⟨_, ya, va, ra, da⟩ := (show ObjOk X.prog X.w H s.heap a (.dK ks) from ea.ok I.hok)
  obtain ⟨_, yb, vb, rb, db⟩ := (show ObjOk X.prog X.w H s.heap b (.dK ls) from eb.ok I.hok)
  exact PySem.W.keq_eq (knd := mixKind X.prog X.w) (r := r) ya yb da db hu (fun hl => hv_hits rb (hp (by rw [ra.length, rb.length]; exact hl)) ra) (fin_bl I q (by simp [ra.length, rb.length]))
theorem op_neDic {X : Cx} (hu : X.A.units < cLine) : OpR X (compareOp .NotEq) (rDic not) := by
  intro pins s σ H x y v u Q I rx ry h
  obtain ⟨a, b, ks, ls, r, rfl, rfl, ea, eb, hp, q⟩ := h
  obtain rfl : v = Value.ref a := rx
  obtain rfl : u = Value.ref b := ry
  obtain ⟨_, ya, va, ra, da⟩ := (show ObjOk X.prog X.w H s.heap a (.dK ks) from ea.ok I.hok)
  obtain ⟨_, yb, vb, rb, db⟩ := (show ObjOk X.prog X.w H s.heap b (.dK ls) from eb.ok I.hok)
  exact PySem.W.keq_ne (knd := mixKind X.prog X.w) (r := r) ya yb da db hu (fun hl => hv_hits rb (hp (by rw [ra.length, rb.length]; exact hl)) ra) (fin_bl I q (by simp [ra.length, rb.length]))
theorem RFk.valV {G : Gm} {w : Wd} {kvs : List (Key × T)} {ks : List (Key × V)} (r : RFk G w kvs ks) (k : Key) : (valT kvs k = none ∧ L2.valV ks k = none) ∨ ∃ t v, valT kvs k = some t ∧ L2.valV ks k = some v ∧ RF G w t v := by
  match kvs, ks, r with
  | [], [], .nil => exact .inl ⟨rfl, rfl⟩
  | (j, t) :: kvs, (_, v) :: ks, .cons a b =>
    by_cases e : j = k
    · exact .inr ⟨t, v, by simp [valT, e], by simp [L2.valV, e], a⟩
    · have := RFk.valV b k
      simpa [valT, L2.valV, e] using this
theorem sameK_v {x y : T} {G : Gm} {w : Wd} {u v : V} (h : sameK x y = true) (a : RF G w x u) (b : RF G w y v) : sameV u v = true ∧ decide (u = v) = eqT x y := by
  cases x <;> cases y <;> try (cases h; done)
  case bl.bl p q => cases a; cases b; exact ⟨rfl, dec_bl⟩
  case int.int p q => cases a; cases b; exact ⟨rfl, dec_int⟩
  case str.str p q => cases a; cases b; exact ⟨rfl, dec_str⟩
theorem hitsT_v {G : Gm} {w : Wd} {ls : List (Key × T)} {ls' : List (Key × V)} (rl : RFk G w ls ls') : ∀ {ks : List (Key × T)} {ks' : List (Key × V)} {b : Bool}, RFk G w ks ks' → hitsT ls ks = some b → Hv ls' ks' b
  | [], _, b, .nil, h => by cases h; exact .nil
  | (k, v) :: r, _, b, .cons (v := v') a rr, h => by
    rw [hitsT] at h
    rcases rl.valV k with ⟨e1, e2⟩ | ⟨t, u, e1, e2, ru⟩
    · rw [e1] at h
      cases h
      exact .miss e2
    · rw [e1] at h
      simp only at h
      split at h
      · rename_i hs
        cases hr : hitsT ls r with
        | none => rw [hr] at h; cases h
        | some b' =>
          rw [hr] at h
          cases h
          obtain ⟨s1, s2⟩ := sameK_v hs a ru
          rw [← s2]
          exact .hit e2 s1 (hitsT_v rl rr hr)
      · cases h
def rEqM (K : PySem.W.Frag) : R2 := fun x y H Q => (rEq x y H Q ∨ rEqD K x y H Q) ∨ rDic id x y H Q
def rNeM (K : PySem.W.Frag) : R2 := fun x y H Q => (rNe x y H Q ∨ rNeD K x y H Q) ∨ rDic not x y H Q
theorem okEqG {f : Op} {k' : Bool → Bool} {r1 r2 : R2} (hf : ∀ x y, opF f [x, y] = eqF x y k') (h1 : ∀ x y H Q, scal x y = true → Q (.bl (k' (decide (x = y)))) H → r1 x y H Q)
    (h2 : ∀ x y H Q d e, Dp G.K H x d → Dp G.K H y e → SeqAt.shaped d = true → SeqAt.shaped e = true → Q (.bl (k' (PyData.eqv d e))) H → r2 x y H Q) : OpOk2 G f (fun x y H Q => (r1 x y H Q ∨ r2 x y H Q) ∨ rDic k' x y H Q) := fun w m σ t1 t2 v1 v2 res Q S a b h k => by
  rw [hf] at h
  unfold eqF at h
  split at h
  · rename_i hs
    obtain ⟨f1, f2, sc, de⟩ := scal_flat hs
    cases h
    rw [a.flat f1, b.flat f2]
    refine .inl (.inl (h1 _ _ _ _ sc ?_))
    rw [de]
    exact k.fz S (.bl _)
  · split at h
    · rename_i d e hd he
      split at h
      · rename_i hsh
        cases h
        exact .inl (.inr (h2 _ _ _ _ d e (a.dp hd) (b.dp he) hsh.1 hsh.2 (k.fz S (.bl _))))
      · cases h
    · split at h
      · rename_i ks ls _ _
        obtain ⟨p, us, e1, hp, r1⟩ := a.dic
        obtain ⟨q, vs, e2, hq, r2⟩ := b.dic
        unfold eqD at h
        split at h
        · rename_i hl
          cases hh : hitsT ls ks with
          | none => rw [hh] at h; cases h
          | some c =>
            rw [hh] at h
            cases h
            refine .inr ⟨p, q, us, vs, c, e1, e2, hp, hq, fun _ => hitsT_v r2 r1 hh, ?_⟩
            rw [← r1.length, ← r2.length, hl, beq_self_eq_true, Bool.true_and]
            exact k.fz S (.bl _)
        · rename_i hl
          cases h
          refine .inr ⟨p, q, us, vs, true, e1, e2, hp, hq, fun z => absurd (by rw [r1.length, r2.length]; exact z) hl, ?_⟩
          rw [← r1.length, ← r2.length, show (ks.length == ls.length) = false from by simpa using hl, Bool.false_and]
          exact k.fz S (.bl _)
      · cases h
theorem okEq : OpOk2 G .eq (rEqM G.K) := okEqG (k' := id) (fun _ _ => rfl) (fun x y H Q s q => ⟨s, q⟩) fun x y H Q d e a b c c' q => ⟨d, e, a, b, c, c', q⟩
theorem okNe : OpOk2 G .ne (rNeM G.K) := okEqG (k' := not) (fun _ _ => rfl) (fun x y H Q s q => ⟨s, q⟩) fun x y H Q d e a b c c' q => ⟨d, e, a, b, c, c', q⟩
/-! ### in, is -/
def rInM0 (K : PySem.W.Frag) (neg : Bool) : R2 := fun x y H Q => (∃ (c : Nat) (z : Str), x = .str ⟨#[c]⟩ ∧ y = .str z ∧ Q (.bl (if neg then !decide (c ∈ z.cps.toList) else decide (c ∈ z.cps.toList))) H) ∨ rIn K neg x y H Q
/-- y in d, by its keys -/
def rInK (neg : Bool) : R2 := fun x y H Q => ∃ (a : Addr) (kvs : List (Key × V)) (k : Key), x = kV k ∧ y = .ref a ∧ Rd H a (.dK kvs) ∧ Q (.bl (if neg then !(valV kvs k).isSome else (valV kvs k).isSome)) H
def rInM (K : PySem.W.Frag) (neg : Bool) : R2 := fun x y H Q => rInM0 K neg x y H Q ∨ rInK neg x y H Q
theorem any_kv (k : Key) : ∀ {kvs : List (Key × T)} {ks : List (Key × V)} {w : Wd}, RFk G w kvs ks → (kvs.any fun kv => decide (kv.1 = k)) = (valV ks k).isSome
  | _, _, _, .nil => rfl
  | _, _, _, .cons (k := j) _ r => by
    have z := any_kv k r
    unfold valV at z ⊢
    rw [List.any_cons, z, List.find?_cons]
    cases h : decide (j = k) with
    | true => simp only [h]; rfl
    | false => simp only [h]; rfl
theorem key_v {w : Wd} {t : T} {k : Key} {v : V} (h : keyT t = some k) (r : RA G w t v) : v = kV k := by
  cases t <;> try (cases h; done)
  case int i => cases h; exact r.int
  case str s => cases h; exact r.str
theorem okInG {f : Op} {neg : Bool} (hf : ∀ x y, opF f [x, y] = inF (fun b => if neg then !b else b) x y) : OpOk2 G f (rInM G.K neg) := fun w m σ t1 t2 v1 v2 res Q S a b h k => by
  rw [hf] at h
  have seq : ∀ xs, (∃ p us, v2 = .ref p ∧ (SqL G.K w.H p us ∨ SqT G.K w.H p us) ∧ RFs G w xs us) → (if flatT t1 = true ∧ xs.all flatT = true then fB ((fun b => if neg then !b else b) (xs.any fun y => eqT y t1)) else none) = some res → rIn G.K neg v1 v2 w.H Q := fun xs ⟨p, us, e, hq, r⟩ h => by
    split at h
    · rename_i hs
      cases h
      refine ⟨p, us, e, hq, ?_, ?_, ?_⟩
      · rw [a.flat hs.1]; exact flat_vT hs.1
      · rw [r.flat hs.2]; exact all_flatV hs.2
      · rw [a.flat hs.1, r.flat hs.2, any_eqT hs.1 hs.2]
        exact k.fz S (.bl _)
    · cases h
  cases t2 with
  | lst xs =>
    obtain ⟨p, us, e, h1, r⟩ := b.lst
    refine .inl (.inr (seq xs ⟨p, us, e, .inl (.inl (.inl h1)), r⟩ ?_))
    cases t1 <;> exact h
  | tup xs =>
    obtain ⟨p, us, e, h1, r⟩ := b.tup
    refine .inl (.inr (seq xs ⟨p, us, e, .inr h1, r⟩ ?_))
    cases t1 <;> exact h
  | str z =>
    cases t1 <;> try (cases h; done)
    case str x =>
      cases a.str; cases b.str
      simp only [inF] at h
      split at h
      · rename_i c hc
        cases h
        refine .inl (.inl ⟨c, z, ?_, rfl, k.fz S (.bl _)⟩)
        obtain ⟨⟨l⟩⟩ := x
        simp only at hc
        rw [hc]
      · cases h
  | dic kvs =>
    obtain ⟨p, ks, rfl, h1, r⟩ := b.dic
    have h' : ((keyT t1).bind fun q => fB ((fun b => if neg then !b else b) (kvs.any fun kv => decide (kv.1 = q)))) = some res := by cases t1 <;> exact h
    cases e : keyT t1 with
    | none => rw [e] at h'; cases h'
    | some q =>
      rw [e] at h'
      cases h'
      refine .inr ⟨p, ks, q, key_v e a, rfl, h1, ?_⟩
      rw [any_kv q r] at k
      exact k.fz S (.bl _)
  | _ => cases t1 <;> cases h
theorem okIn : OpOk2 G .isin (rInM G.K false) := okInG fun _ _ => rfl
theorem okNotin : OpOk2 G .notin (rInM G.K true) := okInG fun _ _ => rfl
theorem isNon_v {w : Wd} {t : T} {v : V} (r : RA G w t v) : decide (v = .non) = isNon t := by
  rcases r.cases' with r | ⟨o, p, rfl, rfl, r⟩
  · cases r <;> simp [isNon]
  · cases o <;> simp [isNon, O.frz]
theorem okIsn : OpOk2 G .isn (fun x y H Q => y = .non ∧ Q (.bl (decide (x = .non))) H) := fun w m σ t1 t2 v1 v2 res Q S a b h k => by
  replace h : isnF id t1 t2 = some res := h
  unfold isnF at h
  split at h
  · rename_i hn
    cases h
    have e2 : v2 = .non := by
      have z := isNon_v b
      rw [hn] at z
      exact of_decide_eq_true z
    refine ⟨e2, ?_⟩
    rw [isNon_v a]
    exact k.fz S (.bl _)
  · cases h
theorem okNotn : OpOk2 G .notn (fun x y H Q => y = .non ∧ Q (.bl (!decide (x = .non))) H) := fun w m σ t1 t2 v1 v2 res Q S a b h k => by
  replace h : isnF not t1 t2 = some res := h
  unfold isnF at h
  split at h
  · rename_i hn
    cases h
    have e2 : v2 = .non := by
      have z := isNon_v b
      rw [hn] at z
      exact of_decide_eq_true z
    refine ⟨e2, ?_⟩
    rw [isNon_v a]
    exact k.fz S (.bl _)
  · cases h
/-! ### items -/
theorem atI_get {α : Type} {xs : List α} {i : Int} {x : α} (h : atI xs i = some x) : ∃ j, ixN xs.length i = some j ∧ xs[j]? = some x := by
  unfold atI at h
  cases e : ixN xs.length i with
  | none => rw [e] at h; cases h
  | some j => rw [e] at h; exact ⟨j, rfl, h⟩
theorem atI_of {α : Type} {xs : List α} {i : Int} {x : α} {j : Nat} (e : ixN xs.length i = some j) (h : xs[j]? = some x) : atI xs i = some x := by
  unfold atI
  rw [e]
  exact h
def rIxD : R2 := fun x y H Q => ∃ a v, x = .ref a ∧ DGet H a y (some v) ∧ Q v H
theorem ix_dict {X : Cx} (hu : X.A.units + 1 < cLine) : IxR X rIxD := by
  intro value slice pins s σ H x y v u Q I rx ry h hs
  obtain ⟨a, z, rfl, g, q⟩ := h
  cases rx
  exact tail_any (dict_typeIs I g) PySem.F.slot_dict_getitem.lookup (d_getItem hu I g ry fun w' s3 I3 rw' => ⟨z, H, I3, rw', q⟩) hs
/-- list, tuple, str or dict -/
def rIxM (K : PySem.W.Frag) : R2 := fun x y H Q => rIx K x y H Q ∨ rIxD x y H Q
theorem ix_any {X : Cx} (hu : X.A.units + 1 < cLine) : IxR X (rIxM X.K) := ix_seq.or (ix_dict hu)
theorem okIdx0 : ∀ (w : Wd) (m : List Slot) (σ : St) (t1 t2 : T) (v1 v2 : V) (res : R) (Q : VK), (∀ kvs, t1 ≠ .dic kvs) → SR G w m σ → RA G w t1 v1 → RA G w t2 v2 → opF .idx [t1, t2] = some res → After G w m σ res Q → rIx G.K v1 v2 w.H Q := fun w m σ t1 t2 v1 v2 res Q nd S a b h k => by
  replace h : idxF t1 t2 = some res := h
  cases t2 <;> try (cases t1 <;> first | exact absurd rfl (nd _) | cases h; done)
  case int i =>
    cases b.int
    cases t1 <;> try (first | exact absurd rfl (nd _) | cases h; done)
    case lst xs =>
      obtain ⟨p, vs, rfl, h1, r⟩ := a.lst
      simp only [idxF, Option.map_eq_some_iff] at h
      obtain ⟨t, h2, rfl⟩ := h
      obtain ⟨j, e1, e2⟩ := atI_get h2
      obtain ⟨v, e3, r3⟩ := r.get e2
      rw [r.length] at e1
      exact .inl ⟨p, vs, i, v, rfl, rfl, .inl (.inl h1), atI_of e1 e3, k.fz S r3⟩
    case tup xs =>
      obtain ⟨p, vs, rfl, h1, r⟩ := a.tup
      simp only [idxF, Option.map_eq_some_iff] at h
      obtain ⟨t, h2, rfl⟩ := h
      obtain ⟨j, e1, e2⟩ := atI_get h2
      obtain ⟨v, e3, r3⟩ := r.get e2
      rw [r.length] at e1
      exact .inr (.inl ⟨p, vs, i, v, rfl, rfl, h1, atI_of e1 e3, k.fz S r3⟩)
    case scr ns =>
      obtain ⟨p, rfl, h1⟩ := a.scr
      simp only [idxF, Option.map_eq_some_iff] at h
      obtain ⟨n, h2, rfl⟩ := h
      obtain ⟨j, e1, e2⟩ := atI_get h2
      exact .inl ⟨p, _, i, .int n, rfl, rfl, h1, atI_of (by rw [List.length_map]; exact e1) (by rw [List.getElem?_map, e2]; rfl), k.fz S (.int n)⟩
    case str z =>
      cases a.str
      simp only [idxF] at h
      split at h
      · rename_i hl
        simp only [Option.map_eq_some_iff] at h
        obtain ⟨c, h2, rfl⟩ := h
        exact .inr (.inr ⟨z, i, c, rfl, rfl, hl, h2, k.fz S (.str _)⟩)
      · cases h
theorem okIdx : OpOk2 G .idx (rIxM G.K) := fun w m σ t1 t2 v1 v2 res Q S a b h k => by
  by_cases hd : ∃ kvs, t1 = .dic kvs
  · obtain ⟨kvs, rfl⟩ := hd
    replace h : (keyT t2).bind (fun q => (valT kvs q).map R.fz) = some res := h
    obtain ⟨p, ks, rfl, h1, r⟩ := a.dic
    cases e : keyT t2 with
    | none => rw [e] at h; cases h
    | some q =>
      rw [e] at h
      have h : (valT kvs q).map R.fz = some res := h
      rcases r.valV q with ⟨z, _⟩ | ⟨t, v, z1, z2, r'⟩
      · rw [z] at h; cases h
      · rw [z1] at h
        cases h
        refine .inr ⟨p, v, rfl, .inl ⟨ks, q, h1, key_v e b, z2.symm⟩, k.fz S r'⟩
  · exact .inl (okIdx0 w m σ t1 t2 v1 v2 res Q (fun kvs z => hd ⟨kvs, z⟩) S a b h k)
/-! ### slices -/
def rSlM (K : PySem.W.Frag) : V → Option Int → Option Int → Hp → VK → Prop := fun x lo hi H Q => rSlL K x lo hi H Q ∨ rSlS x lo hi H Q
theorem RFs.cut {w : Wd} {xs : List T} {vs : List V} {lo hi : Option Int} (r : RFs G w xs vs) : RFs G w (cutT xs lo hi) (cutV vs lo hi) := by
  unfold cutT cutV
  rw [r.length]
  exact (r.drop _).take _
theorem cut_ints {ns : List Int} {lo hi : Option Int} : cutV (ns.map V.int) lo hi = (cutI ns lo hi).map V.int := by
  unfold cutI cutV
  rw [List.length_map, ← List.map_drop, ← List.map_take]
theorem okSl {w : Wd} {m : List Slot} {σ : St} {t : T} {v : V} {lo hi : Option Int} {res : R} {Q : VK} (S : SR G w m σ) (a : RA G w t v) (h : slF t lo hi = some res) (k : After G w m σ res Q) : rSlM G.K v lo hi w.H Q := by
  cases t <;> try (cases h; done)
  case lst xs =>
    obtain ⟨p, vs, rfl, h1, r⟩ := a.lst
    cases h
    exact .inl ⟨p, vs, rfl, .inl (.inl h1), k.lst S r.cut⟩
  case scr ns =>
    obtain ⟨p, rfl, h1⟩ := a.scr
    cases h
    refine .inl ⟨p, _, rfl, h1, ?_⟩
    rw [cut_ints]
    exact k.lst S (RFs.of_ints _)
  case str z =>
    cases a.str
    simp only [slF] at h
    split at h
    · rename_i hl
      cases h
      exact .inr ⟨z, rfl, hl, k.fz S (.str _)⟩
    · cases h
/-! ### built-in calls -/
def rLenM (K : PySem.W.Frag) : List V → Hp → VK → Prop := fun xs H Q => (∃ x n, xs = [x] ∧ LenV K x H n ∧ Q (.int n) H) ∨ ∃ a kvs, xs = [V.ref a] ∧ Rdo (H a) (.dK kvs) ∧ Q (.int kvs.length) H
theorem okLen : OpOk1 G .len (fun x H Q => rLenM G.K [x] H Q) := fun w m σ t1 v1 res Q S a h k => by
  replace h : lenF t1 = some res := h
  cases t1 <;> try (cases h; done)
  case str z =>
    cases a.str
    simp only [lenF] at h
    split at h
    · rename_i hl
      cases h
      exact .inl ⟨.str z, z.length, rfl, ⟨hl, rfl⟩, k.fz S (.int _)⟩
    · cases h
  case lst xs =>
    obtain ⟨p, vs, rfl, h1, r⟩ := a.lst
    cases h
    rw [r.length] at k
    exact .inl ⟨.ref p, vs.length, rfl, .inl ⟨vs, .inl (.inl h1), rfl⟩, k.fz S (.int _)⟩
  case tup xs =>
    obtain ⟨p, vs, rfl, h1, r⟩ := a.tup
    cases h
    rw [r.length] at k
    exact .inl ⟨.ref p, vs.length, rfl, .inr ⟨vs, h1, rfl⟩, k.fz S (.int _)⟩
  case scr ns =>
    obtain ⟨p, rfl, h1⟩ := a.scr
    cases h
    exact .inl ⟨.ref p, ns.length, rfl, .inl ⟨_, h1, by rw [List.length_map]⟩, k.fz S (.int _)⟩
  case dic kvs =>
    obtain ⟨p, ks, rfl, h1, r⟩ := a.dic
    cases h
    rw [r.length] at k
    exact .inr ⟨p, ks, rfl, h1, k.fz S (.int _)⟩
def rStrM : List V → Hp → VK → Prop := fun xs H Q => (∃ i, xs = [.int i] ∧ i.natAbs.log2 < 1920 ∧ Q (.str (toString i)) H) ∨ ∃ a, xs = [.str a] ∧ Q (.str a) H
theorem okStr : OpOk1 G .str (fun x H Q => rStrM [x] H Q) := fun w m σ t1 v1 res Q S a h k => by
  replace h : strF t1 = some res := h
  cases t1 <;> try (cases h; done)
  case int i =>
    cases a.int
    simp only [strF] at h
    split at h
    · rename_i hl
      cases h
      exact .inl ⟨i, rfl, hl, k.fz S (.str _)⟩
    · cases h
  case str z =>
    cases a.str
    cases h
    exact .inr ⟨z, rfl, k.fz S (.str _)⟩
def rIntM : List V → Hp → VK → Prop := fun xs H Q => ((∃ i, xs = [.int i] ∧ Q (.int i) H) ∨ ∃ k, xs = [.bl k] ∧ Q (.int (if k then 1 else 0)) H) ∨ ∃ a n, xs = [.str a] ∧ PySem.intText? a = some n ∧ a.length ≤ 640 ∧ Q (.int n) H
theorem okInt : OpOk1 G .int (fun x H Q => rIntM [x] H Q) := fun w m σ t1 v1 res Q S a h k => by
  replace h : intF t1 = some res := h
  cases t1 <;> try (cases h; done)
  case int i =>
    cases a.int
    cases h
    exact .inl (.inl ⟨i, rfl, k.fz S (.int _)⟩)
  case bl i =>
    cases a.bl
    cases h
    exact .inl (.inr ⟨i, rfl, k.fz S (.int _)⟩)
  case str z =>
    cases a.str
    simp only [intF] at h
    split at h
    · rename_i n hn
      split at h
      · rename_i hl
        cases h
        exact .inr ⟨z, n, rfl, hn, hl, k.fz S (.int _)⟩
      · cases h
    · cases h
theorem okAbs : OpOk1 G .abs (fun x H Q => ∃ i, [x] = [V.int i] ∧ Q (.int (if i < 0 then -i else i)) H) := fun w m σ t1 v1 res Q S a h k => by
  replace h : absF t1 = some res := h
  cases t1 <;> try (cases h; done)
  case int i =>
    cases a.int
    cases h
    exact ⟨i, rfl, k.fz S (.int _)⟩
theorem okBoo : OpOk1 G .boo (fun x H Q => (∃ i, [x] = [V.int i] ∧ Q (.bl (i != 0)) H) ∨ ∃ k, [x] = [V.bl k] ∧ Q (.bl k) H) := fun w m σ t1 v1 res Q S a h k => by
  replace h : booF t1 = some res := h
  cases t1 <;> try (cases h; done)
  case bl b =>
    cases a.bl
    cases h
    exact .inr ⟨b, rfl, k.fz S (.bl _)⟩
  case int i =>
    cases a.int
    cases h
    exact .inl ⟨i, rfl, k.fz S (.bl _)⟩
def rListM (K : PySem.W.Frag) : List V → Hp → VK → Prop := fun xs H Q => (∃ p ys, xs = [.ref p] ∧ (SqL K H p ys ∨ SqT K H p ys) ∧ ∀ l, H l = none → Q (.ref l) (upd H l (.lst ys))) ∨
  ∃ (a : Addr) (kvs : List (Key × V)), xs = [.ref a] ∧ Rd H a (.dK kvs) ∧ ∀ p, H p = none → Q (.ref p) (upd H p (.lst (kvs.map fun kv => kV kv.1)))
theorem unkey_vs {w : Wd} : ∀ {kvs : List (Key × T)} {ks : List (Key × V)}, RFk G w kvs ks → RFs G w (kvs.map fun kv => unkey kv.1) (ks.map fun kv => kV kv.1)
  | _, _, .nil => .nil
  | _, _, .cons (k := .inl i) _ r => .cons (.int i) (unkey_vs r)
  | _, _, .cons (k := .inr s) _ r => .cons (.str s) (unkey_vs r)
theorem okList : OpOk1 G .list (fun x H Q => rListM G.K [x] H Q) := fun w m σ t1 v1 res Q S a h k => by
  replace h : listF t1 = some res := h
  cases t1 <;> try (cases h; done)
  case lst xs =>
    obtain ⟨p, vs, rfl, h1, r⟩ := a.lst
    cases h
    exact .inl ⟨p, vs, rfl, .inl (.inl (.inl h1)), k.lst S r⟩
  case tup xs =>
    obtain ⟨p, vs, rfl, h1, r⟩ := a.tup
    cases h
    exact .inl ⟨p, vs, rfl, .inr h1, k.lst S r⟩
  case scr ns =>
    obtain ⟨p, rfl, h1⟩ := a.scr
    cases h
    exact .inl ⟨p, _, rfl, .inl h1, k.lst S (RFs.of_ints _)⟩
  case dic kvs =>
    obtain ⟨p, ks, rfl, h1, r⟩ := a.dic
    cases h
    exact .inr ⟨p, ks, rfl, h1, k.lst S (unkey_vs r)⟩
theorem okAll : OpOk1 G .all (fun x H Q => rAll G.K [x] H Q) := fun w m σ t1 v1 res Q S a h k => by
  replace h : allF t1 = some res := h
  cases t1 <;> try (cases h; done)
  case lst xs =>
    obtain ⟨p, vs, rfl, h1, r⟩ := a.lst
    simp only [allF] at h
    cases e : bools xs with
    | none => rw [e] at h; cases h
    | some bs =>
      rw [e] at h
      cases h
      have := r.bools e
      subst this
      exact ⟨p, bs, rfl, .inl (.inl h1), k.fz S (.bl _)⟩
theorem okAny : OpOk1 G .any (fun x H Q => rAny G.K [x] H Q) := fun w m σ t1 v1 res Q S a h k => by
  replace h : anyF t1 = some res := h
  cases t1 <;> try (cases h; done)
  case lst xs =>
    obtain ⟨p, vs, rfl, h1, r⟩ := a.lst
    simp only [anyF] at h
    cases e : bools xs with
    | none => rw [e] at h; cases h
    | some bs =>
      rw [e] at h
      cases h
      have := r.bools e
      subst this
      exact ⟨p, bs, rfl, .inl (.inl h1), k.fz S (.bl _)⟩
def rJoinM (K : PySem.W.Frag) : V → List V → Hp → VK → Prop := fun x xs H Q => ∃ a p, ∃ ys : List Str, x = .str a ∧ xs = [.ref p] ∧ (SqL K H p (ys.map V.str) ∨ SqT K H p (ys.map V.str)) ∧ (ys.map (·.length)).sum + ys.length * a.length ≤ 16777216 ∧ Q (.str (Txt.join a ys)) H
theorem okJoin : OpOk2 G .join (fun x y H Q => (∃ a, x = .str a) ∧ rJoinM G.K x [y] H Q) := fun w m σ t1 t2 v1 v2 res Q S a b h k => by
  replace h : joinF t1 t2 = some res := h
  cases t1 <;> try (cases h; done)
  case str z =>
    cases t2 <;> try (cases h; done)
    case lst xs =>
      cases a.str
      obtain ⟨p, vs, rfl, h1, r⟩ := b.lst
      simp only [joinF] at h
      cases e : strsT xs with
      | none => rw [e] at h; cases h
      | some ys =>
        rw [e] at h
        simp only [Option.bind_some] at h
        split at h
        · rename_i hl
          cases h
          have := r.strs' e
          subst this
          exact ⟨⟨z, rfl⟩, z, p, ys, rfl, rfl, .inl (.inl (.inl h1)), hl, k.fz S (.str _)⟩
        · cases h
/-! ### isinstance -/
def Ty.nm : Ty → String
  | .int => "int" | .bool => "bool" | .str => "str" | .list => "list" | .tuple => "tuple" | .dict => "dict"
def tyT : T → String
  | .non => "NoneType" | .bl _ => "bool" | .int _ => "int" | .str _ => "str" | .lst _ => "list" | .tup _ => "tuple" | .dic _ => "dict" | .scr _ => "list" | .ins _ _ => "object"
end
end Mi
set_option maxHeartbeats 1000000
namespace Mi
open PySem PySem.Spec PyProof.Rows L2

section
variable {C : Ct} {X : Cx} {cal : Nat → List Slot → CRes}
theorem n_cst {e : Expr} {v : V} {t : T} (h : PE X e (tC v)) (r : ∀ w, RF C.G w t v) : PE X e (rdE C (evE cal (.c t))) := PE.imp h fun σ H Q ⟨w, m, e, P, q⟩ => by
  rw [evE] at q
  have := q w v P.sr (.refl w) (r w)
  rwa [e] at this
theorem n_var {e : Expr} {i : Nat} (h : PE X e (tVar i)) : PE X e (rdE C (evE cal (.var i))) := PE.imp h fun σ H Q ⟨w, m, e, P, q⟩ => by
  rw [evE] at q
  cases h1 : m[i]? with
  | none => rw [h1] at q; exact q.elim
  | some s =>
    rw [h1] at q
    have sl := P.sr.sl i s h1
    cases s with
    | no => exact q.elim
    | fz t =>
      obtain ⟨v, e1, r⟩ := sl
      have := q w v P.sr (.refl w) r
      rw [e] at this
      exact ⟨v, e1, this⟩
    | ow o =>
      obtain ⟨a, e1, r, l⟩ := sl
      have := q w (.ref a) P.sr (.refl w) e1
      rw [e] at this
      exact ⟨_, e1, this⟩
/-- displays -/
theorem n_lst {e : Expr} {es : Es} {exs : List Expr} (hp : ∀ t, PA X exs t → PE X e (tLst t)) (h : PA X exs (rdDs C (evDs cal es))) : PE X e (rdE C (evE cal (.lst es))) := PE.imp (hp _ h) fun σ H Q ⟨w, m, e, P, q⟩ => by
  rw [evE, Res.sat_bind] at q
  refine ⟨w, m, e, P, Res.sat_mono q fun ds m1 q1 w1 vs S1 x1 r1 => ?_⟩
  cases h1 : escs m1 ds with
  | none => rw [h1] at q1; exact q1.elim
  | some p =>
    obtain ⟨ts, m2⟩ := p
    rw [h1] at q1
    simp only at q1
    obtain ⟨w2, e2, S2, x2, r2⟩ := SR.escs S1 r1 h1
    split at q1
    · rename_i hl
      refine ⟨by rw [← r2.length]; exact hl, ?_⟩
      rw [← e2]
      exact After.lst (fun w' v S' x' r' => q1 w' v S' (x1.trans (x2.trans x')) r') S2 r2
    · exact q1.elim
theorem n_tup {e : Expr} {es : Es} {exs : List Expr} (hp : ∀ t, PA X exs t → PE X e (tTup t)) (h : PA X exs (rdDs C (evDs cal es))) : PE X e (rdE C (evE cal (.tup es))) := PE.imp (hp _ h) fun σ H Q ⟨w, m, e, P, q⟩ => by
  rw [evE, Res.sat_bind] at q
  refine ⟨w, m, e, P, Res.sat_mono q fun ds m1 q1 w1 vs S1 x1 r1 => ?_⟩
  cases h1 : escs m1 ds with
  | none => rw [h1] at q1; exact q1.elim
  | some p =>
    obtain ⟨ts, m2⟩ := p
    rw [h1] at q1
    simp only at q1
    obtain ⟨w2, e2, S2, x2, r2⟩ := SR.escs S1 r1 h1
    split at q1
    · rename_i hl
      refine ⟨by rw [← r2.length]; exact hl, ?_⟩
      rw [← e2]
      exact After.tup (fun w' v S' x' r' => q1 w' v S' (x1.trans (x2.trans x')) r') S2 r2
    · exact q1.elim
/-! operations -/
theorem opR_sat {f : Op} {ds : List Opd} {m : List Slot} {A : R → List Slot → Prop} {B : T → List Slot → Prop} (h : (opR f ds m).sat A B) : ∃ ts r, ders m ds = some ts ∧ opF f ts = some r ∧ A r m := by
  unfold opR at h
  cases h1 : ders m ds with
  | none => rw [h1] at h; exact h.elim
  | some ts =>
    rw [h1] at h
    simp only at h
    cases h2 : opF f ts with
    | none => rw [h2] at h; exact h.elim
    | some r =>
      rw [h2] at h
      exact ⟨ts, r, rfl, h2, h⟩
theorem ders2 {m : List Slot} {d1 d2 : Opd} {ts : List T} (h : ders m [d1, d2] = some ts) : ∃ t1 t2, ts = [t1, t2] ∧ der m d1 = some t1 ∧ der m d2 = some t2 := by
  unfold ders ders ders at h
  cases h1 : der m d1 with
  | none => rw [h1] at h; cases h
  | some t1 =>
    cases h2 : der m d2 with
    | none => rw [h1, h2] at h; cases h
    | some t2 =>
      rw [h1, h2] at h
      cases h
      exact ⟨t1, t2, rfl, rfl, rfl⟩
theorem ders1 {m : List Slot} {d1 : Opd} {ts : List T} (h : ders m [d1] = some ts) : ∃ t1, ts = [t1] ∧ der m d1 = some t1 := by
  unfold ders ders at h
  cases h1 : der m d1 with
  | none => rw [h1] at h; cases h
  | some t1 =>
    rw [h1] at h
    cases h
    exact ⟨t1, rfl, rfl⟩
theorem rd_op2 {f : Op} {a b : E} {r : R2} (ok : OpOk2 C.G f r) {σ : St} {H : Hp} {Q : VK} (h : rdE C (evE cal (.op f (.cons a (.cons b .nil)))) σ H Q) : tOp r (rdD C (opdF (evE cal a))) (rdD C (opdF (evE cal b))) σ H Q := by
  obtain ⟨w, m, e, P, q⟩ := h
  rw [evE, Res.sat_bind, evDs, Res.sat_bind] at q
  refine ⟨w, m, e, P, ?_⟩
  rw [opdF, Res.sat_bind]
  refine Res.sat_mono q fun ra m1 q1 w1 v1 S1 x1 r1 => ?_
  rw [evDs, Res.sat_bind, Res.sat_bind] at q1
  refine ⟨w1, m1, rfl, P.step S1 x1, ?_⟩
  rw [opdF, Res.sat_bind]
  refine Res.sat_mono q1 fun rb m2 q2 w2 v2 S2 x2 r2 => ?_
  obtain ⟨ts, res, h1, h2, h3⟩ := opR_sat q2
  obtain ⟨t1, t2, rfl, g1, g2⟩ := ders2 h1
  exact ok w2 m2 σ t1 t2 v1 v2 res Q S2 (S2.der (r1.mono x2.mo) g1) (S2.der r2 g2) h2 fun w' v S' x' r' => h3 w' v S' (x1.trans (x2.trans x')) r'
theorem n_op2 {ex ea eb : Expr} {f : Op} {a b : E} {r : R2} (hp : ∀ ta tb, PE X ea ta → PE X eb tb → PE X ex (tOp r ta tb)) (ok : OpOk2 C.G f r) (ha : PE X ea (rdE C (evE cal a))) (hb : PE X eb (rdE C (evE cal b))) :
    PE X ex (rdE C (evE cal (.op f (.cons a (.cons b .nil))))) := PE.imp (hp _ _ (pe_opd ha) (pe_opd hb)) fun σ H Q q => rd_op2 ok q
theorem n_op1 {ex ea : Expr} {f : Op} {a : E} {r : V → Hp → VK → Prop} (hp : ∀ ta, PE X ea ta → PE X ex (tUn r ta)) (ok : OpOk1 C.G f r) (ha : PE X ea (rdE C (evE cal a))) :
    PE X ex (rdE C (evE cal (.op f (.cons a .nil)))) := PE.imp (hp _ (pe_opd ha)) fun σ H Q ⟨w, m, e, P, q⟩ => by
  rw [evE, Res.sat_bind, evDs, Res.sat_bind] at q
  refine ⟨w, m, e, P, ?_⟩
  rw [opdF, Res.sat_bind]
  refine Res.sat_mono q fun ra m1 q1 w1 v1 S1 x1 r1 => ?_
  obtain ⟨ts, res, h1, h2, h3⟩ := opR_sat q1
  obtain ⟨t1, rfl, g1⟩ := ders1 h1
  exact ok w1 m1 σ t1 v1 res Q S1 (S1.der r1 g1) h2 fun w' v S' x' r' => h3 w' v S' (x1.trans x') r'
/-! booleans -/
theorem n_and {ex ea eb : Expr} {a b : E} (hp : ∀ ta tb, PE X ea ta → PE X eb tb → PE X ex (tAndV ta tb)) (ha : PE X ea (rdE C (evE cal a))) (hb : PE X eb (rdE C (evE cal b))) : PE X ex (rdE C (evE cal (.an a b))) :=
  PE.imp (hp _ _ ha hb) fun σ H Q ⟨w, m, e, P, q⟩ => by
  rw [evE, Res.sat_bind] at q
  refine ⟨w, m, e, P, Res.sat_mono q fun r m1 q1 w1 v1 S1 x1 r1 => ?_⟩
  split at q1
  · cases r1
    refine ⟨true, rfl, ?_⟩
    rw [if_pos rfl]
    exact ⟨w1, m1, rfl, P.step S1 x1, Res.sat_mono q1 fun r m2 q2 w2 v2 S2 x2 r2 => q2 w2 v2 S2 (x1.trans x2) r2⟩
  · cases r1
    refine ⟨false, rfl, ?_⟩
    rw [if_neg (by decide)]
    exact q1 w1 (.bl false) S1 x1 (.bl false)
  · exact q1.elim
theorem n_or {ex ea eb : Expr} {a b : E} (hp : ∀ ta tb, PE X ea ta → PE X eb tb → PE X ex (tOrV ta tb)) (ha : PE X ea (rdE C (evE cal a))) (hb : PE X eb (rdE C (evE cal b))) : PE X ex (rdE C (evE cal (.or a b))) :=
  PE.imp (hp _ _ ha hb) fun σ H Q ⟨w, m, e, P, q⟩ => by
  rw [evE, Res.sat_bind] at q
  refine ⟨w, m, e, P, Res.sat_mono q fun r m1 q1 w1 v1 S1 x1 r1 => ?_⟩
  split at q1
  · cases r1
    refine ⟨true, rfl, ?_⟩
    rw [if_pos rfl]
    exact q1 w1 (.bl true) S1 x1 (.bl true)
  · cases r1
    refine ⟨false, rfl, ?_⟩
    rw [if_neg (by decide)]
    exact ⟨w1, m1, rfl, P.step S1 x1, Res.sat_mono q1 fun r m2 q2 w2 v2 S2 x2 r2 => q2 w2 v2 S2 (x1.trans x2) r2⟩
  · exact q1.elim
theorem n_not {ex ea : Expr} {a : E} (hp : ∀ ta, PE X ea ta → PE X ex (tNotV ta)) (ha : PE X ea (rdE C (evE cal a))) : PE X ex (rdE C (evE cal (.nt a))) :=
  PE.imp (hp _ ha) fun σ H Q ⟨w, m, e, P, q⟩ => by
  rw [evE, Res.sat_bind] at q
  refine ⟨w, m, e, P, Res.sat_mono q fun r m1 q1 w1 v1 S1 x1 r1 => ?_⟩
  split at q1
  · rename_i k
    cases r1
    exact ⟨k, rfl, q1 w1 _ S1 x1 (.bl _)⟩
  · exact q1.elim
theorem n_ite {ex ec ea eb : Expr} {c a b : E} (hp : ∀ tc ta tb, PT X ec tc → PE X ea ta → PE X eb tb → PE X ex (tIf tc ta tb)) (hc : PT X ec (rdB C (evE cal c))) (ha : PE X ea (rdE C (evE cal a))) (hb : PE X eb (rdE C (evE cal b))) : PE X ex (rdE C (evE cal (.ite c a b))) :=
  PE.imp (hp _ _ _ hc ha hb) fun σ H Q ⟨w, m, e, P, q⟩ => by
  rw [evE, Res.sat_bind] at q
  refine ⟨w, m, e, P, Res.sat_mono q fun r m1 q1 => ?_⟩
  split at q1
  · refine ⟨true, rfl, fun w1 S1 x1 => ?_⟩
    dsimp only
    rw [if_pos rfl]
    exact ⟨w1, m1, rfl, P.step S1 x1, Res.sat_mono q1 fun r m2 q2 w2 v2 S2 x2 r2 => q2 w2 v2 S2 (x1.trans x2) r2⟩
  · refine ⟨false, rfl, fun w1 S1 x1 => ?_⟩
    dsimp only
    rw [if_neg (by decide)]
    exact ⟨w1, m1, rfl, P.step S1 x1, Res.sat_mono q1 fun r m2 q2 w2 v2 S2 x2 r2 => q2 w2 v2 S2 (x1.trans x2) r2⟩
  · exact q1.elim
theorem rd_chain {f g : Op} {a b c : E} {r r' : R2} (ok : OpOk2 C.G f r) (ok' : OpOk2 C.G g r') {σ : St} {H : Hp} {Q : VK} (h : rdE C (evE cal (.ch f g a b c)) σ H Q) : tChain r r' (rdD C (opdF (evE cal a))) (rdD C (opdF (evE cal b))) (rdD C (opdF (evE cal c))) σ H Q := by
  obtain ⟨w, m, e, P, q⟩ := h
  rw [evE, Res.sat_bind] at q
  refine ⟨w, m, e, P, ?_⟩
  rw [opdF, Res.sat_bind]
  refine Res.sat_mono q fun ra m1 q1 w1 v1 S1 x1 r1 => ?_
  rw [Res.sat_bind] at q1
  refine ⟨w1, m1, rfl, P.step S1 x1, ?_⟩
  rw [opdF, Res.sat_bind]
  refine Res.sat_mono q1 fun rb m2 q2 w2 v2 S2 x2 r2 => ?_
  rw [Res.sat_bind] at q2
  obtain ⟨ts, res, h1, h2, h3⟩ := opR_sat q2
  obtain ⟨t1, t2, rfl, g1, g2⟩ := ders2 h1
  have r1' := r1.mono x2.mo
  refine ok w2 m2 σ t1 t2 v1 v2 res _ S2 (S2.der r1' g1) (S2.der r2 g2) h2 fun w3 v3 S3 x3 r3 => ?_
  split at h3
  · cases r3
    refine ⟨true, rfl, ?_⟩
    rw [if_pos rfl]
    rw [Res.sat_bind] at h3
    refine ⟨w3, m2, rfl, (P.step S1 x1).step S3 (x2.trans x3), ?_⟩
    rw [opdF, Res.sat_bind]
    refine Res.sat_mono h3 fun rc m4 q4 w4 v4 S4 x4 r4 => ?_
    obtain ⟨us, res', h1', h2', h3'⟩ := opR_sat q4
    obtain ⟨u1, u2, rfl, g1', g2'⟩ := ders2 h1'
    exact ok' w4 m4 σ u1 u2 v2 v4 res' Q S4 (S4.der ((r2.mono x3.mo).mono x4.mo) g1') (S4.der r4 g2') h2' fun w' v S' x' r' => h3' w' v S' (x1.trans (x2.trans (x3.trans (x4.trans x')))) r'
  · cases r3
    refine ⟨false, rfl, ?_⟩
    rw [if_neg (by decide)]
    exact h3 w3 (.bl false) S3 (x1.trans (x2.trans x3)) (.bl false)
  · exact h3.elim
theorem n_chain {ex ea eb ec : Expr} {f g : Op} {a b c : E} {r r' : R2} (hp : ∀ ta tb tc, PE X ea ta → PE X eb tb → PE X ec tc → PE X ex (tChain r r' ta tb tc)) (ok : OpOk2 C.G f r) (ok' : OpOk2 C.G g r')
    (ha : PE X ea (rdE C (evE cal a))) (hb : PE X eb (rdE C (evE cal b))) (hc : PE X ec (rdE C (evE cal c))) : PE X ex (rdE C (evE cal (.ch f g a b c))) := PE.imp (hp _ _ _ (pe_opd ha) (pe_opd hb) (pe_opd hc)) fun σ H Q q => rd_chain ok ok' q
/-! tests -/
theorem rd_bool {a : E} {σ : St} {H : Hp} {Q : Bool → Hp → Prop} (h : rdB C (evE cal a) σ H Q) : rdE C (evE cal a) σ H fun x H1 => ∃ c, x = .bl c ∧ Q c H1 := by
  obtain ⟨w, m, e, P, q⟩ := h
  refine ⟨w, m, e, P, Res.sat_mono q fun r m1 ⟨k, hk, q1⟩ w1 v1 S1 x1 r1 => ?_⟩
  subst hk
  cases r1
  exact ⟨k, rfl, q1 w1 S1 x1⟩
theorem t_val {ex : Expr} {a : E} (hp : ∀ t, PE X ex t → PT X ex (tB t)) (h : PE X ex (rdE C (evE cal a))) : PT X ex (rdB C (evE cal a)) := PT.imp (hp _ h) fun σ H Q q => rd_bool q
theorem t_op2 {ex ea eb : Expr} {f : Op} {a b : E} {r : R2} (hp : ∀ ta tb, PE X ea ta → PE X eb tb → PT X ex (tTest (tOp r ta tb))) (ok : OpOk2 C.G f r) (ha : PE X ea (rdE C (evE cal a))) (hb : PE X eb (rdE C (evE cal b))) :
    PT X ex (rdB C (evE cal (.op f (.cons a (.cons b .nil))))) := PT.imp (hp _ _ (pe_opd ha) (pe_opd hb)) fun σ H Q q => rd_op2 ok (rd_bool q)
theorem t_chain {ex ea eb ec : Expr} {f g : Op} {a b c : E} {r r' : R2} (hp : ∀ ta tb tc, PE X ea ta → PE X eb tb → PE X ec tc → PT X ex (tTest (tChain r r' ta tb tc))) (ok : OpOk2 C.G f r) (ok' : OpOk2 C.G g r')
    (ha : PE X ea (rdE C (evE cal a))) (hb : PE X eb (rdE C (evE cal b))) (hc : PE X ec (rdE C (evE cal c))) : PT X ex (rdB C (evE cal (.ch f g a b c))) := PT.imp (hp _ _ _ (pe_opd ha) (pe_opd hb) (pe_opd hc)) fun σ H Q q => rd_chain ok ok' (rd_bool q)
theorem t_not {ex ea : Expr} {a : E} (hp : ∀ ta, PT X ea ta → PT X ex (tNot ta)) (h : PT X ea (rdB C (evE cal a))) : PT X ex (rdB C (evE cal (.nt a))) := PT.imp (hp _ h) fun σ H Q ⟨w, m, e, P, q⟩ => by
  rw [evE, Res.sat_bind] at q
  refine ⟨w, m, e, P, Res.sat_mono q fun r m1 q1 => ?_⟩
  split at q1
  · rename_i k
    obtain ⟨k', hk, q1⟩ := q1
    cases hk
    exact ⟨k, rfl, q1⟩
  · exact q1.elim
theorem t_and {ex ea eb : Expr} {a b : E} (hp : ∀ ta tb, PT X ea ta → PT X eb tb → PT X ex (tAnd ta tb)) (ha : PT X ea (rdB C (evE cal a))) (hb : PT X eb (rdB C (evE cal b))) : PT X ex (rdB C (evE cal (.an a b))) := PT.imp (hp _ _ ha hb) fun σ H Q ⟨w, m, e, P, q⟩ => by
  rw [evE, Res.sat_bind] at q
  refine ⟨w, m, e, P, Res.sat_mono q fun r m1 q1 => ?_⟩
  split at q1
  · refine ⟨true, rfl, fun w1 S1 x1 => ?_⟩
    dsimp only
    rw [if_pos rfl]
    exact ⟨w1, m1, rfl, P.step S1 x1, Res.sat_mono q1 fun r m2 ⟨k, hk, q2⟩ => ⟨k, hk, fun w2 S2 x2 => q2 w2 S2 (x1.trans x2)⟩⟩
  · obtain ⟨k, hk, q1⟩ := q1
    cases hk
    refine ⟨false, rfl, fun w1 S1 x1 => ?_⟩
    dsimp only
    rw [if_neg (by decide)]
    exact q1 w1 S1 x1
  · exact q1.elim
theorem t_or {ex ea eb : Expr} {a b : E} (hp : ∀ ta tb, PT X ea ta → PT X eb tb → PT X ex (tOr ta tb)) (ha : PT X ea (rdB C (evE cal a))) (hb : PT X eb (rdB C (evE cal b))) : PT X ex (rdB C (evE cal (.or a b))) := PT.imp (hp _ _ ha hb) fun σ H Q ⟨w, m, e, P, q⟩ => by
  rw [evE, Res.sat_bind] at q
  refine ⟨w, m, e, P, Res.sat_mono q fun r m1 q1 => ?_⟩
  split at q1
  · obtain ⟨k, hk, q1⟩ := q1
    cases hk
    refine ⟨true, rfl, fun w1 S1 x1 => ?_⟩
    dsimp only
    rw [if_pos rfl]
    exact q1 w1 S1 x1
  · refine ⟨false, rfl, fun w1 S1 x1 => ?_⟩
    dsimp only
    rw [if_neg (by decide)]
    exact ⟨w1, m1, rfl, P.step S1 x1, Res.sat_mono q1 fun r m2 ⟨k, hk, q2⟩ => ⟨k, hk, fun w2 S2 x2 => q2 w2 S2 (x1.trans x2)⟩⟩
  · exact q1.elim
end
end Mi
set_option maxHeartbeats 1000000
namespace Mi
open PySem PySem.Spec PyProof.Rows L2

/-- p stands in no owned slot -/
def Off (m : List Slot) (σ : St) (p : Addr) : Prop := ∀ (j : Nat) (o : O), m[j]? = some (.ow o) → σ[j]? ≠ some (some (.ref p))
def Sub (m m1 : List Slot) : Prop := ∀ (j : Nat) (o : O), m1[j]? = some (.ow o) → m[j]? = some (.ow o)
/-- what is owned and stands in no slot stays owned -/
def Kept (w : Wd) (m : List Slot) (σ : St) (w1 : Wd) : Prop := ∀ p, w.L p → Off m σ p → w1.L p
theorem Off.sub {m m1 : List Slot} {σ : St} {p : Addr} (h : Off m σ p) (s : Sub m m1) : Off m1 σ p := fun j o e => h j o (s j o e)
theorem Sub.refl (m : List Slot) : Sub m m := fun _ _ h => h
theorem Sub.trans {a b c : List Slot} (x : Sub a b) (y : Sub b c) : Sub a c := fun j o h => x j o (y j o h)
theorem Sub.setNo {m : List Slot} {i : Nat} : Sub m (m.set i .no) := fun j o h => by
  by_cases e : j = i
  · subst e
    by_cases lt : j < m.length
    · rw [List.getElem?_set_self lt] at h; cases h
    · rw [List.getElem?_eq_none (by rw [List.length_set]; omega)] at h; cases h
  · rwa [List.getElem?_set_ne (Ne.symm e)] at h
theorem Sub.setFz {m : List Slot} {i : Nat} {t : T} : Sub m (m.set i (.fz t)) := fun j o h => by
  by_cases e : j = i
  · subst e
    by_cases lt : j < m.length
    · rw [List.getElem?_set_self lt] at h; cases h
    · rw [List.getElem?_eq_none (by rw [List.length_set]; omega)] at h; cases h
  · rwa [List.getElem?_set_ne (Ne.symm e)] at h
section
variable {G : Gm} {w w' : Wd} {m m' : List Slot} {σ : St}
theorem esc_sub {d : Opd} {t : T} (h : esc m d = some (t, m')) : Sub m m' := by
  cases d with
  | t t' => cases h; exact .refl _
  | b i =>
    cases e : m[i]? with
    | none => simp [esc, e] at h
    | some s =>
      cases s with
      | no => simp [esc, e] at h
      | fz t' =>
        simp only [esc, e, Option.some.injEq, Prod.mk.injEq] at h
        obtain ⟨_, rfl⟩ := h
        exact .refl _
      | ow o =>
        simp only [esc, e, Option.some.injEq, Prod.mk.injEq] at h
        obtain ⟨_, rfl⟩ := h
        exact .setFz
theorem SR.escK (S : SR G w m σ) {d : Opd} {v : V} {t : T} (r : RD G w σ d v) (h : Mi.esc m d = some (t, m')) : ∃ w', w'.H = w.H ∧ SR G w' m' σ ∧ Ex w w' ∧ RF G w' t v ∧ Kept w m σ w' := by
  cases d with
  | t t' =>
    cases h
    exact ⟨w, rfl, S, .refl w, r, fun _ l _ => l⟩
  | b i =>
    have r' : σ[i]? = some (some v) := r
    cases e : m[i]? with
    | none => simp [Mi.esc, e] at h
    | some s =>
      have q := S.sl i s e
      cases s with
      | no => simp [Mi.esc, e] at h
      | fz t' =>
        simp only [Mi.esc, e, Option.some.injEq, Prod.mk.injEq] at h
        obtain ⟨rfl, rfl⟩ := h
        obtain ⟨x, e1, e2⟩ := q
        rw [r'] at e1
        cases e1
        exact ⟨w, rfl, S, .refl w, e2, fun _ l _ => l⟩
      | ow o =>
        simp only [Mi.esc, e, Option.some.injEq, Prod.mk.injEq] at h
        obtain ⟨rfl, rfl⟩ := h
        obtain ⟨a, e1, _, _⟩ := q
        rw [r'] at e1
        cases e1
        obtain ⟨h1, h2, h3⟩ := S.frSlot e r'
        exact ⟨w.fr a, rfl, h1, h3, h2, fun p l f => ⟨l, fun z => f i o e (z ▸ r')⟩⟩
end
/-- passed arguments -/
structure PR (G : Gm) (w : Wd) (m m1 : List Slot) (σ : St) (args : List Slot) (vs : List V) : Prop where
  len : args.length = vs.length
  sl : ∀ (k : Nat) (s : Slot), args[k]? = some s → SlR G w s (vs[k]?.map some)
  src : ∀ (k : Nat) (o : O) (b : Addr), args[k]? = some (.ow o) → vs[k]? = some (.ref b) → ∃ j : Nat, m[j]? = some (.ow o) ∧ σ[j]? = some (some (.ref b))
  inj : ∀ (k l : Nat) (o o' : O) (a : Addr), args[k]? = some (.ow o) → args[l]? = some (.ow o') → vs[k]? = some (.ref a) → vs[l]? = some (.ref a) → k = l
  off : ∀ (k : Nat) (o : O) (a : Addr), args[k]? = some (.ow o) → vs[k]? = some (.ref a) → Off m1 σ a
section
variable {G : Gm} {σ : St}
theorem SlR.mono {w w' : Wd} {s : Slot} {v : Option (Option V)} (h : SlR G w s v) (mo : Mo w w') (k : ∀ o a, s = .ow o → v = some (some (.ref a)) → w'.H a = w.H a ∧ w'.L a) : SlR G w' s v := by
  cases s with
  | no => trivial
  | fz t => obtain ⟨x, e, r⟩ := h; exact ⟨x, e, RF.mono mo r⟩
  | ow o =>
    obtain ⟨a, e, r, l⟩ := h
    obtain ⟨k1, k2⟩ := k o a rfl e
    exact ⟨a, e, r.mono mo k1, k2⟩
theorem SR.pass : ∀ {io : List Bool} {ds : List Opd} {vs : List V} {w : Wd} {m m1 args : List Slot}, SR G w m σ → RDs G w σ ds vs → Mi.pass m io ds = some (args, m1) →
    ∃ w1, w1.H = w.H ∧ Ex w w1 ∧ SR G w1 m1 σ ∧ PR G w1 m m1 σ args vs ∧ Kept w m σ w1 ∧ Sub m m1
  | [], _, _, w, m, _, _, S, .nil, h => by
    cases h
    exact ⟨w, rfl, .refl w, S, ⟨rfl, fun k s e => by simp at e, fun k o b e => by simp at e, fun k l o o' a e => by simp at e, fun k o a e => by simp at e⟩, fun _ l _ => l, .refl _⟩
  | [], _, _, _, _, _, _, _, .cons _ _, h => by cases h
  | true :: _, _, _, _, _, _, _, _, .nil, h => by cases h
  | false :: _, _, _, _, _, _, _, _, .nil, h => by cases h
  | false :: io, _, _, w, m, m1, args, S, .cons (d := d) (v := v) (ds := ds) (vs := vs) a b, h => by
    unfold Mi.pass at h
    cases h1 : Mi.esc m d with
    | none => rw [h1] at h; cases h
    | some p =>
      obtain ⟨t, m2⟩ := p
      rw [h1] at h
      simp only at h
      cases h2 : Mi.pass m2 io ds with
      | none => rw [h2] at h; cases h
      | some p2 =>
        obtain ⟨ss, m3⟩ := p2
        rw [h2] at h
        cases h
        obtain ⟨w1, e1, S1, x1, r1, k1⟩ := S.escK a h1
        obtain ⟨w2, e2, x2, S2, pr, k2, sb⟩ := SR.pass S1 (b.mono x1.mo) h2
        have sb1 := esc_sub h1
        refine ⟨w2, e2.trans e1, x1.trans x2, S2, ⟨congrArg Nat.succ pr.len, fun k s e => ?_, fun k o c e q => ?_, fun k l o o' c e1 e2 q1 q2 => ?_, fun k o c e q => ?_⟩, fun p l f => k2 p (k1 p l f) (f.sub sb1), sb1.trans sb⟩
        · cases k with
          | zero =>
            have e' : Slot.fz t = s := by simpa using e
            subst e'
            exact ⟨v, rfl, RF.mono x2.mo r1⟩
          | succ k => exact pr.sl k s (by simpa using e)
        · cases k with
          | zero => simp at e
          | succ k =>
            obtain ⟨j, q1, q2⟩ := pr.src k o c (by simpa using e) (by simpa using q)
            exact ⟨j, sb1 j o q1, q2⟩
        · cases k with
          | zero => simp at e1
          | succ k =>
            cases l with
            | zero => simp at e2
            | succ l => exact congrArg Nat.succ (pr.inj k l o o' c (by simpa using e1) (by simpa using e2) (by simpa using q1) (by simpa using q2))
        · cases k with
          | zero => simp at e
          | succ k => exact pr.off k o c (by simpa using e) (by simpa using q)
  | true :: io, _, _, w, m, m1, args, S, .cons (d := d) (v := v) (ds := ds) (vs := vs) a b, h => by
    cases d with
    | t t => cases h
    | b i =>
      have a' : σ[i]? = some (some v) := a
      unfold Mi.pass at h
      cases e0 : m[i]? with
      | none => rw [e0] at h; cases h
      | some s =>
        cases s with
        | no => rw [e0] at h; cases h
        | fz t => rw [e0] at h; cases h
        | ow o0 =>
          rw [e0] at h
          simp only at h
          cases h2 : Mi.pass (m.set i .no) io ds with
          | none => rw [h2] at h; cases h
          | some p2 =>
            obtain ⟨ss, m3⟩ := p2
            rw [h2] at h
            cases h
            have S1 : SR G w (m.set i .no) σ := S.setNo
            obtain ⟨w2, e2, x2, S2, pr, k2, sb⟩ := SR.pass S1 b h2
            have sb1 : Sub m (m.set i .no) := .setNo
            obtain ⟨c0, ec0, r0, l0⟩ := S.sl i _ e0
            rw [a'] at ec0
            cases ec0
            have lt := (List.getElem?_eq_some_iff.mp e0).1
            have off0 : Off (m.set i .no) σ c0 := fun j o hj z => by
              have hm := sb1 j o hj
              have e := S.inj j i o o0 c0 hm e0 z a'
              subst e
              rw [List.getElem?_set_self lt] at hj
              cases hj
            refine ⟨w2, e2, x2, S2, ⟨congrArg Nat.succ pr.len, fun k s e => ?_, fun k o c e q => ?_, fun k l o o' c e1 e2 q1 q2 => ?_, fun k o c e q => ?_⟩, fun p l f => k2 p l (f.sub sb1), sb1.trans sb⟩
            · cases k with
              | zero =>
                have e' : Slot.ow o0 = s := by simpa using e
                subst e'
                exact ⟨c0, rfl, r0.mono x2.mo (by rw [e2]), k2 c0 l0 off0⟩
              | succ k => exact pr.sl k s (by simpa using e)
            · cases k with
              | zero =>
                have e' : Slot.ow o0 = Slot.ow o := by simpa using e
                cases e'
                have q' : (V.ref c0) = .ref c := by simpa using q
                cases q'
                exact ⟨i, e0, a'⟩
              | succ k =>
                obtain ⟨j, q1, q2⟩ := pr.src k o c (by simpa using e) (by simpa using q)
                exact ⟨j, sb1 j o q1, q2⟩
            · cases k with
              | zero =>
                cases l with
                | zero => rfl
                | succ l =>
                  have q' : (V.ref c0) = .ref c := by simpa using q1
                  cases q'
                  obtain ⟨j, z1, z2⟩ := pr.src l o' c0 (by simpa using e2) (by simpa using q2)
                  exact absurd z2 (off0 j o' z1)
              | succ k =>
                cases l with
                | zero =>
                  have q' : (V.ref c0) = .ref c := by simpa using q2
                  cases q'
                  obtain ⟨j, z1, z2⟩ := pr.src k o c0 (by simpa using e1) (by simpa using q1)
                  exact absurd z2 (off0 j o z1)
                | succ l => exact congrArg Nat.succ (pr.inj k l o o' c (by simpa using e1) (by simpa using e2) (by simpa using q1) (by simpa using q2))
            · cases k with
              | zero =>
                have q' : (V.ref c0) = .ref c := by simpa using q
                cases q'
                exact off0.sub sb
              | succ k => exact pr.off k o c (by simpa using e) (by simpa using q)
/-- a slot takes what stands at its value -/
theorem SR.put {w : Wd} {m : List Slot} {i : Nat} {s : Slot} (S : SR G w m σ) (h : SlR G w s σ[i]?) (off : ∀ o a, s = .ow o → σ[i]? = some (some (.ref a)) → Off m σ a) : SR G w (m.set i s) σ := by
  have get : ∀ {j s'}, (m.set i s)[j]? = some s' → (j = i ∧ s' = s) ∨ (j ≠ i ∧ m[j]? = some s') := fun {j s'} hj => by
    by_cases e : j = i
    · subst e
      have lt := (List.getElem?_eq_some_iff.mp hj).1
      rw [List.length_set] at lt
      rw [List.getElem?_set_self lt] at hj
      cases hj
      exact .inl ⟨rfl, rfl⟩
    · rw [List.getElem?_set_ne (Ne.symm e)] at hj
      exact .inr ⟨e, hj⟩
  refine ⟨by rw [List.length_set]; exact S.len, fun j s' hj => ?_, fun j k o o' a h1 h2 e1 e2 => ?_, S.sep, S.trk⟩
  · rcases get hj with ⟨rfl, rfl⟩ | ⟨_, q⟩
    · exact h
    · exact S.sl j s' q
  · rcases get h1 with ⟨n1, q1⟩ | ⟨n1, q1⟩ <;> rcases get h2 with ⟨n2, q2⟩ | ⟨n2, q2⟩
    · rw [n1, n2]
    · subst n1
      exact absurd e2 (off o a q1.symm e1 k o' q2)
    · subst n2
      exact absurd e1 (off o' a q2.symm e2 j o q1)
    · exact S.inj j k o o' a q1 q2 e1 e2
/-- what comes back -/
theorem SR.back {w : Wd} : ∀ {io : List Bool} {ds : List Opd} {vs : List V} {outs m m2 : List Slot}, SR G w m σ → RDs G w σ ds vs →
    (∀ (k : Nat) (s : Slot), outs[k]? = some s → SlR G w s (vs[k]?.map some)) → (∀ (k l : Nat) (o o' : O) (a : Addr), outs[k]? = some (.ow o) → outs[l]? = some (.ow o') → vs[k]? = some (.ref a) → vs[l]? = some (.ref a) → k = l) →
    (∀ (k : Nat) (o : O) (a : Addr), outs[k]? = some (.ow o) → vs[k]? = some (.ref a) → Off m σ a) → Mi.back m io ds outs = some m2 →
    SR G w m2 σ ∧ ∀ p, Off m σ p → (∀ (k : Nat) (o : O), outs[k]? = some (.ow o) → vs[k]? ≠ some (.ref p)) → Off m2 σ p
  | [], _, _, outs, m, _, S, .nil, _, _, _, h => by
    simp only [Mi.back, Option.some.injEq] at h
    subst h
    exact ⟨S, fun p h _ => h⟩
  | [], _, _, _, _, _, _, .cons _ _, _, _, _, h => by simp [Mi.back] at h
  | true :: _, _, _, _, _, _, _, .nil, _, _, _, h => by simp [Mi.back] at h
  | false :: _, _, _, _, _, _, _, .nil, _, _, _, h => by simp [Mi.back] at h
  | io0 :: io, _, _, [], _, _, _, .cons (d := d) _ _, _, _, _, h => by
    cases io0 <;> cases d <;> cases h
  | false :: io, _, _, s :: outs, m, m2, S, .cons (d := d) (v := v) (ds := ds) (vs := vs) a b, sl, inj, off, h => by
    have h' : Mi.back m io ds outs = some m2 := by cases d <;> exact h
    obtain ⟨q1, q2⟩ := SR.back S b (fun k s e => sl (k + 1) s (by simpa using e)) (fun k l o o' a e1 e2 z1 z2 => Nat.succ.inj (inj (k + 1) (l + 1) o o' a (by simpa using e1) (by simpa using e2) (by simpa using z1) (by simpa using z2)))
      (fun k o a e z => off (k + 1) o a (by simpa using e) (by simpa using z)) h'
    exact ⟨q1, fun p f n => q2 p f fun k o e => n (k + 1) o (by simpa using e)⟩
  | true :: io, _, _, s :: outs, m, m2, S, .cons (d := d) (v := v) (ds := ds) (vs := vs) a b, sl, inj, off, h => by
    cases d with
    | t t => cases h
    | b i =>
      have a' : σ[i]? = some (some v) := a
      have h' : Mi.back (m.set i s) io ds outs = some m2 := h
      have S1 : SR G w (m.set i s) σ := S.put (by have := sl 0 s rfl; rw [a']; exact this) fun o p e z => by
        subst e
        rw [a'] at z
        cases z
        exact off 0 o p rfl rfl
      have offs : ∀ p, Off m σ p → (∀ o, s = .ow o → v ≠ .ref p) → Off (m.set i s) σ p := fun p f n j o hj z => by
        by_cases e : j = i
        · subst e
          have lt := (List.getElem?_eq_some_iff.mp hj).1
          rw [List.length_set] at lt
          rw [List.getElem?_set_self lt] at hj
          have hs : s = .ow o := Option.some.inj hj
          rw [a'] at z
          exact n o hs (Option.some.inj (Option.some.inj z))
        · rw [List.getElem?_set_ne (Ne.symm e)] at hj
          exact f j o hj z
      obtain ⟨q1, q2⟩ := SR.back S1 b (fun k s e => sl (k + 1) s (by simpa using e)) (fun k l o o' a e1 e2 z1 z2 => Nat.succ.inj (inj (k + 1) (l + 1) o o' a (by simpa using e1) (by simpa using e2) (by simpa using z1) (by simpa using z2)))
        (fun k o c e z => offs c (off (k + 1) o c (by simpa using e) (by simpa using z)) fun o' hs hv => by
          subst hs
          have := inj 0 (k + 1) o' o c rfl (by simpa using e) (by simpa using hv) (by simpa using z)
          cases this) h'
      refine ⟨q1, fun p f n => q2 p (offs p f fun o hs hv => n 0 o (by simpa using hs) (by simpa using hv)) fun k o e => n (k + 1) o (by simpa using e)⟩
end
end Mi
set_option maxHeartbeats 1000000
namespace Mi
open PySem PySem.Spec PyProof.Rows L2

/-- a raised value: its class, its own dict -/
def RX (G : Gm) (w : Wd) (x : T) (cls : Value) (d : Option Addr) : Prop := ∃ c fs dx gs, x = .ins c fs ∧ cls = .ref (G.cls c) ∧ d = some dx ∧ w.H dx = some (.xd gs) ∧ RFf G w fs gs
theorem RX.mono {G : Gm} {w w' : Wd} {x : T} {cls : Value} {d : Option Addr} (h : RX G w x cls d) (mo : Mo w w') (e : w'.H = w.H) : RX G w' x cls d := by
  obtain ⟨c, fs, dx, gs, h1, h2, h3, h4, h5⟩ := h
  exact ⟨c, fs, dx, gs, h1, h2, h3, by rw [e]; exact h4, RFf.mono mo h5⟩
def WM (C : Ct) : WX := fun cls d σ H => ∃ w m x, w.H = H ∧ Pre C w m σ ∧ RX C.G w x cls d ∧ C.EM x m
/-- a def's promise, by the evaluator -/
def spM (G : Gm) (cal : Nat → List Slot → CRes) (f : Nat) : Sp := fun vs H Q E => ∃ w args, w.H = H ∧ SR G w args (vs.map some) ∧ match cal f args with
  | .ok r outs => ∀ w' v, SR G w' outs (vs.map some) → Ex w w' → RR G w' outs (vs.map some) r v → Q v w'.H
  | .ex x outs => ∀ w' cls d, SR G w' outs (vs.map some) → Ex w w' → RX G w' x cls d → E cls d w'.H
  | .no => False
theorem mo_same {w w' : Wd} (f : w'.F = w.F) (h : w'.H = w.H) : Mo w w' := ⟨fun a x => by rw [f]; exact x, fun a _ => by rw [h]; exact .refl _⟩
theorem getM {vs : List V} {k : Nat} {a : V} : (vs.map some)[k]? = some (some a) ↔ vs[k]? = some a := by
  rw [List.getElem?_map]
  cases vs[k]? <;> simp
/-- passed arguments, as the callee's rules look at them -/
structure PQ (G : Gm) (w : Wd) (m1 : List Slot) (σ : St) (args : List Slot) (vs : List V) : Prop where
  len : args.length = vs.length
  sl : ∀ (k : Nat) (s : Slot), args[k]? = some s → SlR G w s (vs[k]?.map some)
  inj : ∀ (k l : Nat) (o o' : O) (a : Addr), args[k]? = some (.ow o) → args[l]? = some (.ow o') → vs[k]? = some (.ref a) → vs[l]? = some (.ref a) → k = l
  off : ∀ (k : Nat) (o : O) (a : Addr), args[k]? = some (.ow o) → vs[k]? = some (.ref a) → Off m1 σ a
theorem PR.q {G : Gm} {w : Wd} {m m1 : List Slot} {σ : St} {args : List Slot} {vs : List V} (p : PR G w m m1 σ args vs) : PQ G w m1 σ args vs := ⟨p.len, p.sl, p.inj, p.off⟩
/-- the callee's world, the world behind it -/
def callW (w : Wd) (args : List Slot) (vs : List V) : Wd := ⟨w.F, fun a => ∃ (k : Nat) (o : O), args[k]? = some (.ow o) ∧ vs[k]? = some (.ref a), w.H⟩
def backW (w w' : Wd) (args : List Slot) (vs : List V) : Wd := ⟨w'.F, fun a => (w.L a ∧ ¬ (callW w args vs).L a ∧ ∃ u, w.H a = some u) ∨ w'.L a, w'.H⟩
section
variable {G : Gm} {σ : St} {w w' : Wd} {m m1 args outs : List Slot} {vs : List V}
theorem PQ.call (pr : PQ G w m1 σ args vs) (S : SR G w m1 σ) : SR G (callW w args vs) args (vs.map some) := by
  have mo : Mo w (callW w args vs) := mo_same rfl rfl
  have inL : ∀ a, (callW w args vs).L a → w.L a := fun a ⟨k, o, e, q⟩ => by
    obtain ⟨b, e1, _, l⟩ := pr.sl k _ e
    rw [q] at e1
    cases e1
    exact l
  refine ⟨by rw [List.length_map]; exact pr.len, fun k s e => ?_, fun k l o o' a e1 e2 q1 q2 => pr.inj k l o o' a e1 e2 (getM.mp q1) (getM.mp q2), fun a l => S.sep a (inL a l), S.trk⟩
  rw [List.getElem?_map]
  refine (pr.sl k s e).mono mo fun o a hs hv => ⟨rfl, k, o, by rw [← hs]; exact e, ?_⟩
  cases hv' : vs[k]? with
  | none => rw [hv'] at hv; cases hv
  | some v => rw [hv'] at hv; cases hv; rfl
theorem call_inL (pr : PQ G w m1 σ args vs) : ∀ a, (callW w args vs).L a → w.L a := fun a ⟨k, o, e, q⟩ => by
  obtain ⟨b, e1, _, l⟩ := pr.sl k _ e
  rw [q] at e1
  cases e1
  exact l
theorem call_ex (pr : PQ G w m1 σ args vs) (x : Ex (callW w args vs) w') : Ex w (backW w w' args vs) :=
  ⟨x.fz, x.kp, fun a u h1 h2 h3 => by
    obtain ⟨q1, q2, q3⟩ := x.ot a u h1 h2 fun z => h3 (call_inL pr a z)
    exact ⟨q1, q2, fun z => z.elim (fun z => h3 z.1) q3⟩⟩
/-- an owned slot of the caller's is untouched -/
theorem call_slot (pr : PQ G w m1 σ args vs) (S : SR G w m1 σ) (x : Ex (callW w args vs) w') {j : Nat} {o : O} {a : Addr} (h : m1[j]? = some (.ow o)) (e : σ[j]? = some (some (.ref a))) :
    w.L a ∧ ¬ (callW w args vs).L a ∧ (∃ u, w.H a = some u) ∧ w'.H a = w.H a ∧ ¬ w'.L a ∧ RO G w a o := by
  obtain ⟨b, e1, r, l⟩ := S.sl j _ h
  rw [e] at e1
  cases e1
  obtain ⟨u, hu⟩ := r.trk
  have np : ¬ (callW w args vs).L a := fun ⟨k, o', e', q⟩ => pr.off k o' a e' q j o h e
  obtain ⟨q1, q2, q3⟩ := x.ot a u hu (S.sep a l) np
  exact ⟨l, np, ⟨u, hu⟩, by rw [q1]; exact hu.symm, q3, r⟩
theorem call_back (pr : PQ G w m1 σ args vs) (S : SR G w m1 σ) (x : Ex (callW w args vs) w') (S' : SR G w' outs (vs.map some)) : SR G (backW w w' args vs) m1 σ := by
  have mo : Mo w (backW w w' args vs) := ⟨x.fz, x.kp⟩
  refine ⟨S.len, fun j s h => ?_, S.inj, fun a l f => ?_, S'.trk⟩
  · refine (S.sl j s h).mono mo fun o a hs hv => ?_
    subst hs
    obtain ⟨q1, q2, q3, q4, _, _⟩ := call_slot pr S x h hv
    exact ⟨q4, .inl ⟨q1, q2, q3⟩⟩
  · rcases l with ⟨l, np, u, hu⟩ | l
    · exact (x.ot a u hu (S.sep a l) np).2.1 f
    · exact S'.sep a l f
theorem call_off (pr : PQ G w m1 σ args vs) (S : SR G w m1 σ) (x : Ex (callW w args vs) w') {p : Addr} (l : w'.L p) : Off m1 σ p := fun j o h e => (call_slot pr S x h e).2.2.2.2.1 l
end

section
variable {C : Ct} {X : Cx} {cal : Nat → List Slot → CRes}
theorem callR_sat {f : Nat} {io : List Bool} {ds : List Opd} {m : List Slot} {A : R → List Slot → Prop} {B : T → List Slot → Prop} (h : (callR cal f io ds m).sat A B) :
    ∃ args m1, pass m io ds = some (args, m1) ∧ ((∃ r outs m2, cal f args = .ok r outs ∧ (∀ i, r ≠ .bo i) ∧ back m1 io ds outs = some m2 ∧ A r m2) ∨ ∃ x outs m2, cal f args = .ex x outs ∧ back m1 io ds outs = some m2 ∧ B x m2) := by
  unfold callR at h
  cases h1 : pass m io ds with
  | none => rw [h1] at h; exact h.elim
  | some p =>
    obtain ⟨args, m1⟩ := p
    rw [h1] at h
    simp only at h
    refine ⟨args, m1, rfl, ?_⟩
    cases h2 : cal f args with
    | no => rw [h2] at h; exact h.elim
    | ok r outs =>
      rw [h2] at h
      cases r with
      | bo i => exact h.elim
      | fz t =>
        simp only at h
        cases h3 : back m1 io ds outs with
        | none => rw [h3] at h; exact h.elim
        | some m2 => rw [h3] at h; exact .inl ⟨_, outs, m2, rfl, (fun _ z => nomatch z), h3, h⟩
      | ow o =>
        simp only at h
        cases h3 : back m1 io ds outs with
        | none => rw [h3] at h; exact h.elim
        | some m2 => rw [h3] at h; exact .inl ⟨_, outs, m2, rfl, (fun _ z => nomatch z), h3, h⟩
    | ex x outs =>
      rw [h2] at h
      simp only at h
      cases h3 : back m1 io ds outs with
      | none => rw [h3] at h; exact h.elim
      | some m2 => rw [h3] at h; exact .inr ⟨x, outs, m2, rfl, h3, h⟩
/-- the call, behind its arguments -/
theorem call_core {f : Nat} {io : List Bool} {ds : List Opd} {vs : List V} {w : Wd} {m : List Slot} {σ : St} {Q : VK} (P : Pre C w m σ) (r : RDs C.G w σ ds vs)
    (h : (callR cal f io ds m).sat (fun r m' => ∀ w' v, SR C.G w' m' σ → Ex w w' → RR C.G w' m' σ r v → Q v w'.H) C.EM) : spM C.G cal f vs w.H Q (fun cls d H => WM C cls d σ H) := by
  obtain ⟨args, m1, hp, h⟩ := callR_sat h
  obtain ⟨w1, e1, x1, S1, pr, _, sb⟩ := SR.pass P.sr r hp
  replace pr := pr.q
  refine ⟨callW w1 args vs, args, e1, pr.call S1, ?_⟩
  rcases h with ⟨r0, outs, m2, hc, nb, hb, k⟩ | ⟨x0, outs, m2, hc, hb, k⟩
  · rw [hc]
    intro w' v S' x' rr
    have S3 := call_back pr S1 x' S'
    have x3 := call_ex pr x'
    have same : Mo w' (backW w1 w' args vs) := mo_same rfl rfl
    obtain ⟨S4, off4⟩ := SR.back S3 (r.mono (x1.trans x3).mo) (fun k s e => by
        have := S'.sl k s e
        rw [List.getElem?_map] at this
        exact this.mono same fun o a hs hv => ⟨rfl, .inr (by
          subst hs
          obtain ⟨b, e1, _, l⟩ := S'.sl k _ e
          rw [List.getElem?_map, hv] at e1
          cases e1
          exact l)⟩)
      (fun k l o o' a e1 e2 z1 z2 => S'.inj k l o o' a e1 e2 (getM.mpr z1) (getM.mpr z2))
      (fun k o a e z => by
        obtain ⟨b, e1, _, l⟩ := S'.sl k _ e
        rw [getM.mpr z] at e1
        cases e1
        exact call_off pr S1 x' l) hb
    refine k (backW w1 w' args vs) v S4 (x1.trans x3) ?_
    cases r0 with
    | fz t => exact RF.mono same rr
    | bo i => exact absurd rfl (nb i)
    | ow o =>
      obtain ⟨p, rfl, ro, l, n⟩ := rr
      refine ⟨p, rfl, ro.mono same rfl, .inr l, off4 p (call_off pr S1 x' l) fun k o' e z => n k o' e (getM.mpr z)⟩
  · rw [hc]
    intro w' cls d S' x' rx
    have S3 := call_back pr S1 x' S'
    have x3 := call_ex pr x'
    have same : Mo w' (backW w1 w' args vs) := mo_same rfl rfl
    obtain ⟨S4, off4⟩ := SR.back S3 (r.mono (x1.trans x3).mo) (fun k s e => by
        have := S'.sl k s e
        rw [List.getElem?_map] at this
        exact this.mono same fun o a hs hv => ⟨rfl, .inr (by
          subst hs
          obtain ⟨b, e1, _, l⟩ := S'.sl k _ e
          rw [List.getElem?_map, hv] at e1
          cases e1
          exact l)⟩)
      (fun k l o o' a e1 e2 z1 z2 => S'.inj k l o o' a e1 e2 (getM.mpr z1) (getM.mpr z2))
      (fun k o a e z => by
        obtain ⟨b, e1, _, l⟩ := S'.sl k _ e
        rw [getM.mpr z] at e1
        cases e1
        exact call_off pr S1 x' l) hb
    exact ⟨backW w1 w' args vs, m2, x0, rfl, P.step S4 (x1.trans x3), rx.mono same rfl, k⟩
def tCallM (C : Ct) (cal : Nat → List Slot → CRes) (f : Nat) (t : TA) : TE := fun σ H Q => t σ H fun vs H1 => spM C.G cal f vs H1 Q (fun cls d H => WM C cls d σ H)
theorem n_call {ex : Expr} {exs : List Expr} {f : Nat} {io : List Bool} {es : Es} (hp : ∀ t, PA X exs t → PE X ex (tCallM C cal f t)) (h : PA X exs (rdDs C (evDs cal es))) : PE X ex (rdE C (evE cal (.call f io es))) :=
  PE.imp (hp _ h) fun σ H Q ⟨w, m, e, P, q⟩ => by
  rw [evE, Res.sat_bind] at q
  refine ⟨w, m, e, P, Res.sat_mono q fun ds m1 q1 w1 vs S1 x1 r1 => ?_⟩
  exact call_core (P.step S1 x1) r1 (Res.sat_mono q1 fun r m2 k w' v S' x' rr => k w' v S' (x1.trans x') rr)
end
end Mi
set_option maxHeartbeats 2000000
namespace MiP
open PySem PySem.Spec PyProof.Rows
theorem meets_enum1 {v : Value} {o : Obj} {H : Heap → Prop} (B : Begins v o H) :
    Meets (Builtin.«enumerate.__new__» ⟨[.type "enumerate", v], []⟩) (fun _ R s => H s.heap ∧
      R (.ok (.ret (.ref (s.heap.push o).objs.size))) { s with heap := (s.heap.push o).push { cls := .type "enumerate", data := .fields #[.none, .bool false, .ref s.heap.objs.size, rawInt 0, .none, .none] } }) :=
  .of_wp fun prog w A R s h => by
    obtain ⟨hp, g, d, tk, os⟩ := s; obtain ⟨h1, h⟩ := h
    have hsub := sub_enumerate
    have q1 : ∀ {A' : Around} {E : Value → Shared → Prop} {Q : Value → Shared → Prop}, Q (.ref hp.objs.size) ⟨hp.push o, g, d, tk, os⟩ → wpAny (model prog w) A' (pyIter v) Q E ⟨hp, g, d, tk, os⟩ :=
      fun q => B.iter prog w _ _ ⟨hp, g, d, tk, os⟩ _ h1 q
    wp_walk using q1
    refine wpAny_stack_any fun st => wpAny_pure ?_
    split
    · rename_i c _ _ _ _ _
      cases (c == Value.type "enumerate")
      · wp_walk using q1
        exact ⟨_, rfl, h⟩
      · wp_walk using q1
        exact ⟨_, rfl, h⟩
    · wp_walk using q1
      exact ⟨_, rfl, h⟩
section
variable {prog : Program} {w : World} {A : Around} {E : Value → Shared → Prop} {s : Shared}
theorem enum_begins1 {v : Value} {o : Obj} {H : Heap → Prop} {Q : Value → Shared → Prop} (B : Begins v o H) (h1 : H s.heap)
    (h : ∀ h', IsEnum h' (s.heap.objs.size + 1) s.heap.objs.size 0 .none → h'.get? s.heap.objs.size = some o → h'.objs.size = s.heap.objs.size + 2 →
      (∀ b o, s.heap.get? b = some o → h'.get? b = some o) → Q (.ref (s.heap.objs.size + 1)) { s with heap := h' }) :
    wpAny (model prog w) A (call (.type "enumerate") [v]) Q E s := by
  refine callType_new F.called_enumerate (by decide) (F.typeCall_enumerate_1 _) (F.newCall_enumerate_1 _) (fun obj => F.args_object_init_2 obj _) F.entry_enumerate_new (meets_enum1 B) ⟨h1, ?_⟩
  have hz : (s.heap.push o).objs.size = s.heap.objs.size + 1 := Heap.size_push ..
  show _ ∧ _
  rw [hz]
  have he : IsEnum ((s.heap.push o).push { cls := .type "enumerate", data := .fields #[.none, .bool false, .ref s.heap.objs.size, rawInt 0, .none, .none] }) (s.heap.objs.size + 1) s.heap.objs.size 0 .none := by
    have := Heap.get?_push_size (s.heap.push o) (o := { cls := .type "enumerate", data := .fields #[.none, .bool false, .ref s.heap.objs.size, rawInt 0, .none, .none] }) rfl
    rw [hz] at this; exact this
  refine ⟨⟨_, he, rfl⟩, h _ he (Heap.get?_push_of_some _ (Heap.get?_push_size _ B.free)) (by rw [Heap.size_push, hz]) fun b o x => Heap.get?_push_of_some _ (Heap.get?_push_of_some _ x)⟩
theorem next_enum_tup_end {e it t : Addr} {j : Nat} {items : Array Value} {i : Int} {old : Value} {Q : Option Value → Shared → Prop} (hh : A.handled = none)
    (he : IsEnum s.heap e it i old) (hit : s.heap.IsTupleIter it t j) (hl : s.heap.IsTuple t items) (hx : items[j]? = none)
    (hQ : ∀ h', Heap.ExtBut it s.heap h' → Q none { s with heap := h' }) : wpAny (model prog w) A (pyNext (.ref e)) Q E s := by
  have hT : s.TypeIs (.ref e) "enumerate" := ⟨_, he, rfl⟩
  unfold pyNext
  refine wpAny_bind (wpAny_attempt (wpAny_callSpecial?_slot (name := Str.ofString "__next__") hT F.slot_enumerate_next
    (wpAny_call_entry F.slot_enumerate_next hT F.entry_enumerate_next ?_ (F.args_enumerate_next_1 _))))
  show wpAny _ _ (field (.ref e) 2 >>= _) _ _ _
  refine wpAny_bind (wpAny_field he rfl (x := .ref it) rfl ?_)
  refine wpAny_bind (wpAny_nextOf_tuple_end hh hit hl hx fun h' x he' hx' => ?_)
  obtain ⟨o, ho, hc⟩ := hx'
  refine wpAny_bind (wpAny_isInstance (T := "StopIteration") (b := true) ⟨o, ho, hc⟩ isSubtype_stop ?_)
  exact wpAny_pure (hQ _ he')
end
end MiP
namespace Mi
open PySem PySem.Spec PyProof.Rows L2
/-- enumerate over a tuple that stays -/
def IteT (K : PySem.W.Frag) (a : Addr) : It :=
  ⟨fun i H => ∃ (xs : List V) (x : V), SqT K H a xs ∧ xs[i]? = some x, fun i H v H' => ∃ T x, v = .ref T ∧ H T = none ∧ H' = upd H T (.tup [.int (i : Nat), x]) ∧ ∀ xs, SqT K H a xs → xs[i]? = some x, fun i H => ∃ xs : List V, SqT K H a xs ∧ xs.length ≤ i⟩
theorem turn_enumT {P : Program} {w : World} {K : PySem.W.Frag} {elts : List Expr} {kk : Nat} {tpos : Pos} (a e it : Addr) :
    Turn P w K (.Tuple elts kk tpos) (IteT K a) [e, it] e (fun i h => (∃ old, IsEnum h e it ((i : Nat) : Int) old) ∧ h.IsTupleIter it a i ∧ e ≠ it ∧ a ≠ it ∧ e ≠ a) where
  mem := by simp
  obj := fun i h st b hb => by
    obtain ⟨⟨old, he⟩, ⟨o, ho, hc, hd⟩, _⟩ := st
    have e' : b = e ∨ b = it := by simpa using hb
    rcases e' with z | z
    · rw [z]; exact ⟨_, he, fun v q => nomatch q⟩
    · rw [z]; exact ⟨o, ho, fun v q => by rw [hd] at q; cases q⟩
  keep := fun i h h' st k => let ⟨⟨old, he⟩, hi, hne⟩ := st; ⟨⟨old, k e (by simp) _ he⟩, hi.at fun o q => k it (by simp) o q, hne⟩
  item := by
    intro X hP hw hK hc i pins s σ H E I hf st hg
    subst hP hw hK
    obtain ⟨⟨old, he⟩, hit, hne, hna, hea⟩ := st
    obtain ⟨xs, x, hq, hx⟩ := hg
    obtain ⟨its, rv, p, hz⟩ := I.tuple hq
    obtain ⟨u, hu, ru⟩ := rv.get hx
    have hel : e < s.heap.objs.size := Heap.lt_size he
    have hil : it < s.heap.objs.size := by obtain ⟨_, q, _⟩ := hit; exact Heap.lt_size q
    have hlt : i < its.toArray.size := by have := (List.getElem?_eq_some_iff.mp hu).1; simpa using this
    refine wpAny_pyNext_enum_itemD (Draws.tuple (A := X.A.in1) (show X.A.in1.handled = none from I.ok.hd hc) it a hna its.toArray) he ⟨hit, p⟩ hlt hne (by simp [hne, hea]) fun x1 h' tk hx1 ho hst' hT hsz hk => ?_
    have ex : x1 = u := by
      have : its[i]? = some x1 := by simpa using hx1
      rw [hu] at this
      exact (Option.some.inj this).symm
    subst ex
    have e1 : ((i + 1 : Nat) : Int) = (i : Int) + 1 := by omega
    refine ⟨_, rfl, wpAny_letOwnedTupleGo_enum (s := { s with heap := h', toks := tk + 1 }) ho fun h'' he' sb => ?_⟩
    have hT2 : h''.get? s.heap.objs.size = some { cls := .type "tuple", data := .seq #[.int i tk, x1] } := (sb.2 _ (Nat.ne_of_gt hel)).trans hT
    have new : ObjOk X.prog X.w (upd H s.heap.objs.size (.tup [.int (i : Nat), x])) h'' s.heap.objs.size (.tup [.int (i : Nat), x]) :=
      ⟨by show 2 ≤ sizeLine; decide, [.int i tk, x1], .cons ⟨_, rfl⟩ (.cons ru .nil), ⟨_, hT2, rfl, _, rfl⟩⟩
    have I1 : Inv X pins σ (upd H s.heap.objs.size (.tup [.int (i : Nat), x])) { s with heap := h'', toks := tk + 1 } :=
      I.turnedNew (ch := [e, it]) (fun b ob hb q => (sb.2 b (fun z => hb (by simp [z]))).trans (hk b ob (fun z => hb (by simp [z])) (fun z => hb (by simp [z])) q)) hf (Nat.le_refl _) new
    refine ⟨.ref s.heap.objs.size, _, I1, rfl, ⟨_, x, rfl, I.hok.fresh (Nat.le_refl _), rfl, fun ys hy => by rw [I.tuple_inj hy hq]; exact hx⟩, ⟨⟨x1, ?_⟩, hst'.1.at fun o q => (sb.2 it (Ne.symm hne)).trans q, hne, hna, hea⟩, fun b hb => ?_⟩
    · rw [e1]; exact he'
    · have hb' : b < s.heap.objs.size := by
        have e' : b = e ∨ b = it := by simpa using hb
        rcases e' with z | z
        · rw [z]; exact hel
        · rw [z]; exact hil
      rw [upd_ne (Nat.ne_of_lt hb')]
      exact (hf b hb).1
  done := by
    intro X hP hw hK hc i pins s σ H E I hf st hg
    subst hP hw hK
    obtain ⟨⟨old, he⟩, hit, hne, hna, hea⟩ := st
    obtain ⟨xs, hq, hx⟩ := hg
    obtain ⟨its, rv, p, hz⟩ := I.tuple hq
    obtain ⟨f0, f1, f2, f3, f4, f5⟩ := hf it (by simp)
    have hl := rv.length
    exact MiP.next_enum_tup_end (A := X.A) (I.ok.hd hc) he hit p (by simp; omega) fun h' eb => ⟨rfl, I.turned (t' := s.toks) (fun b o hb q => eb b o hb q) f0 f1 f3 f4 f5⟩
  self := fun A i s Q E st h => let ⟨⟨_, he⟩, _⟩ := st; wpAny_pyIter_enum he h
def iEnumT (K : PySem.W.Frag) (ta : TA) : TI := fun σ H R => ta σ H fun vs H1 => ∃ a xs, vs = [.ref a] ∧ ((SqL K H1 a xs ∧ R (Ite K a) H1) ∨ (SqT K H1 a xs ∧ R (IteT K a) H1))
theorem pi_enumT {X : Cx} {e : Expr} {ta : TA} {p pos tpos : Pos} {elts : List Expr} {kk : Nat} (hg : Gl X "enumerate") (hm : X.mg "enumerate" = none) (ha : PA X [e] ta) (hs : starEach [e] X.env = [(false, eval e X.env)] := by rfl) :
    PI X (.Tuple elts kk tpos) (.Call (.Name "enumerate" p) [e] [] pos) (iEnumT X.K ta) := by
  refine ⟨fun pins s σ H R I h => ?_⟩
  refine Call_ (ld_blt I hg hm boot_enumerate (PyProof.Rows.callWith_type1 (thn (ha.run pos pins s σ H _ I h) fun us s1 ⟨vs, H1, I1, r1, q1⟩ => ?_) hs rfl))
  obtain ⟨a, xs, ex, hq⟩ := q1
  subst ex
  cases r1 with
  | cons r rr =>
    cases rr
    cases r
    have hfp : ∀ b ∈ [s1.heap.objs.size + 1, s1.heap.objs.size], s1.heap.objs.size ≤ b := fun b hb => by
      have e' : b = s1.heap.objs.size + 1 ∨ b = s1.heap.objs.size := by simpa using hb
      rcases e' with z | z
      · rw [z]; exact Nat.le_add_right _ _
      · rw [z]; exact Nat.le_refl _
    rcases hq with ⟨hq, q⟩ | ⟨hq, q⟩
    · obtain ⟨its, rv, p', hz⟩ := I1.list hq
      refine call_enumerate_list p'.isList fun h' he hit hsz hk => wpAny_pyIter_enum he ?_
      have I2 : Inv X pins σ H1 { s1 with heap := h' } := I1.kept (t' := s1.toks) hk
      exact ⟨s1.heap.objs.size + 1, [s1.heap.objs.size + 1, s1.heap.objs.size], _, _, H1, rfl, I2, turn_enum a (s1.heap.objs.size + 1) s1.heap.objs.size, ⟨⟨.none, he⟩, hit, Nat.succ_ne_self _⟩, fun b hb => I1.fpOk (hfp b hb) (I1.hok.fresh (hfp b hb)), q⟩
    · obtain ⟨its, rv, p', hz⟩ := I1.tuple hq
      have pt : s1.heap.IsTuple a its.toArray := p'
      have hal : a < s1.heap.objs.size := by
        obtain ⟨o, ho, _⟩ := pt
        exact Heap.lt_size ho
      refine MiP.enum_begins1 (begins_tuple a its.toArray) pt fun h' he hit hsz hk => wpAny_pyIter_enum he ?_
      have I2 : Inv X pins σ H1 { s1 with heap := h' } := I1.kept (t' := s1.toks) hk
      exact ⟨s1.heap.objs.size + 1, [s1.heap.objs.size + 1, s1.heap.objs.size], _, _, H1, rfl, I2, turn_enumT a (s1.heap.objs.size + 1) s1.heap.objs.size, ⟨⟨.none, he⟩, ⟨_, hit, rfl, rfl⟩, Nat.succ_ne_self _, Nat.ne_of_lt hal, Nat.ne_of_gt (Nat.lt_succ_of_lt hal)⟩, fun b hb => I1.fpOk (hfp b hb) (I1.hok.fresh (hfp b hb)), q⟩
end Mi
set_option maxHeartbeats 1000000
namespace Mi
open PySem PySem.Spec PyProof.Rows L2

/-! ### patterns -/
mutual
def Pt.sl : Pt → List Nat
  | .nm i => [i]
  | .tup ps => ps.sl
def Pts.sl : Pts → List Nat
  | .nil => []
  | .cons p r => p.sl ++ r.sl
end
def GP (G : Gm) (p : Pt) (g : TG) : Prop := ∀ (w : Wd) (m m' : List Slot) (σ : St) (x : T) (v : V) (Q : St → Hp → Prop), SR G w m σ → RF G w x v → bindP m p x = some m' → (∀ σ', SR G w m' σ' → (∀ j, j ∉ p.sl → σ'[j]? = σ[j]?) → σ'.length = σ.length → Q σ' w.H) → g v σ w.H Q
def GPs (G : Gm) (p : Pts) (g : TGs) : Prop := ∀ (w : Wd) (m m' : List Slot) (σ : St) (xs : List T) (vs : List V) (Q : St → Hp → Prop), SR G w m σ → RFs G w xs vs → bindPs m p xs = some m' → (∀ σ', SR G w m' σ' → (∀ j, j ∉ p.sl → σ'[j]? = σ[j]?) → σ'.length = σ.length → Q σ' w.H) → g vs σ w.H Q
section
variable {G : Gm}
theorem gp_name {i : Nat} : GP G (.nm i) (gName i) := fun w m m' σ x v Q S r h k => by
  rw [bindP] at h
  split at h
  · cases h
    refine k _ (S.setFz r) (fun j hj => ?_) (List.length_set ..)
    rw [List.getElem?_set_ne]
    intro e
    subst e
    exact hj (by simp [Pt.sl])
  · cases h
theorem gps_nil : GPs G .nil gNil := fun w m m' σ xs vs Q S r h k => by
  cases r with
  | nil =>
    rw [bindPs] at h
    cases h
    exact ⟨rfl, k σ S (fun _ _ => rfl) rfl⟩
  | cons a b => simp [bindPs] at h
theorem gps_cons {p : Pt} {r : Pts} {g : TG} {u : TGs} (h1 : GP G p g) (h2 : GPs G r u) : GPs G (.cons p r) (gCons g u) := fun w m m' σ xs vs Q S rf h k => by
  cases rf with
  | nil => simp [bindPs] at h
  | @cons x v xs vs a b =>
    rw [bindPs] at h
    cases e : bindP m p x with
    | none => rw [e] at h; cases h
    | some m1 =>
      rw [e] at h
      refine ⟨v, vs, rfl, h1 w m m1 σ x v _ S a e fun σ1 S1 f1 l1 => ?_⟩
      refine h2 w m1 m' σ1 xs vs Q S1 b h fun σ2 S2 f2 l2 => ?_
      refine k σ2 S2 (fun j hj => ?_) (l2.trans l1)
      rw [f2 j (fun z => hj (by simp [Pts.sl, z])), f1 j (fun z => hj (by simp [Pts.sl, z]))]
theorem gp_tup {ps : Pts} {t : TGs} {n : Nat} (hn : ps.len = n) (h : GPs G ps t) : GP G (.tup ps) (gTup G.K n t) := fun w m m' σ x v Q S r hb k => by
  cases x <;> try (simp [bindP] at hb; done)
  case tup xs =>
    obtain ⟨a, vs, rfl, h1, r1⟩ := r.tup_inv
    rw [bindP] at hb
    have sq : SqT G.K w.H a vs := by
      rcases h1 with ⟨_, h1⟩ | h1
      · exact .inl (.inl h1)
      · exact .inr h1
    have len : ∀ (ps : Pts) (xs : List T) (m m' : List Slot), bindPs m ps xs = some m' → xs.length = ps.len := by
      intro ps
      induction ps using Pts.rec (motive_1 := fun _ => True) with
      | nm => trivial
      | tup => trivial
      | nil => intro xs m m' h; cases xs <;> simp [bindPs] at h; rfl
      | cons p r _ ih =>
        intro xs m m' h
        cases xs with
        | nil => simp [bindPs] at h
        | cons x xs =>
          rw [bindPs] at h
          cases e : bindP m p x with
          | none => rw [e] at h; cases h
          | some m1 => rw [e] at h; exact congrArg Nat.succ (ih xs m1 m' h)
    exact ⟨a, vs, rfl, sq, by rw [← r1.length, len _ _ _ _ hb, hn], h w m m' σ xs vs Q S r1 hb fun σ' S' f l => k σ' S' (fun j hj => f j (by simpa [Pt.sl] using hj)) l⟩
end

/-! ### sources -/
/-- the iterator yields the items -/
structure ItOk (G : Gm) (J : It) (xs : List T) (w0 : Wd) : Prop where
  stop : ∀ (w : Wd), Mo w0 w → J.stop xs.length w.H
  go : ∀ (i : Nat) (x : T) (w : Wd), Mo w0 w → xs[i]? = some x → J.go i w.H ∧ ∀ (v : V) (H' : Hp) (m : List Slot) (σ : St), SR G w m σ → J.yld i w.H v H' → ∃ w', w'.H = H' ∧ SR G w' m σ ∧ Ex w w' ∧ RF G w' x v ∧ (∀ p, ¬ w.L p → ¬ w.F p → (∃ u, w.H p = some u) → w'.H p = w.H p ∧ ¬ w'.L p ∧ ¬ w'.F p)
def rdS (C : Ct) (f : List Slot → Res (List T)) : TI := fun σ H Rr => ∃ w m, w.H = H ∧ Pre C w m σ ∧ (f m).sat (fun xs m' => ∀ w' J, SR C.G w' m' σ → Ex w w' → ItOk C.G J xs w' → Rr J w'.H) C.EM
theorem PI.imp {X : Cx} {tg e : Expr} {t t' : TI} (h : PI X tg e t) (i : ∀ σ H Q, t' σ H Q → t σ H Q) : PI X tg e t' := ⟨fun pins s σ H Q I q => h.run pins s σ H Q I (i σ H Q q)⟩
theorem PI.or {X : Cx} {tg e : Expr} {t t' : TI} (h : PI X tg e t) (h' : PI X tg e t') : PI X tg e (fun σ H Q => t σ H Q ∨ t' σ H Q) := ⟨fun pins s σ H Q I q => q.elim (h.run pins s σ H Q I) (h'.run pins s σ H Q I)⟩
section
variable {G : Gm} {w : Wd} {m m' : List Slot} {σ : St}
theorem ex_out {w w' : Wd} (x : Ex w w') : ∀ p, ¬ w.L p → ¬ w.F p → (∃ u, w.H p = some u) → w'.H p = w.H p ∧ ¬ w'.L p ∧ ¬ w'.F p := fun p l f ⟨u, h⟩ => by
  obtain ⟨q1, q2, q3⟩ := x.ot p u h f l
  exact ⟨q1.trans h.symm, q3, q2⟩
theorem SR.keep {r : R} {v : V} {t : T} (S : SR G w m σ) (q : RR G w m σ r v) (h : Mi.esc m r.opd = some (t, m')) : ∃ w', w'.H = w.H ∧ SR G w' m' σ ∧ Ex w w' ∧ RF G w' t v := by
  obtain ⟨w1, e1, S1, x1, r1⟩ := S.opd q
  obtain ⟨w2, e2, S2, x2, r2⟩ := S1.esc r1 h
  exact ⟨w2, e2.trans e1, S2, x1.trans x2, r2⟩
theorem it_list {xs : List T} {vs : List V} {a : Addr} (f : w.F a) (h : w.H a = some (.lst vs)) (r : RFs G w xs vs) : ItOk G (Itl G.K a) xs w := by
  have at' : ∀ w', Mo w w' → w'.H a = some (.lst vs) := fun w' mo => (mo.kp a f).eq h (fun k q => by rcases q with q | ⟨o, q⟩ <;> cases q)
  refine ⟨fun w' mo => ⟨vs, .inl (.inl (at' w' mo)), Nat.le_of_eq r.length.symm⟩, fun i x w' mo hx => ?_⟩
  obtain ⟨v, hv, rv⟩ := r.get hx
  have sq : SqL G.K w'.H a vs := .inl (.inl (at' w' mo))
  refine ⟨⟨vs, v, sq, hv⟩, fun v' H' m σ S y => ?_⟩
  obtain ⟨rfl, y⟩ := y
  have := y vs sq
  rw [hv] at this
  cases this
  exact ⟨w', rfl, S, .refl w', RF.mono mo rv, ex_out (.refl w')⟩
theorem RFk.keyAt : ∀ {kvs : List (Key × T)} {ks : List (Key × V)} {i : Nat} {k : Key} {t : T}, RFk G w kvs ks → kvs[i]? = some (k, t) → ∃ v, ks[i]? = some (k, v)
  | _, _, _, _, _, .nil, e => by simp at e
  | _, _, 0, _, _, .cons _ _, e => by simp at e; obtain ⟨rfl, rfl⟩ := e; exact ⟨_, rfl⟩
  | _, _, i + 1, _, _, .cons _ b, e => by
    obtain ⟨v, h⟩ := RFk.keyAt (i := i) b (by simpa using e)
    exact ⟨v, by simpa using h⟩
theorem rf_key (k : Key) : RF G w (unkey k) (kV k) := by
  cases k with
  | inl i => exact .int i
  | inr s => exact .str s
theorem it_keys {kvs : List (Key × T)} {ks : List (Key × V)} {a : Addr} {o : Obj} (f : w.F a) (h : w.H a = some (.frz o (.dK ks))) (r : RFk G w kvs ks) : ItOk G (Itk a o ks) (kvs.map fun kv => unkey kv.1) w := by
  refine ⟨fun w' mo => ⟨(mo.kp a f).locked h, by rw [List.length_map, r.length]; exact Nat.le_refl _⟩, fun i x w' mo hx => ?_⟩
  rw [List.getElem?_map] at hx
  cases e : kvs[i]? with
  | none => rw [e] at hx; cases hx
  | some kt =>
    obtain ⟨k, t⟩ := kt
    rw [e] at hx
    cases hx
    obtain ⟨v, hv⟩ := r.keyAt e
    refine ⟨⟨(mo.kp a f).locked h, (List.getElem?_eq_some_iff.mp hv).1⟩, fun v' H' m σ S y => ?_⟩
    obtain ⟨rfl, k', v2, h2, rfl⟩ := y
    rw [hv] at h2
    cases h2
    exact ⟨w', rfl, S, .refl w', rf_key k, ex_out (.refl w')⟩
/-- a frozen dict is locked -/
def Wd.lock (w : Wd) (a : Addr) (o : Obj) (ks : List (Key × V)) : Wd := ⟨w.F, w.L, upd w.H a (.frz o (.dK ks))⟩
theorem SR.lock {a : Addr} {o : Obj} {ks : List (Key × V)} (S : SR G w m σ) (f : w.F a) (h : w.H a = some (.dK ks)) : SR G (w.lock a o ks) m σ ∧ Ex w (w.lock a o ks) := by
  have mo : Mo w (w.lock a o ks) := ⟨fun _ h => h, fun b _ => by
    by_cases e : b = a
    · subst e; exact .inr ⟨ks, o, h, upd_same⟩
    · exact .inl (upd_ne e).symm⟩
  refine ⟨S.grow mo (fun b l => ⟨l, fun _ => upd_ne (show b ≠ a from fun e => S.sep b l (by rw [e]; exact f))⟩) S.sep fun b fb => ?_, mo.fz, mo.kp, fun b u h1 h2 h3 => ⟨?_, h2, h3⟩⟩
  · obtain ⟨u, hu⟩ := S.trk b fb
    by_cases e : b = a
    · subst e; exact ⟨_, upd_same⟩
    · exact ⟨u, (upd_ne e).trans hu⟩
  · exact (upd_ne (show b ≠ a from fun e => h2 (by rw [e]; exact f))).trans h1
theorem it_scr {ns : List Int} {a : Addr} (h : (w.F a ∧ ∃ o, w.H a = some (.frz o (.lst (ns.map V.int)))) ∨ KL G.K a (ns.map V.int)) : ItOk G (Itl G.K a) (ns.map T.int) w := by
  have at' : ∀ w', Mo w w' → SqL G.K w'.H a (ns.map V.int) := fun w' mo => by
    rcases h with ⟨f, o, h⟩ | h
    · exact .inl (.inr ⟨o, (mo.kp a f).eq h (fun k q => by rcases q with q | ⟨o, q⟩ <;> cases q)⟩)
    · exact .inr h
  refine ⟨fun w' mo => ⟨_, at' w' mo, by rw [List.length_map, List.length_map]; exact Nat.le_refl _⟩, fun i x w' mo hx => ?_⟩
  rw [List.getElem?_map] at hx
  cases hn : ns[i]? with
  | none => rw [hn] at hx; cases hx
  | some n =>
    rw [hn] at hx
    cases hx
    have hv : (ns.map V.int)[i]? = some (.int n) := by rw [List.getElem?_map, hn]; rfl
    refine ⟨⟨_, _, at' w' mo, hv⟩, fun v' H' m σ S y => ?_⟩
    obtain ⟨rfl, y⟩ := y
    have := y _ (at' w' mo)
    rw [hv] at this
    cases this
    exact ⟨w', rfl, S, .refl w', .int n, ex_out (.refl w')⟩
theorem it_tup {xs : List T} {vs : List V} {a : Addr} (h : (w.F a ∧ w.H a = some (.tup vs)) ∨ KT G.K a vs) (r : RFs G w xs vs) : ItOk G (Itt G.K a) xs w := by
  have at' : ∀ w', Mo w w' → SqT G.K w'.H a vs := fun w' mo => by
    rcases h with ⟨f, h⟩ | h
    · exact .inl (.inl ((mo.kp a f).eq h (fun k q => by rcases q with q | ⟨o, q⟩ <;> cases q)))
    · exact .inr h
  refine ⟨fun w' mo => ⟨vs, at' w' mo, Nat.le_of_eq r.length.symm⟩, fun i x w' mo hx => ?_⟩
  obtain ⟨v, hv, rv⟩ := r.get hx
  refine ⟨⟨vs, v, at' w' mo, hv⟩, fun v' H' m σ S y => ?_⟩
  obtain ⟨rfl, y⟩ := y
  have := y vs (at' w' mo)
  rw [hv] at this
  cases this
  exact ⟨w', rfl, S, .refl w', RF.mono mo rv, ex_out (.refl w')⟩
theorem it_str {z : Str} : ItOk G (Its z) (z.cps.toList.map fun c => T.str ⟨#[c]⟩) w := by
  refine ⟨fun w' _ => by show z.cps.size ≤ _; simp, fun i x w' mo hx => ?_⟩
  rw [List.getElem?_map] at hx
  cases hc : z.cps.toList[i]? with
  | none => rw [hc] at hx; cases hx
  | some c =>
    rw [hc] at hx
    cases hx
    have hc' : z.cps[i]? = some c := by rw [← Array.getElem?_toList]; exact hc
    refine ⟨(Array.getElem?_eq_some_iff.mp hc').1, fun v' H' m σ S y => ?_⟩
    obtain ⟨rfl, c', h1, rfl⟩ := y
    rw [hc'] at h1
    cases h1
    exact ⟨w', rfl, S, .refl w', .str _, ex_out (.refl w')⟩
theorem it_range {lo hi : Int} : ItOk G (Itr lo (hi - lo).toNat) (rangeT lo hi) w := by
  have len : (rangeT lo hi).length = (hi - lo).toNat := by simp [rangeT]
  refine ⟨fun w' _ => by show (hi - lo).toNat ≤ _; rw [len]; exact Nat.le_refl _, fun i x w' mo hx => ?_⟩
  have lt : i < (hi - lo).toNat := by rw [← len]; exact (List.getElem?_eq_some_iff.mp hx).1
  have ex : x = .int (lo + (i : Int)) := by
    rw [rangeT, List.getElem?_map, List.getElem?_range lt] at hx
    cases hx
    rfl
  subst ex
  refine ⟨lt, fun v' H' m σ S y => ?_⟩
  obtain ⟨rfl, rfl⟩ := y
  exact ⟨w', rfl, S, .refl w', .int _, ex_out (.refl w')⟩
/-- a tuple made by an iterator -/
theorem yld_tup {w : Wd} {p : Addr} {ts : List T} {vs : List V} (S : SR G w m σ) (hp : w.H p = none) (r : RFs G w ts vs) :
    ∃ w', w'.H = upd w.H p (.tup vs) ∧ SR G w' m σ ∧ Ex w w' ∧ RF G w' (.tup ts) (.ref p) := by
  have S1 := S.new (u := .tup vs) hp
  have hH : (w.new p (.tup vs)).H p = some (.tup vs) := upd_same
  refine ⟨(w.new p (.tup vs)).fr p, rfl, S1.fr (.inr rfl) ⟨_, hH⟩ fun i o h e => ?_, (Ex.new S.trk hp).trans (.fr (.inr rfl)), .tup (.inl ⟨.inr rfl, hH⟩) (RFs.mono .fr (r.new S hp))⟩
  obtain ⟨a, e1, r1', _⟩ := S.sl i _ h
  rw [e] at e1
  cases e1
  obtain ⟨u', hu⟩ := r1'.trk
  rw [hp] at hu
  cases hu
theorem enum_len : ∀ (k : Nat) (xs : List T), (enumT k xs).length = xs.length
  | _, [] => rfl
  | k, x :: r => congrArg Nat.succ (enum_len (k + 1) r)
theorem enum_get : ∀ (k : Nat) (xs : List T) (i : Nat), (enumT k xs)[i]? = xs[i]?.map fun x => .tup [.int ((k + i : Nat) : Int), x]
  | _, [], i => by simp [enumT]
  | k, x :: r, 0 => by simp [enumT]
  | k, x :: r, i + 1 => by
    have := enum_get (k + 1) r i
    simp only [enumT, List.getElem?_cons_succ, this]
    rw [show k + 1 + i = k + (i + 1) by omega]
theorem it_enum {xs : List T} {vs : List V} {a : Addr} (f : w.F a) (h : w.H a = some (.lst vs)) (r : RFs G w xs vs) : ItOk G (Ite G.K a) (enumT 0 xs) w := by
  have at' : ∀ w', Mo w w' → w'.H a = some (.lst vs) := fun w' mo => (mo.kp a f).eq h (fun k q => by rcases q with q | ⟨o, q⟩ <;> cases q)
  refine ⟨fun w' mo => ⟨vs, .inl (.inl (at' w' mo)), by rw [enum_len]; exact Nat.le_of_eq r.length.symm⟩, fun i x w' mo hx => ?_⟩
  rw [enum_get] at hx
  cases hn : xs[i]? with
  | none => rw [hn] at hx; cases hx
  | some t =>
    rw [hn] at hx
    cases hx
    obtain ⟨v, hv, rv⟩ := r.get hn
    have sq : SqL G.K w'.H a vs := .inl (.inl (at' w' mo))
    refine ⟨⟨vs, v, sq, hv⟩, fun v' H' m σ S y => ?_⟩
    obtain ⟨p, x', rfl, hp, rfl, y⟩ := y
    have := y vs sq
    rw [hv] at this
    cases this
    obtain ⟨w2, e2, S2, x2, r2⟩ := yld_tup (ts := [.int ((0 + i : Nat) : Int), t]) (vs := [.int (i : Nat), v]) S hp (.cons (by rw [Nat.zero_add]; exact .int _) (.cons (RF.mono mo rv) .nil))
    exact ⟨w2, e2, S2, x2, r2, ex_out x2⟩
theorem zip_get : ∀ (xs ys : List T) (i : Nat), (zipT xs ys)[i]? = match xs[i]?, ys[i]? with
    | some x, some y => some (.tup [x, y])
    | _, _ => none
  | [], ys, i => by simp [zipT]
  | x :: xs, [], i => by
    cases h : (x :: xs)[i]? <;> simp [zipT]
  | x :: xs, y :: ys, 0 => by simp [zipT]
  | x :: xs, y :: ys, i + 1 => by
    have := zip_get xs ys i
    simpa [zipT] using this
theorem zip_len : ∀ (xs ys : List T), (zipT xs ys).length = min xs.length ys.length
  | [], ys => by simp [zipT]
  | x :: xs, [] => by simp [zipT]
  | x :: xs, y :: ys => by
    have := zip_len xs ys
    simp [zipT, this]
    try omega
theorem it_zip {xs ys : List T} {vs us : List V} {a b : Addr} (f : w.F a) (h : w.H a = some (.lst vs)) (r : RFs G w xs vs) (f' : w.F b) (h' : w.H b = some (.lst us)) (r' : RFs G w ys us) : ItOk G (Itz G.K a b) (zipT xs ys) w := by
  have at1 : ∀ w', Mo w w' → w'.H a = some (.lst vs) := fun w' mo => (mo.kp a f).eq h (fun k q => by rcases q with q | ⟨o, q⟩ <;> cases q)
  have at2 : ∀ w', Mo w w' → w'.H b = some (.lst us) := fun w' mo => (mo.kp b f').eq h' (fun k q => by rcases q with q | ⟨o, q⟩ <;> cases q)
  refine ⟨fun w' mo => ⟨vs, us, .inl (.inl (at1 w' mo)), .inl (.inl (at2 w' mo)), ?_⟩, fun i x w' mo hx => ?_⟩
  · rw [zip_len, ← r.length, ← r'.length]
    omega
  · rw [zip_get] at hx
    cases hn : xs[i]? with
    | none => rw [hn] at hx; cases hx
    | some t =>
      cases hk : ys[i]? with
      | none => rw [hn, hk] at hx; cases hx
      | some u =>
        rw [hn, hk] at hx
        cases hx
        obtain ⟨v, hv, rv⟩ := r.get hn
        obtain ⟨v2, hv2, rv2⟩ := r'.get hk
        have sq : SqL G.K w'.H a vs := .inl (.inl (at1 w' mo))
        have sq2 : SqL G.K w'.H b us := .inl (.inl (at2 w' mo))
        refine ⟨⟨vs, us, v, v2, sq, sq2, hv, hv2⟩, fun v' H' m σ S y => ?_⟩
        obtain ⟨p, x', y', rfl, hp, rfl, y1, y2⟩ := y
        have z1 := y1 vs sq
        have z2 := y2 us sq2
        rw [hv] at z1
        rw [hv2] at z2
        cases z1
        cases z2
        obtain ⟨w2, e2, S2, x2, r2⟩ := yld_tup (ts := [t, u]) (vs := [v, v2]) S hp (.cons (RF.mono mo rv) (.cons (RF.mono mo rv2) .nil))
        exact ⟨w2, e2, S2, x2, r2, ex_out x2⟩
end
section
variable {C : Ct} {X : Cx} {cal : Nat → List Slot → CRes}
def iKeysL (td : TE) : TI := fun σ H R => td σ H fun x H1 => ∃ d kvs, x = .ref d ∧ ((∃ o, H1 d = some (.frz o (.dK kvs)) ∧ R (Itk d o kvs) H1) ∨ (H1 d = some (.dK kvs) ∧ ∀ o, R (Itk d o kvs) (upd H1 d (.frz o (.dK kvs)))))
theorem pi_keysL {tg e : Expr} {td : TE} (he : PE X e td) : PI X tg e (iKeysL td) := by
  refine ⟨fun pins s σ H R I h => ?_⟩
  refine thn (he.run pins s σ H _ I h) fun u s1 ⟨x, H1, I1, rx, d, kvs, ex, q⟩ => ?_
  subst ex
  obtain rfl : u = Value.ref d := rx
  rcases q with ⟨o, hd, q⟩ | ⟨hd, q⟩
  · obtain ⟨hs, hgd, hx, es, ep, vs, hdt, hsz, kv, hm⟩ := I1.frzK hd
    refine iter_keys hs hgd hx hdt (pi_one (tk := s1.toks) I1 _ (turn_keys _ hdt) ⟨_, Heap.get?_push_size _ rfl, rfl, ?_⟩ q)
    rw [hsz] <;> rfl
  · obtain ⟨o, I2⟩ := I1.lock hd trivial
    obtain ⟨hs, hgd, hx, es, ep, vs, hdt, hsz, kv, hm⟩ := I2.frzK upd_same
    refine iter_keys hs hgd hx hdt (pi_one (tk := s1.toks) I2 _ (turn_keys _ hdt) ⟨_, Heap.get?_push_size _ rfl, rfl, ?_⟩ (q o))
    rw [hsz] <;> rfl
def iAnyM (K : PySem.W.Frag) (te : TE) : TI := fun σ H R => ((iList K te σ H R ∨ iTup K te σ H R) ∨ iStr te σ H R) ∨ iKeysL te σ H R
theorem s_it {tg e : Expr} {a : E} (hp : ∀ t, PE X e t → PI X tg e (iAnyM C.G.K t)) (h : PE X e (rdE C (evE cal a))) : PI X tg e (rdS C (evSrc cal (.it a))) := PI.imp (hp _ h) fun σ H Q ⟨w, m, e, P, q⟩ => by
  rw [evSrc, Res.sat_bind] at q
  cases h0 : evE cal a m with
  | no => rw [h0] at q; exact q.elim
  | ex x m1 =>
    rw [h0] at q
    exact .inl (.inl (.inl ⟨w, m, e, P, by rw [h0]; exact q⟩))
  | ok r m1 =>
    rw [h0] at q
    have q : Res.sat (match esc m1 r.opd with
      | some (t, m2) => (match itemsT t with
        | some xs => Res.ok xs m2
        | none => .no)
      | none => .no) (fun xs m' => ∀ w' J, SR C.G w' m' σ → Ex w w' → ItOk C.G J xs w' → Q J w'.H) C.EM := q
    cases h1 : esc m1 r.opd with
    | none => rw [h1] at q; exact q.elim
    | some p =>
      obtain ⟨t, m2⟩ := p
      rw [h1] at q
      simp only at q
      cases h2 : itemsT t with
      | none => rw [h2] at q; exact q.elim
      | some xs =>
        rw [h2] at q
        have q : ∀ w' J, SR C.G w' m2 σ → Ex w w' → ItOk C.G J xs w' → Q J w'.H := q
        cases t <;> try (cases h2; done)
        case lst ys =>
          cases h2
          refine .inl (.inl (.inl ⟨w, m, e, P, ?_⟩))
          rw [h0]
          intro w1 v S1 x1 r1
          obtain ⟨w2, e2, S2, x2, r2⟩ := S1.keep r1 h1
          obtain ⟨a, vs, rfl, f, h3, r3⟩ := r2.lst_inv
          refine ⟨a, rfl, ⟨vs, .inl (.inl (by rw [← e2]; exact h3))⟩, ?_⟩
          rw [← e2]
          exact q w2 _ S2 (x1.trans x2) (it_list f h3 r3)
        case tup ys =>
          cases h2
          refine .inl (.inl (.inr ⟨w, m, e, P, ?_⟩))
          rw [h0]
          intro w1 v S1 x1 r1
          obtain ⟨w2, e2, S2, x2, r2⟩ := S1.keep r1 h1
          obtain ⟨a, vs, rfl, h3, r3⟩ := r2.tup_inv
          refine ⟨a, rfl, ⟨vs, ?_⟩, ?_⟩
          · rcases h3 with ⟨_, h3⟩ | h3
            · exact .inl (.inl (by rw [← e2]; exact h3))
            · exact .inr h3
          · rw [← e2]
            exact q w2 _ S2 (x1.trans x2) (it_tup h3 r3)
        case scr ns =>
          cases h2
          refine .inl (.inl (.inl ⟨w, m, e, P, ?_⟩))
          rw [h0]
          intro w1 v S1 x1 r1
          obtain ⟨w2, e2, S2, x2, r2⟩ := S1.keep r1 h1
          obtain ⟨a, rfl, h3⟩ := r2.scr_inv
          refine ⟨a, rfl, ⟨ns.map V.int, ?_⟩, ?_⟩
          · rcases h3 with ⟨_, o, h3⟩ | h3
            · exact .inl (.inr ⟨o, by rw [← e2]; exact h3⟩)
            · exact .inr h3
          · rw [← e2]
            exact q w2 _ S2 (x1.trans x2) (it_scr h3)
        case dic kvs =>
          cases h2
          refine .inr ⟨w, m, e, P, ?_⟩
          rw [h0]
          intro w1 v S1 x1 r1
          obtain ⟨w2, e2, S2, x2, r2⟩ := S1.keep r1 h1
          obtain ⟨a, ks, rfl, f, h3, r3⟩ := r2.dic_inv
          refine ⟨a, ks, rfl, ?_⟩
          rw [← e2]
          rcases h3 with h3 | ⟨o, h3⟩
          · refine .inr ⟨h3, fun o => ?_⟩
            obtain ⟨S3, x3⟩ := S2.lock (o := o) f h3
            exact q (w2.lock a o ks) _ S3 (x1.trans (x2.trans x3)) (it_keys (w := w2.lock a o ks) f upd_same (RFk.mono x3.mo r3))
          · exact .inl ⟨o, h3, q w2 _ S2 (x1.trans x2) (it_keys f h3 r3)⟩
        case str z =>
          simp only [itemsT] at h2
          split at h2
          · rename_i hl
            cases h2
            refine .inl (.inr ⟨w, m, e, P, ?_⟩)
            rw [h0]
            intro w1 v S1 x1 r1
            obtain ⟨w2, e2, S2, x2, r2⟩ := S1.keep r1 h1
            have rz : v = .str z := by cases r2; rfl
            subst rz
            refine ⟨z, rfl, ?_⟩
            rw [← e2]
            exact q w2 _ S2 (x1.trans x2) it_str
          · cases h2
theorem s_rng1 {tg e ea : Expr} {a : E} (hp : ∀ t, PE X ea t → PI X tg e (iRng1 (tCons t tNil))) (h : PE X ea (rdE C (evE cal a))) : PI X tg e (rdS C (evSrc cal (.rng1 a))) := PI.imp (hp _ (pe_opd h)) fun σ H Q ⟨w, m, e, P, q⟩ => by
  rw [evSrc, Res.sat_bind] at q
  refine ⟨w, m, e, P, ?_⟩
  rw [opdF, Res.sat_bind]
  refine Res.sat_mono q fun r m1 q1 w1 v S1 x1 r1 => ?_
  split at q1
  · rename_i j hj
    split at q1
    · rename_i hw
      have e1 : v = .int j := (S1.der r1 hj).int
      subst e1
      have hw' := of_decide_eq_true (show decide (-(2 ^ 62) ≤ j ∧ j < 2 ^ 62) = true from hw)
      refine ⟨j, rfl, hw'.1, hw'.2, ?_⟩
      have it := it_range (G := C.G) (w := w1) (lo := 0) (hi := j)
      rw [Int.sub_zero] at it
      exact q1 w1 _ S1 x1 it
    · exact q1.elim
  · exact q1.elim
theorem s_rng2 {tg e ea eb : Expr} {a b : E} (hp : ∀ t u, PE X ea t → PE X eb u → PI X tg e (iRng2 (tCons t (tCons u tNil)))) (h : PE X ea (rdE C (evE cal a))) (h' : PE X eb (rdE C (evE cal b))) : PI X tg e (rdS C (evSrc cal (.rng2 a b))) :=
  PI.imp (hp _ _ (pe_opd h) (pe_opd h')) fun σ H Q ⟨w, m, e, P, q⟩ => by
  rw [evSrc, Res.sat_bind] at q
  refine ⟨w, m, e, P, ?_⟩
  rw [opdF, Res.sat_bind]
  refine Res.sat_mono q fun ra m1 q1 w1 v S1 x1 r1 => ?_
  rw [Res.sat_bind] at q1
  refine ⟨w1, m1, rfl, P.step S1 x1, ?_⟩
  rw [opdF, Res.sat_bind]
  refine Res.sat_mono q1 fun rb m2 q2 w2 u S2 x2 r2 => ?_
  split at q2
  · rename_i i j hi hj
    split at q2
    · rename_i hw
      have e1 : v = .int i := (S2.der (r1.mono x2.mo) hi).int
      have e2 : u = .int j := (S2.der r2 hj).int
      subst e1; subst e2
      have h1 := of_decide_eq_true (show decide (-(2 ^ 62) ≤ i ∧ i < 2 ^ 62) = true from hw.1)
      have h2 := of_decide_eq_true (show decide (-(2 ^ 62) ≤ j ∧ j < 2 ^ 62) = true from hw.2)
      exact ⟨i, j, rfl, ⟨h1.1, h1.2, h2.1, h2.2⟩, q2 w2 _ S2 (x1.trans x2) it_range⟩
    · exact q2.elim
  · exact q2.elim
theorem it_enumT {G : Gm} {w : Wd} {xs : List T} {vs : List V} {a : Addr} (h : (w.F a ∧ w.H a = some (.tup vs)) ∨ KT G.K a vs) (r : RFs G w xs vs) : ItOk G (IteT G.K a) (enumT 0 xs) w := by
  have h : ∀ w', Mo w w' → SqT G.K w'.H a vs := fun w' mo => by
    rcases h with ⟨f, h⟩ | h
    · exact .inl (.inl ((mo.kp a f).eq h (fun k q => by rcases q with q | ⟨o, q⟩ <;> cases q)))
    · exact .inr h
  refine ⟨fun w' mo => ⟨vs, h w' mo, by rw [enum_len]; exact Nat.le_of_eq r.length.symm⟩, fun i x w' mo hx => ?_⟩
  rw [enum_get] at hx
  cases hn : xs[i]? with
  | none => rw [hn] at hx; cases hx
  | some t =>
    rw [hn] at hx
    cases hx
    obtain ⟨v, hv, rv⟩ := r.get hn
    refine ⟨⟨vs, v, h w' mo, hv⟩, fun v' H' m σ S y => ?_⟩
    obtain ⟨p, x', rfl, hp, rfl, y⟩ := y
    have := y vs (h w' mo)
    rw [hv] at this
    cases this
    obtain ⟨w2, e2, S2, x2, r2⟩ := yld_tup (ts := [.int ((0 + i : Nat) : Int), t]) (vs := [.int (i : Nat), v]) S hp (.cons (by rw [Nat.zero_add]; exact .int _) (.cons (RF.mono mo rv) .nil))
    exact ⟨w2, e2, S2, x2, r2, ex_out x2⟩
theorem s_enum {tg e ea : Expr} {a : E} (hp : ∀ t, PE X ea t → PI X tg e (iEnumT C.G.K (tCons t tNil))) (h : PE X ea (rdE C (evE cal a))) : PI X tg e (rdS C (evSrc cal (.enum a))) := PI.imp (hp _ h) fun σ H Q ⟨w, m, e, P, q⟩ => by
  rw [evSrc, Res.sat_bind] at q
  refine ⟨w, m, e, P, Res.sat_mono q fun r m1 q1 w1 v S1 x1 r1 => ?_⟩
  cases h1 : esc m1 r.opd with
  | none => rw [h1] at q1; exact q1.elim
  | some p =>
    obtain ⟨t, m2⟩ := p
    rw [h1] at q1
    simp only at q1
    cases t <;> try (exact q1.elim)
    case lst ys =>
      have q1 : ∀ w' J, SR C.G w' m2 σ → Ex w w' → ItOk C.G J (enumT 0 ys) w' → Q J w'.H := q1
      obtain ⟨w2, e2, S2, x2, r2⟩ := S1.keep r1 h1
      obtain ⟨a, vs, rfl, f, h3, r3⟩ := r2.lst_inv
      refine ⟨a, vs, rfl, .inl ⟨.inl (.inl (by rw [← e2]; exact h3)), ?_⟩⟩
      rw [← e2]
      exact q1 w2 _ S2 (x1.trans x2) (it_enum f h3 r3)
    case tup ys =>
      have q1 : ∀ w' J, SR C.G w' m2 σ → Ex w w' → ItOk C.G J (enumT 0 ys) w' → Q J w'.H := q1
      obtain ⟨w2, e2, S2, x2, r2⟩ := S1.keep r1 h1
      obtain ⟨a, vs, rfl, h3, r3⟩ := r2.tup_inv
      refine ⟨a, vs, rfl, .inr ⟨?_, ?_⟩⟩
      · rw [← e2]
        rcases h3 with ⟨f, h⟩ | h
        · exact .inl (.inl h)
        · exact .inr h
      · rw [← e2]
        exact q1 w2 _ S2 (x1.trans x2) (it_enumT h3 r3)
theorem s_zip {tg e ea eb : Expr} {a b : E} (hp : ∀ t u, PE X ea t → PE X eb u → PI X tg e (iZip C.G.K (tCons t (tCons u tNil)))) (h : PE X ea (rdE C (evE cal a))) (h' : PE X eb (rdE C (evE cal b))) : PI X tg e (rdS C (evSrc cal (.zip a b))) :=
  PI.imp (hp _ _ (pe_opd h) (pe_opd h')) fun σ H Q ⟨w, m, e, P, q⟩ => by
  rw [evSrc, Res.sat_bind] at q
  refine ⟨w, m, e, P, ?_⟩
  rw [opdF, Res.sat_bind]
  refine Res.sat_mono q fun ra m1 q1 w1 v S1 x1 r1 => ?_
  rw [Res.sat_bind] at q1
  refine ⟨w1, m1, rfl, P.step S1 x1, ?_⟩
  rw [opdF, Res.sat_bind]
  refine Res.sat_mono q1 fun rb m2 q2 w2 u S2 x2 r2 => ?_
  cases h1 : escs m2 [ra.opd, rb.opd] with
  | none => rw [h1] at q2; exact q2.elim
  | some p =>
    obtain ⟨ts, m3⟩ := p
    rw [h1] at q2
    obtain ⟨w3, e3, S3, x3, r3⟩ := SR.escs S2 (.cons (r1.mono x2.mo) (.cons r2 .nil)) h1
    cases r3 with
    | @cons t _ ts1 _ a1 b1 =>
      cases b1 with
      | @cons t' _ ts2 _ a2 b2 =>
        cases b2
        simp only at q2
        cases t <;> try (exact q2.elim)
        case lst xs =>
          cases t' <;> try (exact q2.elim)
          case lst ys =>
            have q2 : ∀ w' J, SR C.G w' m3 σ → Ex w w' → ItOk C.G J (zipT xs ys) w' → Q J w'.H := q2
            obtain ⟨a, vs, rfl, f, h3, r3⟩ := a1.lst_inv
            obtain ⟨b, us, rfl, f', h4, r4⟩ := a2.lst_inv
            refine ⟨a, b, vs, us, rfl, .inl (.inl (by rw [← e3]; exact h3)), .inl (.inl (by rw [← e3]; exact h4)), ?_⟩
            rw [← e3]
            exact q2 w3 _ S3 (x1.trans (x2.trans x3)) (it_zip f h3 r3 f' h4 r4)
end
end Mi
set_option maxHeartbeats 1000000
namespace Mi
open PySem PySem.Spec PyProof.Rows L2

theorem wipe_in {σ : St} : ∀ {vs : List Nat} {j : Nat}, j ∈ vs → (wipe σ vs)[j]? = if j < σ.length then some none else none
  | [], j, h => by cases h
  | v :: vs, j, h => by
    unfold wipe
    by_cases e : v = j
    · subst e
      split
      · rename_i lt
        rw [List.getElem?_set_self (by rw [wipe_length]; exact lt)]
      · rename_i lt
        rw [List.getElem?_eq_none (by rw [List.length_set, wipe_length]; omega)]
    · rw [List.getElem?_set_ne e]
      exact wipe_in ((List.mem_cons.mp h).resolve_left fun z => e z.symm)
theorem wipe_eq {σ τ : St} {vs : List Nat} (l : τ.length = σ.length) (h : ∀ j, j ∉ vs → τ[j]? = σ[j]?) : wipe τ vs = wipe σ vs := by
  apply List.ext_getElem?
  intro j
  by_cases e : j ∈ vs
  · rw [wipe_in e, wipe_in e, l]
  · rw [wipe_out e, wipe_out e, h j e]
section
variable {G : Gm} {w w' w1 : Wd} {m m1 m2 : List Slot} {σ τ : St} {D : Addr} {u : HO}
theorem SR.setNone {i : Nat} (S : SR G w m σ) : SR G w (m.set i .no) (σ.set i none) := by
  have sub : ∀ {k : Nat} {o1 : O}, (m.set i Slot.no)[k]? = some (.ow o1) → k ≠ i ∧ m[k]? = some (.ow o1) := fun {k o1} hk => by
    by_cases hj : k = i
    · subst hj
      by_cases lt : k < m.length
      · rw [List.getElem?_set_self lt] at hk; cases hk
      · rw [List.getElem?_eq_none (by rw [List.length_set]; omega)] at hk; cases hk
    · exact ⟨hj, by rwa [List.getElem?_set_ne (Ne.symm hj)] at hk⟩
  refine ⟨by rw [List.length_set, List.length_set]; exact S.len, fun j s h => ?_, fun j k o1 o2 b h1 h2 e1 e2 => ?_, S.sep, S.trk⟩
  · by_cases hj : j = i
    · subst hj
      have lt : j < m.length := by have := (List.getElem?_eq_some_iff.mp h).1; rwa [List.length_set] at this
      rw [List.getElem?_set_self lt] at h
      cases h
      trivial
    · rw [List.getElem?_set_ne (Ne.symm hj)] at h
      rw [List.getElem?_set_ne (Ne.symm hj)]
      exact S.sl j s h
  · obtain ⟨n1, q1⟩ := sub h1
    obtain ⟨n2, q2⟩ := sub h2
    rw [List.getElem?_set_ne (Ne.symm n1)] at e1
    rw [List.getElem?_set_ne (Ne.symm n2)] at e2
    exact S.inj j k o1 o2 b q1 q2 e1 e2
theorem SR.wipe (S : SR G w m σ) : ∀ vs : List Nat, SR G w (wipeM m vs) (L2.wipe σ vs)
  | [] => S
  | v :: vs => (SR.wipe S vs).setNone
theorem SR.wipeM (S : SR G w m σ) : ∀ vs : List Nat, SR G w (Mi.wipeM m vs) σ
  | [] => S
  | v :: vs => (SR.wipeM S vs).setNo
theorem restM_length {m0 m : List Slot} : ∀ vs : List Nat, (restM m0 m vs).length = m.length
  | [] => rfl
  | v :: vs => by unfold restM; rw [List.length_set, restM_length vs]
theorem restM_in {m0 m : List Slot} : ∀ {vs : List Nat} {j : Nat}, j ∈ vs → (restM m0 m vs)[j]? = if j < m.length then some (m0[j]?.getD .no) else none
  | [], j, h => by cases h
  | v :: vs, j, h => by
    unfold restM
    by_cases e : v = j
    · subst e
      split
      · rename_i lt
        rw [List.getElem?_set_self (by rw [restM_length]; exact lt)]
      · rename_i lt
        rw [List.getElem?_eq_none (by rw [List.length_set, restM_length]; omega)]
    · rw [List.getElem?_set_ne e]
      exact restM_in ((List.mem_cons.mp h).resolve_left fun z => e z.symm)
theorem restM_out {m0 m : List Slot} : ∀ {vs : List Nat} {j : Nat}, j ∉ vs → (restM m0 m vs)[j]? = m[j]?
  | [], j, h => rfl
  | v :: vs, j, h => by
    simp only [List.mem_cons, not_or] at h
    unfold restM
    rw [List.getElem?_set_ne (fun z => h.1 z.symm)]
    exact restM_out h.2
theorem SR.rest {vs : List Nat} (S1 : SR G w1 m1 σ) (mo : Mo w1 w) (S : SR G w m τ) (l : τ.length = σ.length) (hτ : ∀ j, j ∉ vs → τ[j]? = σ[j]?) (no : noOw m1 vs = true) : SR G w (restM m1 m vs) σ := by
  have no' : ∀ j ∈ vs, ∀ o, m1[j]?.getD .no ≠ .ow o := fun j hj o e => by
    have := List.all_eq_true.mp no j hj
    cases h : m1[j]? with
    | none => rw [h] at e; cases e
    | some s =>
      rw [h] at e this
      have e : s = .ow o := e
      subst e
      cases this
  have sub : ∀ {k : Nat} {o1 : O}, (restM m1 m vs)[k]? = some (.ow o1) → k ∉ vs ∧ m[k]? = some (.ow o1) := fun {k o1} hk => by
    by_cases hj : k ∈ vs
    · rw [restM_in hj] at hk
      split at hk
      · exact absurd (Option.some.inj hk) (no' k hj o1)
      · cases hk
    · exact ⟨hj, by rwa [restM_out hj] at hk⟩
  refine ⟨by rw [restM_length, S.len, l], fun j s h => ?_, fun j k o1 o2 b h1 h2 e1 e2 => ?_, S.sep, S.trk⟩
  · by_cases hj : j ∈ vs
    · rw [restM_in hj] at h
      split at h
      · rename_i lt
        have lt1 : j < m1.length := by rw [S1.len, ← l, ← S.len]; exact lt
        have e1 : m1[j]? = some m1[j] := List.getElem?_eq_getElem lt1
        rw [e1] at h
        have h : m1[j] = s := Option.some.inj h
        rw [h] at e1
        have q := S1.sl j s e1
        cases s with
        | no => trivial
        | fz t => obtain ⟨x, a, b⟩ := q; exact ⟨x, a, RF.mono mo b⟩
        | ow o => exact absurd (by rw [e1]; rfl) (no' j hj o)
      · cases h
    · rw [restM_out hj] at h
      have q := S.sl j s h
      rwa [hτ j hj] at q
  · obtain ⟨n1, q1⟩ := sub h1
    obtain ⟨n2, q2⟩ := sub h2
    exact S.inj j k o1 o2 b q1 q2 (by rw [hτ j n1]; exact e1) (by rw [hτ k n2]; exact e2)
theorem Mo.poke (nf : ¬ w.F D) : Mo w (w.wr D u) := ⟨fun _ h => h, fun a f => .inl (upd_ne (show a ≠ D from fun z => nf (z ▸ f))).symm⟩
theorem SR.poke (S : SR G w m σ) (nf : ¬ w.F D) (nl : ¬ w.L D) : SR G (w.wr D u) m σ :=
  S.grow (Mo.poke nf) (fun a l => ⟨l, fun _ => upd_ne (show a ≠ D from fun z => nl (z ▸ l))⟩) S.sep fun a f => by
    obtain ⟨v, h⟩ := S.trk a f
    exact ⟨v, (upd_ne (show a ≠ D from fun z => nf (z ▸ f))).trans h⟩
theorem Ex.poke (x : Ex w1 w) (h : w1.H D = none) (nf : ¬ w.F D) : Ex w1 (w.wr D u) :=
  ⟨x.fz, fun a f => (x.kp a f).trans (.inl (upd_ne (show a ≠ D from fun z => nf (z ▸ x.fz a f))).symm), fun a v h1 h2 h3 => by
    obtain ⟨q1, q2, q3⟩ := x.ot a v h1 h2 h3
    exact ⟨(upd_ne (ne_of_none h1 h)).trans q1, q2, q3⟩⟩
/-- a new object is taken in -/
def Wd.ad (w : Wd) (D : Addr) : Wd := ⟨w.F, fun a => w.L a ∨ a = D, w.H⟩
theorem SR.adopt (S : SR G w m σ) (nf : ¬ w.F D) : SR G (w.ad D) m σ :=
  S.grow ⟨fun _ h => h, fun _ _ => .refl _⟩ (fun a l => ⟨.inl l, fun _ => rfl⟩) (fun a l f => l.elim (fun l => S.sep a l f) fun e => nf (e ▸ f)) S.trk
theorem Ex.adopt (x : Ex w1 w) (h : w1.H D = none) : Ex w1 (w.ad D) := ⟨x.fz, x.kp, fun a v h1 h2 h3 => by
  obtain ⟨q1, q2, q3⟩ := x.ot a v h1 h2 h3
  exact ⟨q1, q2, fun z => z.elim q3 (ne_of_none h1 h)⟩⟩
end
section
variable {C : Ct} {X : Cx} {cal : Nat → List Slot → CRes}
def Ct.inn (C : Ct) : Ct := ⟨C.G, C.w0, C.s0, fun _ => false, fun _ _ => False⟩
theorem Res.sat_calm {α : Type} {r : Res α} {A : α → List Slot → Prop} {B : T → List Slot → Prop} (h : r.calm.sat A B) : r.sat A fun _ _ => False := by
  cases r with
  | ok a m => exact h
  | ex x m => exact h
  | no => exact h
theorem rd_comp {own : List Nat} {p : Pt} {s : Src} {cs : Es} {e : E} {g : TG} (hg : GP C.G p g) (hsub : ∀ j ∈ p.sl, j ∈ own) {σ : St} {H : Hp} {Q : VK} (h : rdE C (evE cal (.comp own p s cs e)) σ H Q) :
    tLc (rdS C (evSrc cal s)) g (rdB C.inn (evAll cal cs)) (rdE C.inn (evE cal e)) own σ H Q := by
  obtain ⟨w, m, eH, P, q⟩ := h
  rw [evE, Res.sat_bind] at q
  refine ⟨w, m, eH, P, Res.sat_mono q fun xs m1 q1 w1 J S1 x1 it => ?_⟩
  split at q1
  · rename_i no
    intro D hD
    rw [Res.sat_bind] at q1
    have q1 := Res.sat_calm q1
    have nf1 : ¬ w1.F D := fun f => by
      obtain ⟨u, z⟩ := S1.trk D f
      rw [hD] at z; cases z
    refine ⟨fun i n H => i + n = xs.length ∧ ∃ wq mc acc vs, wq.H = H ∧ SR C.G wq mc (wipe σ own) ∧ Ex w1 wq ∧ ¬ wq.F D ∧ ¬ wq.L D ∧ wq.H D = some (.lst vs) ∧ RFs C.G wq acc vs ∧
      (compGo own p (fun m => evAll cal cs m) (fun m => evE cal e m) (xs.drop i) acc mc).sat (fun acc m2 => (Res.ok (R.ow (.lst acc)) (restM m1 m2 own)).sat (fun r m' => ∀ w' v, SR C.G w' m' σ → Ex w w' → RR C.G w' m' σ r v → Q v w'.H) C.EM) fun _ _ => False, ?_, ?_⟩
    · refine ⟨xs.length, by omega, ?_⟩
      -- the owner of D, in no slot: forget
      have S0 := S1.wipe own
      have nlD : ∃ w1' : Wd, w1'.H = w1.H ∧ SR C.G w1' (wipeM m1 own) (wipe σ own) ∧ Ex w1 w1' ∧ ¬ w1'.F D ∧ ¬ w1'.L D := by
        refine ⟨⟨w1.F, fun a => w1.L a ∧ a ≠ D, w1.H⟩, rfl, ?_, ⟨fun _ h => h, fun _ _ => .refl _, fun a u h1 h2 h3 => ⟨h1, h2, fun z => h3 z.1⟩⟩, nf1, fun z => z.2 rfl⟩
        refine ⟨S0.len, fun j s h => ?_, S0.inj, fun a l f => S0.sep a l.1 f, S0.trk⟩
        have q := S0.sl j s h
        cases s with
        | no => trivial
        | fz t => obtain ⟨x, a, b⟩ := q; exact ⟨x, a, RF.mono (w := w1) (w' := ⟨w1.F, fun a => w1.L a ∧ a ≠ D, w1.H⟩) (mo_same rfl rfl) b⟩
        | ow o =>
          obtain ⟨a, e1, r, l⟩ := q
          refine ⟨a, e1, r.mono (mo_same rfl rfl) rfl, l, fun z => ?_⟩
          obtain ⟨u, hu⟩ := r.trk
          rw [z, hD] at hu; cases hu
      obtain ⟨w1', e1', S1', x1', nf', nl'⟩ := nlD
      refine ⟨w1'.wr D (.lst []), wipeM m1 own, [], [], by show upd w1'.H D _ = _; rw [e1'], S1'.poke nf' nl', x1'.poke hD nf', nf', nl', upd_same, .nil, ?_⟩
      rw [List.drop_zero]
      exact q1
    · rintro i n H ⟨hin, wc, mc, acc, vs, rfl, S, xc, nf, nl, hDv, rs, q2⟩
      cases hdr : xs.drop i with
      | nil =>
        have hi : i = xs.length := by
          have := congrArg List.length hdr
          rw [List.length_drop] at this
          simp at this
          omega
        subst hi
        rw [hdr] at q2
        have q2 : ∀ w' v, SR C.G w' (restM m1 mc own) σ → Ex w w' → RR C.G w' (restM m1 mc own) σ (.ow (.lst acc)) v → Q v w'.H := q2
        refine .inl ⟨it.stop wc xc.mo, ?_⟩
        have S2 : SR C.G wc (restM m1 mc own) σ := SR.rest S1 xc.mo S (wipe_length ..) (fun j hj => wipe_out hj) no
        refine q2 (wc.ad D) (.ref D) (S2.adopt nf) (x1.trans (xc.adopt hD)) ⟨D, rfl, .lst hDv (RFs.mono (w := wc) (w' := wc.ad D) (mo_same rfl rfl) rs), .inr rfl, fun j o' hj z => ?_⟩
        obtain ⟨a, e1, _, l⟩ := S2.sl j _ hj
        rw [z] at e1
        cases e1
        exact nl l
      | cons x rest =>
        have hx : xs[i]? = some x := by
          have := congrArg (fun l => l[0]?) hdr
          simpa using this
        have hlt : i < xs.length := (List.getElem?_eq_some_iff.mp hx).1
        have hrest : xs.drop (i + 1) = rest := by
          have := congrArg List.tail hdr
          simpa using this
        rw [hdr] at q2
        unfold compGo at q2
        obtain ⟨hgo, hyl⟩ := it.go i x wc xc.mo hx
        refine .inr ⟨hgo, fun H' => ∃ wq mc acc vs, wq.H = H' ∧ SR C.G wq mc (wipe σ own) ∧ Ex w1 wq ∧ ¬ wq.F D ∧ ¬ wq.L D ∧ wq.H D = some (.lst vs) ∧ RFs C.G wq acc vs ∧
          (compGo own p (fun m => evAll cal cs m) (fun m => evE cal e m) rest acc mc).sat (fun acc m2 => (Res.ok (R.ow (.lst acc)) (restM m1 m2 own)).sat (fun r m' => ∀ w' v, SR C.G w' m' σ → Ex w w' → RR C.G w' m' σ r v → Q v w'.H) C.EM) fun _ _ => False,
          fun H' nx => ⟨n - 1, by omega, by omega, by rw [hrest]; exact nx⟩, fun v H' y => ?_⟩
        obtain ⟨w2, e2, S2, x2, r2, _⟩ := hyl v H' (wipeM mc own) (wipe σ own) (S.wipeM own) y
        cases hb : bindP (wipeM mc own) p x with
        | none => rw [hb] at q2; exact q2.elim
        | some m3 =>
          rw [hb] at q2
          simp only at q2
          rw [Res.sat_bind] at q2
          rw [← e2]
          refine hg w2 (wipeM mc own) m3 (wipe σ own) x v _ S2 r2 hb fun σ3 S3 f3 l3 => ⟨wipe_eq (by rw [l3, wipe_length]) fun j hj => by rw [f3 j fun z => hj (hsub j z), wipe_out hj], ?_⟩
          have w3eq : wipe σ3 own = wipe σ own := wipe_eq (by rw [l3, wipe_length]) fun j hj => by rw [f3 j fun z => hj (hsub j z), wipe_out hj]
          obtain ⟨d1, d2, d3⟩ := x2.ot D _ hDv nf nl
          refine ⟨w2, m3, rfl, ⟨S3, (P.ex.trans x1).trans (xc.trans x2), fun j z => nomatch z⟩, Res.sat_mono q2 fun r m4 q4 => ?_⟩
          cases r with
          | ow o => exact q4.elim
          | bo k => exact q4.elim
          | fz t =>
            cases t <;> try (exact q4.elim)
            case bl b =>
              refine ⟨b, rfl, fun w4 S4 x4 => ?_⟩
              obtain ⟨g1, g2, g3⟩ := x4.ot D _ d1 d2 d3
              cases b with
              | false =>
                refine ⟨w4, wipeM m4 own, acc, vs, rfl, ?_, xc.trans (x2.trans x4), g2, g3, g1, RFs.mono (x2.trans x4).mo rs, q4⟩
                have := S4.wipe own
                rwa [w3eq] at this
              | true =>
                simp only at q4
                rw [Res.sat_bind] at q4
                refine ⟨w4, m4, rfl, ⟨S4, (P.ex.trans x1).trans (xc.trans (x2.trans x4)), fun j z => nomatch z⟩, Res.sat_mono q4 fun r5 m5 q5 w5 v5 S5 x5 rr5 => ?_⟩
                obtain ⟨k1, k2, k3⟩ := x5.ot D _ g1 g2 g3
                refine ⟨vs, k1, ?_⟩
                cases hes : esc m5 r5.opd with
                | none => rw [hes] at q5; exact q5.elim
                | some pr =>
                  obtain ⟨t6, m6⟩ := pr
                  rw [hes] at q5
                  simp only at q5
                  split at q5
                  · rename_i hlen
                    obtain ⟨w6, e6, S6, x6, r6⟩ := S5.keep rr5 hes
                    obtain ⟨y1, y2, y3⟩ := x6.ot D _ k1 k2 k3
                    refine ⟨by rw [← rs.length]; exact hlen, w6.wr D (.lst (vs ++ [v5])), wipeM m6 own, acc ++ [t6], vs ++ [v5], by show upd w6.H D _ = _; rw [e6], ?_, (xc.trans (x2.trans (x4.trans (x5.trans x6)))).poke hD y2, y2, y3, upd_same, ?_, q5⟩
                    · have := (S6.wipe own).poke (u := .lst (vs ++ [v5])) y2 y3
                      rwa [w3eq] at this
                    · exact RFs.mono (Mo.poke y2) ((RFs.mono (x2.trans (x4.trans (x5.trans x6))).mo rs).append (.cons r6 .nil))
                  · exact q5.elim
  · exact q1.elim
theorem n_comp {ex : Expr} {own : List Nat} {p : Pt} {s : Src} {cs : Es} {e : E} {g : TG} (hg : GP C.G p g) (hsub : ∀ j ∈ p.sl, j ∈ own) (hp : PE X ex (tLc (rdS C (evSrc cal s)) g (rdB C.inn (evAll cal cs)) (rdE C.inn (evE cal e)) own)) :
    PE X ex (rdE C (evE cal (.comp own p s cs e))) := PE.imp hp fun _ _ _ q => rd_comp hg hsub q
end
end Mi
set_option maxHeartbeats 1000000
namespace Mi
open PySem PySem.Spec PyProof.Rows L2

def FSat (C : Ct) (w : Wd) (D : Ends) : Fl → Prop
  | .nx m => ∀ w' σ', Pre C w' m σ' → Ex w w' → D.nx σ' w'.H
  | .bk m => ∀ w' σ', Pre C w' m σ' → Ex w w' → D.bk σ' w'.H
  | .ct m => ∀ w' σ', Pre C w' m σ' → Ex w w' → D.ct σ' w'.H
  | .rt r m => ∀ w' σ' v, Pre C w' m σ' → Ex w w' → RR C.G w' m σ' r v → D.rt v w'.H
  | .ex x m => C.EM x m
  | .no => False
def rdSt (C : Ct) (f : List Slot → Fl) : TS := fun D σ H => ∃ w m, w.H = H ∧ Pre C w m σ ∧ FSat C w D (f m)
section
variable {C : Ct} {X : Cx} {cal : Nat → List Slot → CRes} {L : Nat}
theorem FSat.weak {w w' : Wd} {D : Ends} {fl : Fl} (h : FSat C w D fl) (x : Ex w w') : FSat C w' D fl := by
  cases fl with
  | nx m => exact fun w2 σ2 p y => h w2 σ2 p (x.trans y)
  | bk m => exact fun w2 σ2 p y => h w2 σ2 p (x.trans y)
  | ct m => exact fun w2 σ2 p y => h w2 σ2 p (x.trans y)
  | rt r m => exact fun w2 σ2 v p y => h w2 σ2 v p (x.trans y)
  | ex x m => exact h
  | no => exact h
theorem FSat_ofR {w : Wd} {D : Ends} {r : Res R} {k : R → List Slot → Fl} : FSat C w D (ofR r k) ↔ r.sat (fun a m => FSat C w D (k a m)) C.EM := by
  cases r <;> exact Iff.rfl
theorem Pre.fixSet {w : Wd} {m m' : List Slot} {σ : St} {i : Nat} {v : Option V} (P : Pre C w m σ) (nfx : C.fx i = false) : ∀ j, C.fx j = true → (σ.set i v)[j]? = C.s0[j]? := fun j hj => by
  rw [List.getElem?_set_ne, P.fix j hj]
  intro e
  rw [e, hj] at nfx
  cases nfx
theorem st_nil : PSs X [] (rdSt C (evSs cal L .nil)) := PSs.imp pss_nil fun D σ H ⟨w, m, e, P, q⟩ => by
  rw [evSs] at q
  have := q w σ P (.refl w)
  rwa [e] at this
theorem st_cons {st : Stmt} {rest : List Stmt} {s : S} {r : Ss} (h : PS X st (rdSt C (evS cal L s))) (hr : PSs X rest (rdSt C (evSs cal L r))) : PSs X (st :: rest) (rdSt C (evSs cal L (.cons s r))) :=
  PSs.imp (pss_cons h hr) fun D σ H ⟨w, m, e, P, q⟩ => by
  rw [evSs] at q
  refine ⟨w, m, e, P, ?_⟩
  cases h1 : evS cal L s m with
  | nx m1 => rw [h1] at q; exact fun w1 σ1 P1 x1 => ⟨w1, m1, rfl, P1, FSat.weak q x1⟩
  | rt r m1 => rw [h1] at q; exact q
  | bk m1 => rw [h1] at q; exact q
  | ct m1 => rw [h1] at q; exact q
  | ex x m1 => rw [h1] at q; exact q
  | no => rw [h1] at q; exact q
theorem st_set {st : Stmt} {i : Nat} {e : E} (nfx : C.fx i = false) (h : PS X st (tAsg (rdE C (evE cal e)) (gName i))) : PS X st (rdSt C (evS cal L (.set i e))) := PS.imp h fun D σ H ⟨w, m, eH, P, q⟩ => by
  rw [evS, FSat_ofR] at q
  refine ⟨w, m, eH, P, Res.sat_mono q fun r m1 q1 w1 v S1 x1 r1 => ?_⟩
  show D.nx (σ.set i (some v)) w1.H
  unfold putR at q1
  split at q1
  · cases r with
    | fz t => exact q1 w1 _ ⟨S1.setFz r1, P.ex.trans x1, P.fixSet (m' := m1) nfx⟩ x1
    | ow o =>
      obtain ⟨p, rfl, ro, l, n⟩ := r1
      exact q1 w1 _ ⟨S1.setOw ro l n, P.ex.trans x1, P.fixSet (m' := m1) nfx⟩ x1
    | bo j =>
      simp only at q1
      cases h1 : esc m1 (.b j) with
      | none => rw [h1] at q1; exact q1.elim
      | some p =>
        obtain ⟨t, m2⟩ := p
        rw [h1] at q1
        obtain ⟨w2, e2, S2, x2, rf⟩ := S1.esc (d := .b j) r1 h1
        have := q1 w2 _ ⟨S2.setFz rf, P.ex.trans (x1.trans x2), P.fixSet (m' := m1) nfx⟩ (x1.trans x2)
        rwa [e2] at this
  · exact q1.elim
theorem st_unp {st : Stmt} {p : Pt} {e : E} {g : TG} (hg : GP C.G p g) (nfx : ∀ j ∈ p.sl, C.fx j = false) (h : PS X st (tAsg (rdE C (evE cal e)) g)) : PS X st (rdSt C (evS cal L (.unp p e))) := PS.imp h fun D σ H ⟨w, m, eH, P, q⟩ => by
  rw [evS, FSat_ofR] at q
  refine ⟨w, m, eH, P, Res.sat_mono q fun r m1 q1 w1 v S1 x1 r1 => ?_⟩
  cases h1 : esc m1 r.opd with
  | none => rw [h1] at q1; exact q1.elim
  | some pr =>
    obtain ⟨t, m2⟩ := pr
    rw [h1] at q1
    simp only at q1
    obtain ⟨w2, e2, S2, x2, r2⟩ := S1.keep r1 h1
    cases h2 : bindP m2 p t with
    | none => rw [h2] at q1; exact q1.elim
    | some m3 =>
      rw [h2] at q1
      rw [← e2]
      refine hg w2 m2 m3 σ t v _ S2 r2 h2 fun σ3 S3 f3 l3 => q1 w2 σ3 ⟨S3, P.ex.trans (x1.trans x2), fun j hj => ?_⟩ (x1.trans x2)
      rw [f3 j (fun z => by rw [nfx j z] at hj; cases hj), P.fix j hj]
theorem st_par {st : Stmt} {i j : Nat} {a b : E} (nfx : C.fx i = false ∧ C.fx j = false) (h : PS X st (tPar i j (rdDs C (evDs cal (.cons a (.cons b .nil)))))) : PS X st (rdSt C (evS cal L (.par i j a b))) := PS.imp h fun D σ H ⟨w, m, eH, P, q⟩ => by
  rw [evS, FSat_ofR] at q
  refine ⟨w, m, eH, P, ?_⟩
  rw [evDs, Res.sat_bind]
  refine Res.sat_mono q fun ra m1 q1 => ?_
  rw [FSat_ofR] at q1
  rw [Res.sat_bind, evDs, Res.sat_bind]
  refine Res.sat_mono q1 fun rb m2 q2 => ?_
  rw [Res.sat_bind, evDs]
  intro w2 vs S2 x2 rs
  cases rs with
  | @cons _ v _ _ r1 rs =>
    cases rs with
    | @cons _ u _ _ r2 rs =>
      cases rs
      refine ⟨v, u, rfl, ?_⟩
      cases h1 : escs m2 [ra.opd, rb.opd] with
      | none => rw [h1] at q2; exact q2.elim
      | some pr =>
        obtain ⟨ts, m3⟩ := pr
        rw [h1] at q2
        obtain ⟨w3, e3, S3, x3, r3⟩ := SR.escs S2 (.cons r1 (.cons r2 .nil)) h1
        cases r3 with
        | @cons t _ ts1 _ a1 b1 =>
          cases b1 with
          | @cons t' _ ts2 _ a2 b2 =>
            cases b2
            simp only at q2
            split at q2
            · rw [← e3]
              refine q2 w3 _ ⟨(S3.setFz a1).setFz a2, P.ex.trans (x2.trans x3), fun k hk => ?_⟩ (x2.trans x3)
              rw [List.getElem?_set_ne, List.getElem?_set_ne, P.fix k hk]
              · intro e; rw [e, hk] at nfx; exact nomatch nfx.1
              · intro e; rw [e, hk] at nfx; exact nomatch nfx.2
            · exact q2.elim
theorem st_aug {st : Stmt} {i : Nat} {f : Op} {e : E} {ti : TIp} (nfx : C.fx i = false) (ht : ∀ (x y z : T) (Q : VK) (H : Hp), augF f x y = some z → Q (vT z) H → flatT z = true → flatT x = true → flatT y = true → ti (vT x) (vT y) H Q) (hf : ∀ x y z, augF f x y = some z → flatT x = true ∧ flatT y = true ∧ flatT z = true)
    (h : PS X st (tAug i (rdD C (opdF (evE cal e))) ti)) : PS X st (rdSt C (evS cal L (.aug i f e))) := PS.imp h fun D σ H ⟨w, m, eH, P, q⟩ => by
  rw [evS] at q
  cases h0 : m[i]? with
  | none => rw [h0] at q; exact q.elim
  | some s =>
    rw [h0] at q
    have sl := P.sr.sl i s h0
    cases s with
    | no => exact q.elim
    | ow o => exact q.elim
    | fz x =>
      obtain ⟨xv, e1, rx⟩ := sl
      simp only at q
      rw [FSat_ofR] at q
      refine ⟨xv, e1, w, m, eH, P, ?_⟩
      rw [opdF, Res.sat_bind]
      refine Res.sat_mono q fun r m1 q1 w1 v S1 x1 r1 => ?_
      split at q1
      · rename_i y hy hd
        split at q1
        · rename_i z hz
          obtain ⟨f1, f2, f3⟩ := hf _ _ _ hz
          rw [RF.flat f1 rx, RA.flat f2 (S1.der r1 hd)]
          exact ht x y z _ _ hz (q1 w1 _ ⟨S1.setFz (RF.of_flat f3), P.ex.trans x1, P.fixSet (m' := m1) nfx⟩ x1) f3 f1 f2
        · exact q1.elim
      · exact q1.elim
theorem st_ex {st : Stmt} {e : E} (h : PS X st (tDrop (rdE C (evE cal e)))) : PS X st (rdSt C (evS cal L (.ex e))) := PS.imp h fun D σ H ⟨w, m, eH, P, q⟩ => by
  rw [evS, FSat_ofR] at q
  refine ⟨w, m, eH, P, Res.sat_mono q fun r m1 q1 w1 v S1 x1 r1 => q1 w1 σ (P.step S1 x1) x1⟩
theorem st_ret {st : Stmt} {e : E} (h : PS X st (tRet (rdE C (evE cal e)))) : PS X st (rdSt C (evS cal L (.ret e))) := PS.imp h fun D σ H ⟨w, m, eH, P, q⟩ => by
  rw [evS, FSat_ofR] at q
  refine ⟨w, m, eH, P, Res.sat_mono q fun r m1 q1 w1 v S1 x1 r1 => ?_⟩
  cases r with
  | fz t => exact q1 w1 σ v (P.step S1 x1) x1 r1
  | ow o => exact q1 w1 σ v (P.step S1 x1) x1 r1
  | bo i =>
    dsimp only [outR] at q1
    have r1 : σ[i]? = some (some v) := r1
    cases h1 : m1[i]? with
    | none => rw [h1] at q1; exact q1.elim
    | some s =>
      rw [h1] at q1
      have sl := S1.sl i s h1
      cases s with
      | no => exact q1.elim
      | fz t =>
        obtain ⟨x, e1, r2⟩ := sl
        rw [r1] at e1
        cases e1
        exact q1 w1 σ v (P.step S1 x1) x1 r2
      | ow o =>
        obtain ⟨a, e1, ro, l⟩ := sl
        rw [r1] at e1
        cases e1
        refine q1 w1 σ (.ref a) (P.step S1.setNo x1) x1 ⟨a, rfl, ro, l, fun k o' hk z => ?_⟩
        by_cases hj : k = i
        · subst hj
          rw [List.getElem?_set_self (List.getElem?_eq_some_iff.mp h1).1] at hk
          cases hk
        · rw [List.getElem?_set_ne (Ne.symm hj)] at hk
          exact hj (S1.inj k i o' o a hk h1 z r1)
theorem st_retn {st : Stmt} (h : PS X st tRetN) : PS X st (rdSt C (evS cal L .retn)) := PS.imp h fun D σ H ⟨w, m, eH, P, q⟩ => by
  rw [evS] at q
  have := q w σ .non P (.refl w) .non
  rwa [eH] at this
theorem st_brk {st : Stmt} (h : PS X st tBreak) : PS X st (rdSt C (evS cal L .brk)) := PS.imp h fun D σ H ⟨w, m, eH, P, q⟩ => by
  rw [evS] at q
  have := q w σ P (.refl w)
  rwa [eH] at this
theorem st_cnt {st : Stmt} (h : PS X st tCont) : PS X st (rdSt C (evS cal L .cnt)) := PS.imp h fun D σ H ⟨w, m, eH, P, q⟩ => by
  rw [evS] at q
  have := q w σ P (.refl w)
  rwa [eH] at this
theorem st_pas {st : Stmt} (h : PS X st tNext) : PS X st (rdSt C (evS cal L .pas)) := PS.imp h fun D σ H ⟨w, m, eH, P, q⟩ => by
  rw [evS] at q
  have := q w σ P (.refl w)
  rwa [eH] at this
/-- a test that is a bool -/
theorem rd_test {f : List Slot → Res R} {σ : St} {w : Wd} {m : List Slot} {Q : Bool → Hp → Prop} (P : Pre C w m σ) (h : (f m).sat (fun r m1 => ∃ k, r = .fz (.bl k) ∧ ∀ w', SR C.G w' m1 σ → Ex w w' → Q k w'.H) C.EM) : rdB C f σ w.H Q := ⟨w, m, rfl, P, h⟩
theorem st_ife {st : Stmt} {c : E} {a b : Ss} (h : PS X st (tIfS (rdB C (evE cal c)) (rdSt C (evSs cal L a)) (rdSt C (evSs cal L b)))) : PS X st (rdSt C (evS cal L (.ife c a b))) := PS.imp h fun D σ H ⟨w, m, eH, P, q⟩ => by
  rw [evS, FSat_ofR] at q
  subst eH
  refine rd_test P (Res.sat_mono q fun r m1 q1 => ?_)
  cases r with
  | ow o => exact q1.elim
  | bo k => exact q1.elim
  | fz t =>
    cases t <;> try (exact q1.elim)
    case bl k =>
      refine ⟨k, rfl, fun w1 S1 x1 => ?_⟩
      cases k with
      | true => exact ⟨w1, m1, rfl, P.step S1 x1, FSat.weak q1 x1⟩
      | false => exact ⟨w1, m1, rfl, P.step S1 x1, FSat.weak q1 x1⟩
theorem st_wh {st : Stmt} {c : E} {b : Ss} (h : PS X st (tWhile (rdB C (evE cal c)) (rdSt C (evSs cal L b)))) : PS X st (rdSt C (evS cal L (.wh c b))) := PS.imp h fun D σ H ⟨w, m, eH, P, q⟩ => by
  rw [evS] at q
  refine ⟨fun n σ H => ∃ w m, w.H = H ∧ Pre C w m σ ∧ FSat C w D (whGo (fun m => evE cal c m) (fun m => evSs cal L b m) n m), ⟨L, w, m, eH, P, q⟩, ?_⟩
  rintro n σ1 H1 ⟨w1, m1, rfl, P1, q1⟩
  cases n with
  | zero => exact q1.elim
  | succ n =>
    unfold whGo at q1
    refine rd_test P1 ?_
    cases h1 : evE cal c m1 with
    | no => rw [h1] at q1; exact q1.elim
    | ex x m2 => rw [h1] at q1; exact q1
    | ok r m2 =>
      rw [h1] at q1
      cases r with
      | ow o => exact q1.elim
      | bo k => exact q1.elim
      | fz t =>
        cases t <;> try (exact q1.elim)
        case bl k =>
          refine ⟨k, rfl, fun w2 S2 x2 => ?_⟩
          cases k with
          | false => exact q1 w2 σ1 (P1.step S2 x2) x2
          | true =>
            refine ⟨fun σ H => ∃ w m, w.H = H ∧ Pre C w m σ ∧ FSat C w D (whGo (fun m => evE cal c m) (fun m => evSs cal L b m) n m), fun σ' H' z => ⟨n, Nat.lt_succ_self n, z⟩, w2, m2, rfl, P1.step S2 x2, ?_⟩
            simp only at q1
            cases h2 : evSs cal L b m2 with
            | nx m3 => rw [h2] at q1; exact fun w3 σ3 P3 x3 => ⟨w3, m3, rfl, P3, FSat.weak q1 (x2.trans x3)⟩
            | ct m3 => rw [h2] at q1; exact fun w3 σ3 P3 x3 => ⟨w3, m3, rfl, P3, FSat.weak q1 (x2.trans x3)⟩
            | bk m3 => rw [h2] at q1; exact fun w3 σ3 P3 x3 => q1 w3 σ3 P3 (x2.trans x3)
            | rt r m3 => rw [h2] at q1; exact fun w3 σ3 v P3 x3 => q1 w3 σ3 v P3 (x2.trans x3)
            | ex x m3 => rw [h2] at q1; exact q1
            | no => rw [h2] at q1; exact q1.elim
theorem st_fr {st : Stmt} {p : Pt} {s : Src} {b : Ss} {g : TG} (hg : GP C.G p g) (nfx : ∀ j ∈ p.sl, C.fx j = false) (h : PS X st (tFor (rdS C (evSrc cal s)) g (rdSt C (evSs cal L b)))) : PS X st (rdSt C (evS cal L (.fr p s b))) := PS.imp h fun D σ H ⟨w, m, eH, P, q⟩ => by
  rw [evS] at q
  refine ⟨w, m, eH, P, ?_⟩
  cases h0 : evSrc cal s m with
  | no => rw [h0] at q; exact q.elim
  | ex x m1 => rw [h0] at q; exact q
  | ok xs m1 =>
    rw [h0] at q
    have q : FSat C w D (forGo p (fun m => evSs cal L b m) xs m1) := q
    intro w1 J S1 x1 it
    refine ⟨fun i n σ H => i + n = xs.length ∧ ∃ wc m, wc.H = H ∧ Pre C wc m σ ∧ Ex w1 wc ∧ FSat C w1 D (forGo p (fun m => evSs cal L b m) (xs.drop i) m), ⟨xs.length, by omega, w1, m1, rfl, P.step S1 x1, .refl w1, by rw [List.drop_zero]; exact FSat.weak q x1⟩, ?_⟩
    rintro i n σ2 H2 ⟨hin, wc, mc, rfl, Pc, xc, qc⟩
    cases hdr : xs.drop i with
    | nil =>
      have hi : i = xs.length := by
        have := congrArg List.length hdr
        rw [List.length_drop] at this
        simp at this
        omega
      subst hi
      rw [hdr] at qc
      exact .inl ⟨it.stop wc xc.mo, qc wc σ2 Pc xc⟩
    | cons x rest =>
      have hx : xs[i]? = some x := by
        have := congrArg (fun l => l[0]?) hdr
        simpa using this
      have hlt : i < xs.length := (List.getElem?_eq_some_iff.mp hx).1
      have hrest : xs.drop (i + 1) = rest := by
        have := congrArg List.tail hdr
        simpa using this
      rw [hdr] at qc
      unfold forGo at qc
      obtain ⟨hgo, hyl⟩ := it.go i x wc xc.mo hx
      refine .inr ⟨hgo, fun σ H => ∃ wc m, wc.H = H ∧ Pre C wc m σ ∧ Ex w1 wc ∧ FSat C w1 D (forGo p (fun m => evSs cal L b m) rest m), fun σ' H' z => ⟨n - 1, by omega, by omega, by rw [hrest]; exact z⟩, fun v H' y => ?_⟩
      obtain ⟨w2, e2, S2, x2, r2, _⟩ := hyl v H' mc σ2 Pc.sr y
      cases hb : bindP mc p x with
      | none => rw [hb] at qc; exact qc.elim
      | some m3 =>
        rw [hb] at qc
        simp only at qc
        rw [← e2]
        refine hg w2 mc m3 σ2 x v _ S2 r2 hb fun σ3 S3 f3 l3 => ?_
        have P3 : Pre C w2 m3 σ3 := ⟨S3, Pc.ex.trans x2, fun j hj => by rw [f3 j (fun z => by rw [nfx j z] at hj; cases hj), Pc.fix j hj]⟩
        refine ⟨w2, m3, rfl, P3, ?_⟩
        cases h2 : evSs cal L b m3 with
        | nx m4 => rw [h2] at qc; exact fun w4 σ4 P4 x4 => ⟨w4, m4, rfl, P4, xc.trans (x2.trans x4), qc⟩
        | ct m4 => rw [h2] at qc; exact fun w4 σ4 P4 x4 => ⟨w4, m4, rfl, P4, xc.trans (x2.trans x4), qc⟩
        | bk m4 => rw [h2] at qc; exact fun w4 σ4 P4 x4 => qc w4 σ4 P4 (xc.trans (x2.trans x4))
        | rt r m4 => rw [h2] at qc; exact fun w4 σ4 v P4 x4 => qc w4 σ4 v P4 (xc.trans (x2.trans x4))
        | ex x m4 => rw [h2] at qc; exact qc
        | no => rw [h2] at qc; exact qc.elim
theorem st_app {st : Stmt} {i : Nat} {e : E} (h : PS X st (tDrop (tBM C.G.K "list" rAppend (tVar i) (tCons (rdD C (opdF (evE cal e))) tNil)))) : PS X st (rdSt C (evS cal L (.app i e))) := PS.imp h fun D σ H ⟨w, m, eH, P, q⟩ => by
  rw [evS] at q
  cases h0 : m[i]? with
  | none => rw [h0] at q; exact q.elim
  | some s =>
    rw [h0] at q
    have sl := P.sr.sl i s h0
    cases s with
    | no => exact q.elim
    | fz t => exact q.elim
    | ow o =>
      cases o with
      | dic k => exact q.elim
      | ins c k => exact q.elim
      | lst xs0 =>
        simp only at q
        rw [FSat_ofR] at q
        obtain ⟨a, e1, ro, l⟩ := sl
        obtain ⟨vs0, hv0, _⟩ := ro.lst_inv
        refine ⟨_, e1, .inl ⟨rfl, vs0, .inl (.inl (by rw [← eH]; exact hv0))⟩, w, m, eH, P, ?_⟩
        rw [opdF, Res.sat_bind]
        refine Res.sat_mono q fun r m1 q1 w1 v S1 x1 r1 => ?_
        cases h1 : esc m1 r.opd with
        | none => rw [h1] at q1; exact q1.elim
        | some pr =>
          obtain ⟨t, m2⟩ := pr
          rw [h1] at q1
          obtain ⟨w2, e2, S2, x2, r2⟩ := S1.esc r1 h1
          simp only at q1
          cases h2 : m2[i]? with
          | none => rw [h2] at q1; exact q1.elim
          | some s2 =>
            rw [h2] at q1
            have sl2 := S2.sl i s2 h2
            cases s2 with
            | no => exact q1.elim
            | fz t => exact q1.elim
            | ow o2 =>
              cases o2 with
              | dic k => exact q1.elim
              | ins c k => exact q1.elim
              | lst xs =>
                obtain ⟨a2, e3, ro2, l2⟩ := sl2
                rw [e1] at e3
                cases e3
                obtain ⟨vs, hv, rs⟩ := ro2.lst_inv
                simp only at q1
                split at q1
                · rename_i hlt
                  have nf := S2.sep a l2
                  obtain ⟨S3, x3⟩ := S2.write (u := .lst (vs ++ [v])) (o' := .lst (xs ++ [t])) h2 e1 (.lst upd_same (RFs.mono (Mo.poke nf) (rs.append (.cons r2 .nil))))
                  refine ⟨a, vs, v, rfl, rfl, by rw [← e2]; exact hv, by rw [← rs.length]; exact hlt, ?_⟩
                  rw [← e2]
                  exact q1 (w2.wr a (.lst (vs ++ [v]))) σ (P.step S3 (x1.trans (x2.trans x3))) (x1.trans (x2.trans x3))
                · exact q1.elim
def rInsert : V → List V → Hp → VK → Prop := fun x vs H Q => ∃ (l : Addr) (xs : List V) (i : Int) (y : V), x = .ref l ∧ vs = [.int i, y] ∧ H l = some (.lst xs) ∧ xs.length < sizeLine ∧ 0 ≤ i ∧ i < 2 ^ 63 ∧
  Q .non (upd H l (.lst (xs.take i.toNat ++ [y] ++ xs.drop i.toNat)))
theorem st_insr {st : Stmt} {i : Nat} {k e : E} (h : PS X st (tDrop (tBM C.G.K "list" rInsert (tVar i) (tCons (rdD C (opdF (evE cal k))) (tCons (rdD C (opdF (evE cal e))) tNil))))) : PS X st (rdSt C (evS cal L (.insr i k e))) := PS.imp h fun D σ H ⟨w, m, eH, P, q⟩ => by
  rw [evS] at q
  cases h0 : m[i]? with
  | none => rw [h0] at q; exact q.elim
  | some s =>
    rw [h0] at q
    have sl := P.sr.sl i s h0
    cases s with
    | no => exact q.elim
    | fz t => exact q.elim
    | ow o =>
      cases o with
      | dic k => exact q.elim
      | ins c k => exact q.elim
      | lst xs0 =>
        simp only at q
        rw [FSat_ofR] at q
        obtain ⟨a, e1, ro, l⟩ := sl
        obtain ⟨vs0, hv0, _⟩ := ro.lst_inv
        refine ⟨_, e1, .inl ⟨rfl, vs0, .inl (.inl (by rw [← eH]; exact hv0))⟩, w, m, eH, P, ?_⟩
        rw [opdF, Res.sat_bind]
        refine Res.sat_mono q fun rk mk qk wk vk Sk xk rrk => ?_
        split at qk
        · rename_i j
          have rk0 : RF C.G wk (.int j) vk := rrk
          have ev : vk = .int j := by cases rk0; rfl
          subst ev
          rw [FSat_ofR] at qk
          refine ⟨wk, mk, rfl, P.step Sk xk, ?_⟩
          rw [opdF, Res.sat_bind]
          refine Res.sat_mono qk fun r m1 q1 w1 v S1 x1 r1 => ?_
          cases h1 : esc m1 r.opd with
          | none => rw [h1] at q1; exact q1.elim
          | some pr =>
            obtain ⟨t, m2⟩ := pr
            rw [h1] at q1
            obtain ⟨w2, e2, S2, x2, r2⟩ := S1.esc r1 h1
            simp only at q1
            cases h2 : m2[i]? with
            | none => rw [h2] at q1; exact q1.elim
            | some s2 =>
              rw [h2] at q1
              have sl2 := S2.sl i s2 h2
              cases s2 with
              | no => exact q1.elim
              | fz t => exact q1.elim
              | ow o2 =>
                cases o2 with
                | dic k => exact q1.elim
                | ins c k => exact q1.elim
                | lst xs =>
                  obtain ⟨a2, e3, ro2, l2⟩ := sl2
                  rw [e1] at e3
                  cases e3
                  obtain ⟨vs, hv, rs⟩ := ro2.lst_inv
                  simp only at q1
                  split at q1
                  · rename_i hlt
                    have nf := S2.sep a l2
                    obtain ⟨S3, x3⟩ := S2.write (u := .lst (vs.take j.toNat ++ [v] ++ vs.drop j.toNat)) (o' := .lst (xs.take j.toNat ++ [t] ++ xs.drop j.toNat)) h2 e1 (.lst upd_same (RFs.mono (Mo.poke nf) (((rs.take _).append (.cons r2 .nil)).append (rs.drop _))))
                    refine ⟨a, vs, j, v, rfl, rfl, by rw [← e2]; exact hv, by rw [← rs.length]; exact hlt.2.2, hlt.1, hlt.2.1, ?_⟩
                    rw [← e2]
                    exact q1 (w2.wr a (.lst (vs.take j.toNat ++ [v] ++ vs.drop j.toNat))) σ (P.step S3 (xk.trans (x1.trans (x2.trans x3)))) (xk.trans (x1.trans (x2.trans x3)))
                  · exact q1.elim
        · exact qk.elim
/-! name[key] = value -/
def rSetM : TSet := fun o i v H Q => rSetL o i v H Q ∨ rSetD o i v H Q
theorem RFk.any {G : Gm} {w : Wd} (k : Key) : ∀ {kvs : List (Key × T)} {ks : List (Key × V)}, RFk G w kvs ks → (kvs.any fun kv => decide (kv.1 = k)) = ks.any fun kv => decide (kv.1 = k)
  | _, _, .nil => rfl
  | _, _, .cons a b => by simp only [List.any_cons, RFk.any k b]
theorem RFk.app {G : Gm} {w : Wd} : ∀ {kvs kvs' : List (Key × T)} {ks ks' : List (Key × V)}, RFk G w kvs ks → RFk G w kvs' ks' → RFk G w (kvs ++ kvs') (ks ++ ks')
  | _, _, _, _, .nil, s => s
  | _, _, _, _, .cons a b, s => .cons a (RFk.app b s)
theorem RFk.map {G : Gm} {w : Wd} {k : Key} {t : T} {v : V} (q : RF G w t v) : ∀ {kvs : List (Key × T)} {ks : List (Key × V)}, RFk G w kvs ks → RFk G w (kvs.map fun kv => if decide (kv.1 = k) = true then (kv.1, t) else kv) (ks.map fun kv => if kv.1 = k then (kv.1, v) else kv)
  | _, _, .nil => .nil
  | _, _, .cons (k := k') a b => by
    simp only [List.map_cons]
    by_cases e : k' = k
    · simp only [e, decide_true, if_true]
      exact .cons q (RFk.map q b)
    · simp only [e, decide_false, if_false, Bool.false_eq_true]
      exact .cons a (RFk.map q b)
theorem RFk.put {G : Gm} {w : Wd} {kvs : List (Key × T)} {ks : List (Key × V)} {k : Key} {t : T} {v : V} (r : RFk G w kvs ks) (q : RF G w t v) : RFk G w (putT kvs k t) (putK ks k v) := by
  unfold putT putK
  rw [r.any k]
  split
  · exact r.map q
  · exact r.app (.cons q .nil)
theorem keyT_v {w : Wd} {t : T} {k : Key} {v : V} (h : keyT t = some k) (r : RA C.G w t v) : v = kV k := by
  cases t <;> try (cases h; done)
  case int i => cases h; exact r.int
  case str s => cases h; exact r.str
theorem st_sto {st : Stmt} {i : Nat} {k v : E} (h : PS X st (tAsg (rdE C (evE cal v)) (gSub (tVar i) (rdE C (evE cal k)) rSetM))) : PS X st (rdSt C (evS cal L (.sto i k v))) := PS.imp h fun D σ H ⟨w, m, eH, P, q⟩ => by
  rw [evS, FSat_ofR] at q
  apply rd_opd
  refine ⟨w, m, eH, P, ?_⟩
  rw [opdF, Res.sat_bind]
  refine Res.sat_mono q fun rv m1 q1 w1 vv S1 x1 r1 => ?_
  cases h0 : m1[i]? with
  | none => rw [h0] at q1; exact q1.elim
  | some s0 =>
    rw [h0] at q1
    have sl0 := S1.sl i s0 h0
    cases s0 with
    | no => exact q1.elim
    | fz t => exact q1.elim
    | ow o0 =>
      obtain ⟨a, ea, _, _⟩ := sl0
      simp only at q1
      rw [FSat_ofR] at q1
      refine ⟨_, ea, ?_⟩
      apply rd_opd
      refine ⟨w1, m1, rfl, P.step S1 x1, ?_⟩
      rw [opdF, Res.sat_bind]
      refine Res.sat_mono q1 fun rk m2 q2 w2 kv S2 x2 r2 => ?_
      cases h1 : esc m2 rv.opd with
      | none => rw [h1] at q2; exact q2.elim
      | some pr =>
        obtain ⟨t, m3⟩ := pr
        rw [h1] at q2
        simp only at q2
        obtain ⟨w3, e3, S3, x3, r3⟩ := S2.esc (r1.mono x2.mo) h1
        cases h2 : der m3 rk.opd with
        | none => rw [h2] at q2; exact q2.elim
        | some kt =>
          rw [h2] at q2
          have rk' := S3.der (r2.mono x3.mo) h2
          cases h3 : m3[i]? with
          | none => rw [h3] at q2; cases kt <;> exact q2.elim
          | some s3 =>
            rw [h3] at q2
            have sl3 := S3.sl i s3 h3
            cases s3 with
            | no => cases kt <;> exact q2.elim
            | fz t => cases kt <;> exact q2.elim
            | ow o3 =>
              obtain ⟨a3, e4, ro, l3⟩ := sl3
              rw [ea] at e4
              cases e4
              have nf := S3.sep a l3
              cases o3 with
              | ins c fs => cases kt <;> exact q2.elim
              | lst xs =>
                cases kt <;> try (exact q2.elim)
                case int j =>
                  obtain ⟨vs, hv, rs⟩ := ro.lst_inv
                  simp only at q2
                  cases h4 : ixN xs.length j with
                  | none => rw [h4] at q2; exact q2.elim
                  | some n =>
                    rw [h4] at q2
                    obtain ⟨S5, x5⟩ := S3.write (u := .lst (vs.set n vv)) (o' := .lst (xs.set n t)) h3 ea (.lst upd_same (RFs.mono (Mo.poke nf) (RFs.set r3 n rs)))
                    refine .inl ⟨a, vs, j, n, rfl, rk'.int, by rw [← e3]; exact hv, by rw [← rs.length]; exact h4, ?_⟩
                    rw [← e3]
                    exact q2 (w3.wr a (.lst (vs.set n vv))) σ (P.step S5 (x1.trans (x2.trans (x3.trans x5)))) (x1.trans (x2.trans (x3.trans x5)))
              | dic kvs =>
                obtain ⟨ks, hv, rs⟩ := ro.dic_inv
                have q2 : FSat C w D (match keyT kt with
                  | some k => if kvs.length < sizeLine then .nx (m3.set i (.ow (.dic (putT kvs k t)))) else .no
                  | none => .no) := by cases kt <;> exact q2
                cases h4 : keyT kt with
                | none => rw [h4] at q2; exact q2.elim
                | some ky =>
                  rw [h4] at q2
                  simp only at q2
                  split at q2
                  · rename_i hlt
                    obtain ⟨S5, x5⟩ := S3.write (u := .dK (putK ks ky vv)) (o' := .dic (putT kvs ky t)) h3 ea (.dic upd_same (RFk.mono (Mo.poke nf) (rs.put r3)))
                    refine .inr ⟨a, upd w2.H a (.dK (putK ks ky vv)), rfl, .inl ⟨ks, ky, by rw [← e3]; exact hv, keyT_v h4 rk', by rw [← rs.length]; exact hlt, rfl⟩, ?_⟩
                    rw [← e3]
                    exact q2 (w3.wr a (.dK (putK ks ky vv))) σ (P.step S5 (x1.trans (x2.trans (x3.trans x5)))) (x1.trans (x2.trans (x3.trans x5)))
                  · exact q2.elim
end
end Mi
set_option maxHeartbeats 1000000
namespace Mi
open PySem PySem.Spec PyProof.Rows L2

section
variable {X : Cx}
theorem or_add : OpR X (binaryOp .Add) rAddM := OpR.or (OpR.or op_add op_add_str) op_cat
theorem or_muls : OpR X (binaryOp .Mult) rMulS := fun pins s σ H x y v u Q I rx ry h => by
  obtain ⟨z, n, rfl, rfl, h0, h1, hz, q⟩ := h
  obtain ⟨t, rfl⟩ := rx
  obtain ⟨t', rfl⟩ := ry
  refine PySem.SB.mul ⟨?_, fun h2 _ => ?_, fun h2 _ => ?_⟩ fun t2 k => ⟨.str (Txt.mul z n), H, I.tok k, ⟨t2, rfl⟩, q⟩
  · simp only [Bool.or_eq_false_iff, decide_eq_false_iff_not]
    omega
  · intro h3
    have h4 : (2 ^ 63 - 1 : Int) / 1000 ≤ (2 ^ 63 - 1) / n := by
      have : (0 : Int) < n := by omega
      apply Int.le_ediv_of_mul_le this
      calc (2 ^ 63 - 1 : Int) / 1000 * n ≤ (2 ^ 63 - 1 : Int) / 1000 * 1000 := Int.mul_le_mul_of_nonneg_left h1 (by decide)
        _ ≤ 2 ^ 63 - 1 := by decide
    have h5 : (z.length : Int) ≤ 1000 := by exact_mod_cast hz
    have : (1000 : Int) < (2 ^ 63 - 1 : Int) / 1000 := by decide
    omega
  · have : z.length * n.toNat ≤ 1000 * 1000 := Nat.mul_le_mul hz (by omega)
    have l : (1000 * 1000 : Nat) ≤ sizeLine := by decide
    show decide (_ > sizeLine) = false
    exact decide_eq_false (by omega)
theorem or_mul : OpR X (binaryOp .Mult) rMulM := OpR.or op_mulW or_muls
theorem or_eq (hu : X.A.units + 64 < cLine) : OpR X (compareOp .Eq) (rEqM X.K) := OpR.or (OpR.or op_eq (op_eqD hu)) (op_eqDic (by omega))
theorem or_ne (hu : X.A.units + 64 < cLine) : OpR X (compareOp .NotEq) (rNeM X.K) := OpR.or (OpR.or op_ne (op_neD hu)) (op_neDic (by omega))
theorem OpR.imp {f : Value → Value → Sem Value} {r r' : R2} (h : OpR X f r) (i : ∀ x y H Q, r' x y H Q → r x y H Q) : OpR X f r' := fun pins s σ H x y v u Q I rx ry q => h pins s σ H x y v u Q I rx ry (i _ _ _ _ q)
theorem CallR.imp {f : Value} {r r' : List V → Hp → VK → Prop} (h : CallR X f r) (i : ∀ x H Q, r' x H Q → r x H Q) : CallR X f r' := fun pins s σ H x u Q I rx q => h pins s σ H x u Q I rx (i _ _ _ q)
theorem op_inK (hu : X.A.units + 64 < cLine) : OpR X (compareOp .In) (rInK false) := fun pins s σ H x y v u Q I rx ry h => by
  obtain ⟨a, kvs, k, rfl, rfl, e, q⟩ := h
  cases ry
  exact d_in (by omega) I (.inl ⟨kvs, k, e, rfl, rfl⟩) rx fun s' I' => ⟨.bl _, H, I', rfl, q⟩
theorem op_notInK (hu : X.A.units + 64 < cLine) : OpR X (compareOp .NotIn) (rInK true) := fun pins s σ H x y v u Q I rx ry h => by
  obtain ⟨a, kvs, k, rfl, rfl, e, q⟩ := h
  cases ry
  exact d_notIn (by omega) I (.inl ⟨kvs, k, e, rfl, rfl⟩) rx fun s' I' => ⟨.bl _, H, I', rfl, q⟩
theorem or_in (hu : X.A.units + 64 < cLine) : OpR X (compareOp .In) (rInM X.K false) := OpR.or (OpR.or op_in_sign op_in_seq) (op_inK hu)
theorem or_notin (hu : X.A.units + 64 < cLine) : OpR X (compareOp .NotIn) (rInM X.K true) := OpR.or (OpR.or op_notIn_sign op_notIn_seq) (op_notInK hu)
theorem cr_listM (hc : X.calm = true) : CallR X (.type "list") (rListM X.K) := CallR.or call_list_of (call_listD hc)
theorem cr_lenM : CallR X (.builtin "len") (rLenM X.K) := CallR.or call_len fun pins s σ H xs us Q I r h => by
  obtain ⟨a, kvs, rfl, ha, q⟩ := h
  obtain ⟨u, rfl, ru⟩ := vals1 r
  cases ru
  exact d_len I ha fun t s' I' => ⟨.int kvs.length, H, I', ⟨t, rfl⟩, q⟩
theorem cr_strM : CallR X (.type "str") rStrM := CallR.or call_str_int SkE.call_str_str
theorem cr_intM : CallR X (.type "int") rIntM := CallR.or call_int1 call_int_str
theorem sl_M : L2.SlR X (rSlM X.K) := L2.SlR.or sl_list sl_str
end

/-! ### isinstance -/
def tyX : T → Option String
  | .ins _ _ => none
  | t => some (tyT t)
section
variable {G : Gm}
theorem RA.ty {w : Wd} {t : T} {v : V} (r : RA G w t v) (h : ∀ c fs, t ≠ .ins c fs) : TyX G.K w.H v (.type (tyT t)) := by
  cases t with
  | ins c fs => exact absurd rfl (h c fs)
  | non => cases r.non; exact .base .non
  | bl b => cases r.bl; exact .base (.bl b)
  | int i => cases r.int; exact .base (.int i)
  | str s => cases r.str; exact .base (.str s)
  | lst xs => obtain ⟨a, vs, rfl, h1, _⟩ := r.lst; exact .base (.lst h1)
  | tup xs =>
    obtain ⟨a, vs, rfl, h1, _⟩ := r.tup
    rcases h1 with (h1 | ⟨o, h1⟩) | ⟨o, its, n, h1, h2, h3⟩
    · exact .base (.tup h1)
    · exact .fTuple h1
    · exact .kTuple h1 h2
  | dic kvs =>
    obtain ⟨a, ks, rfl, h1, _⟩ := r.dic
    rcases h1 with h1 | ⟨o, h1⟩
    · exact .base (.dK h1)
    · exact .fDict h1
  | scr ns =>
    obtain ⟨a, rfl, h1⟩ := r.scr
    rcases h1 with (h1 | ⟨o, h1⟩) | ⟨o, its, n, h1, h2, h3⟩
    · exact .base (.lst h1)
    · exact .base (.frz h1)
    · exact .kList h1 h2
theorem kit_has {t : T} {l : Ty} (h : ∀ c fs, t ≠ .ins c fs) : kitB (tyT t) l.nm = some (Ty.has t l) := by
  cases t with
  | ins c fs => exact absurd rfl (h c fs)
  | non => cases l <;> (show kitB "NoneType" _ = some false; decide +kernel)
  | bl b => cases l <;> first | (show kitB "bool" _ = some false; decide +kernel) | (show kitB "bool" _ = some true; decide +kernel)
  | int i => cases l <;> first | (show kitB "int" _ = some false; decide +kernel) | (show kitB "int" _ = some true; decide +kernel)
  | str s => cases l <;> first | (show kitB "str" _ = some false; decide +kernel) | (show kitB "str" _ = some true; decide +kernel)
  | lst xs => cases l <;> first | (show kitB "list" _ = some false; decide +kernel) | (show kitB "list" _ = some true; decide +kernel)
  | tup xs => cases l <;> first | (show kitB "tuple" _ = some false; decide +kernel) | (show kitB "tuple" _ = some true; decide +kernel)
  | dic xs => cases l <;> first | (show kitB "dict" _ = some false; decide +kernel) | (show kitB "dict" _ = some true; decide +kernel)
  | scr xs => cases l <;> first | (show kitB "list" _ = some false; decide +kernel) | (show kitB "list" _ = some true; decide +kernel)
theorem kit_any {K : PySem.W.Frag} {t : T} (h : ∀ c fs, t ≠ .ins c fs) : ∀ l : List Ty, PySem.W.kitAny K (.type (tyT t)) (l.map fun y => .type y.nm) = some (l.any (Ty.has t))
  | [] => rfl
  | y :: l => by
    refine kitAny_cons (kit_ty (kit_has (l := y) h)) (fun e => ?_) (fun e => ?_)
    · rw [kit_any h l, List.any_cons, e]; rfl
    · rw [List.any_cons, e]; rfl
theorem okIsi1 {l : Ty} : OpOk1 G (.isi1 l) (fun x H Q => rIsi G.K [x, .ty l.nm] H Q) := fun w m σ t1 v1 res Q S a h k => by
  have h : isi1F l t1 = some res := h
  have nt : ∀ c fs, t1 ≠ .ins c fs := fun c fs e => by subst e; cases h
  have h' : fB (Ty.has t1 l) = some res := by cases t1 <;> first | exact h | exact absurd rfl (nt _ _)
  cases h'
  exact ⟨v1, .ty l.nm, _, _, _, rfl, .ty _, a.ty nt, kit_ty (kit_has nt), k.fz S (.bl _)⟩
def rIsiL (K : PySem.W.Frag) (l : List Ty) : V → Hp → VK → Prop := fun x H Q => (l.map fun y => V.ty y.nm).length ≤ sizeLine ∧ ∀ p, H p = none → rIsiT K [x, .ref p] (upd H p (.tup (l.map fun y => V.ty y.nm))) Q
theorem paired_ty : ∀ l : List Ty, Paired ClsV (l.map fun y => V.ty y.nm) (l.map fun y => .type y.nm)
  | [] => .nil
  | y :: l => .cons (.ty _) (paired_ty l)
theorem okIsi {l : List Ty} (hl : l.length ≤ 30) : OpOk1 G (.isi l) (rIsiL G.K l) := fun w m σ t1 v1 res Q S a h k => by
  have h : isiF l t1 = some res := h
  have nt : ∀ c fs, t1 ≠ .ins c fs := fun c fs e => by subst e; cases h
  have h' : fB (l.any (Ty.has t1)) = some res := by cases t1 <;> first | exact h | exact absurd rfl (nt _ _)
  cases h'
  have l30 : 30 ≤ sizeLine := by decide
  refine ⟨by rw [List.length_map]; omega, fun p hp => ?_⟩
  have a' : RA G (w.new p (.tup (l.map fun y => V.ty y.nm))) t1 v1 := by
    rcases a.cases' with a | ⟨o, q, rfl, rfl, ro⟩
    · exact .fz (RF.mono (Mo.new S.trk hp) a)
    · refine .ow (ro.mono (Mo.new S.trk hp) ?_)
      obtain ⟨u, hu⟩ := ro.trk
      exact (upd_trk hp hu).trans hu.symm
  have e := k (w.new p (.tup (l.map fun y => V.ty y.nm))) (.bl (l.any (Ty.has t1))) (S.new hp) (Ex.new S.trk hp) (.bl _)
  exact ⟨v1, p, _, _, _, _, rfl, upd_same, paired_ty l, a'.ty nt, kit_any nt l, e⟩
end
end Mi
set_option maxHeartbeats 1000000
namespace Mi
open PySem PySem.Spec PyProof.Rows L2

structure XC (C : Ct) (X : Cx) (k : Nat) : Prop where
  K : C.G.K = X.K
  nd : X.N.Nodup
  calm : X.calm = true
  room : Room (2 * k + 1) X.A
  tk : Takes X (WM C)
section
variable {C : Ct} {X : Cx} {k : Nat} {cal : Nat → List Slot → CRes} {L : Nat}
theorem XC.hu (c : XC C X k) : X.A.units + 64 < cLine := by have := c.room.un; omega
theorem XC.blk (c : XC C X k) {s : Shared} {H : Hp} {scope : Scope} {env : Env} {fp : List Addr} : XC C.inn (X.blk s H scope env fp) k :=
  ⟨c.K, c.nd, c.calm, c.room, fun u s' ⟨a, B, sI, pins, σ, H, cls, d, e, I, nb, up, sky, na, os, ag, w⟩ => by
    obtain ⟨_, _, _, _, _, _, z⟩ := w
    exact z.elim⟩
/-! ### constants, names -/
variable {pos p1 p2 p3 : Pos} {j : Option Str}
theorem x_int {i : Int} {j} : PE X (.Constant (.int i) j pos) (rdE C (evE cal (.c (.int i)))) := n_cst pe_int fun _ => .int i
theorem x_str {i : Str} {j} : PE X (.Constant (.str i) j pos) (rdE C (evE cal (.c (.str i)))) := n_cst pe_str fun _ => .str i
theorem x_bl {i : Bool} {j} : PE X (.Constant (.bool i) j pos) (rdE C (evE cal (.c (.bl i)))) := n_cst pe_bl fun _ => .bl i
theorem x_non {j} : PE X (.Constant .none j pos) (rdE C (evE cal (.c .non))) := n_cst pe_non fun _ => .non
theorem x_var {i : Nat} {x : Str} (hN : X.N[i]? = some x := by rfl) (hv : Vis X.env.scope x := by first | exact Or.inl rfl | exact Or.inr (Or.inl rfl) | exact Or.inr (Or.inr rfl)) (hd : (x == ("__debug__" : Str)) = false := by decide)
    (hcd : (x == ("__classdict__" : Str)) = false := by decide) : PE X (.Name x pos) (rdE C (evE cal (.var i))) := n_var (pv i hN hv hd hcd)
/-- a name of the text's top that is never stored again -/
def GlobAt (X : Cx) (G : Gm) (x : Str) (t : T) : Prop := ∃ u v, X.mg x = some u ∧ RelV v u ∧ ∀ w, RF G w t v
theorem x_glob {x : Str} {t : T} (h : GlobAt X C.G x t) (hg : Gl X x := by rfl) (hdb : (x == ("__debug__" : Str)) = false := by decide) : PE X (.Name x pos) (rdE C (evE cal (.c t))) := by
  obtain ⟨u, v, h1, h2, h3⟩ := h
  exact n_cst (pe_glob hg h1 h2 hdb) h3
/-! ### displays -/
theorem evDs_nil : evDs cal .nil = fun m => .ok [] m := by funext m; rw [evDs]
theorem evDs_cons {e : E} {r : Es} : evDs cal (.cons e r) = consD (evE cal e) (evDs cal r) := by funext m; rw [evDs]; rfl
theorem a_nil : PA X [] (rdDs C (evDs cal .nil)) := by rw [evDs_nil]; exact pa_nilM
theorem a_cons {e : Expr} {es : List Expr} {a : E} {r : Es} (h : PE X e (rdE C (evE cal a))) (hr : PA X es (rdDs C (evDs cal r))) (hs : starEach (e :: es) X.env = (false, eval e X.env) :: starEach es X.env := by rfl) :
    PA X (e :: es) (rdDs C (evDs cal (.cons a r))) := by rw [evDs_cons]; exact pa_consM h hr hs
theorem x_lst {exs : List Expr} {es : Es} (h : PA X exs (rdDs C (evDs cal es))) : PE X (.List exs pos) (rdE C (evE cal (.lst es))) := n_lst (fun _ => pe_lst) h
theorem x_tup {exs : List Expr} {es : Es} {n} (h : PA X exs (rdDs C (evDs cal es))) : PE X (.Tuple exs n pos) (rdE C (evE cal (.tup es))) := n_tup (fun _ => pe_tup) h
/-! ### operators -/
def BP (C : Ct) (X : Cx) (op : Operator) (f : Op) : Prop := ∃ r, OpR X (binaryOp op) r ∧ OpOk2 C.G f r
theorem b_add : BP C X .Add .add := ⟨_, or_add, okAdd⟩
theorem b_sub : BP C X .Sub .sub := ⟨_, op_sub, okSub⟩
theorem b_mul : BP C X .Mult .mul := ⟨_, or_mul, okMul⟩
theorem b_fdiv : BP C X .FloorDiv .fdiv := ⟨_, op_fdivW, okFdiv⟩
theorem b_mod : BP C X .Mod .mod := ⟨_, op_mod, okMod⟩
theorem b_pow : BP C X .Pow .pow := ⟨_, op_pow, okPow⟩
theorem x_bin {op : Operator} {f : Op} {a b : Expr} {ea eb : E} (h : BP C X op f) (ha : PE X a (rdE C (evE cal ea))) (hb : PE X b (rdE C (evE cal eb))) : PE X (.BinOp a op b pos) (rdE C (evE cal (.op f (.cons ea (.cons eb .nil))))) := by
  obtain ⟨r, h1, h2⟩ := h
  exact n_op2 (fun _ _ => pe_op h1) h2 ha hb
theorem x_neg {a : Expr} {ea : E} (ha : PE X a (rdE C (evE cal ea))) : PE X (.UnaryOp .USub a pos) (rdE C (evE cal (.op .neg (.cons ea .nil)))) := n_op1 (fun _ => pe_un un_neg) okNeg ha
def CP (C : Ct) (X : Cx) (op : CmpOp) (f : Op) : Prop := ∃ r, OpR X (compareOp op) r ∧ OpOk2 C.G f r
theorem c_eq (c : XC C X k) : CP C X .Eq .eq := ⟨_, by rw [c.K]; exact or_eq c.hu, okEq⟩
theorem c_ne (c : XC C X k) : CP C X .NotEq .ne := ⟨_, by rw [c.K]; exact or_ne c.hu, okNe⟩
theorem c_lt (c : XC C X k) : CP C X .Lt .lt := ⟨_, op_lt, okCmp fun _ _ => rfl⟩
theorem c_le (c : XC C X k) : CP C X .LtE .le := ⟨_, op_le, okCmp fun _ _ => rfl⟩
theorem c_gt (c : XC C X k) : CP C X .Gt .gt := ⟨_, op_gt, okCmp fun _ _ => rfl⟩
theorem c_ge (c : XC C X k) : CP C X .GtE .ge := ⟨_, op_ge, okCmp fun _ _ => rfl⟩
theorem c_in (c : XC C X k) : CP C X .In .isin := ⟨_, by rw [c.K]; exact or_in c.hu, okIn⟩
theorem c_notin (c : XC C X k) : CP C X .NotIn .notin := ⟨_, by rw [c.K]; exact or_notin c.hu, okNotin⟩
theorem c_is (c : XC C X k) : CP C X .Is .isn := ⟨_, op_isN, okIsn⟩
theorem c_isnot (c : XC C X k) : CP C X .IsNot .notn := ⟨_, op_notN, okNotn⟩
theorem x_cmp {op : CmpOp} {f : Op} {a b : Expr} {ea eb : E} (h : CP C X op f) (ha : PE X a (rdE C (evE cal ea))) (hb : PE X b (rdE C (evE cal eb))) (hm : behindInMarks op b = false := by first | exact nomark _ | rfl) :
    PE X (.Compare a [op] [b] pos) (rdE C (evE cal (.op f (.cons ea (.cons eb .nil))))) := by
  obtain ⟨r, h1, h2⟩ := h
  exact n_op2 (fun _ _ a b => pe_cmpR h1 a b hm) h2 ha hb
theorem y_cmp {op : CmpOp} {f : Op} {a b : Expr} {ea eb : E} (h : CP C X op f) (ha : PE X a (rdE C (evE cal ea))) (hb : PE X b (rdE C (evE cal eb))) (hm : behindInMarks op b = false := by first | exact nomark _ | rfl) :
    PT X (.Compare a [op] [b] pos) (rdB C (evE cal (.op f (.cons ea (.cons eb .nil))))) := by
  obtain ⟨r, h1, h2⟩ := h
  exact t_op2 (fun _ _ a b => pt_cmpR h1 a b hm) h2 ha hb
theorem x_chain {op op' : CmpOp} {f f' : Op} {a b d : Expr} {ea eb ed : E} (h : CP C X op f) (h' : CP C X op' f') (ha : PE X a (rdE C (evE cal ea))) (hb : PE X b (rdE C (evE cal eb))) (hd : PE X d (rdE C (evE cal ed)))
    (hm : lastMarks [op, op'] [b, d] = false := by with_unfolding_all rfl) : PE X (.Compare a [op, op'] [b, d] pos) (rdE C (evE cal (.ch f f' ea eb ed))) := by
  obtain ⟨r, h1, h2⟩ := h
  obtain ⟨r', h1', h2'⟩ := h'
  exact n_chain (fun _ _ _ a b d => pe_chain h1 h1' a b d hm) h2 h2' ha hb hd
theorem y_chain {op op' : CmpOp} {f f' : Op} {a b d : Expr} {ea eb ed : E} (h : CP C X op f) (h' : CP C X op' f') (ha : PE X a (rdE C (evE cal ea))) (hb : PE X b (rdE C (evE cal eb))) (hd : PE X d (rdE C (evE cal ed)))
    (hm : lastMarks [op, op'] [b, d] = false := by with_unfolding_all rfl) : PT X (.Compare a [op, op'] [b, d] pos) (rdB C (evE cal (.ch f f' ea eb ed))) := by
  obtain ⟨r, h1, h2⟩ := h
  obtain ⟨r', h1', h2'⟩ := h'
  exact t_chain (fun _ _ _ a b d => pt_chain h1 h1' a b d hm) h2 h2' ha hb hd
/-! ### and, or, not, if -/
theorem x_one {op} {a : Expr} {ea : E} (h : PE X a (rdE C (evE cal ea))) : PE X (.BoolOp op [a] pos) (rdE C (evE cal ea)) := pe_one h
theorem x_and {a b : Expr} {rest : List Expr} {ea eb : E} (ha : PE X a (rdE C (evE cal ea))) (hb : PE X (.BoolOp .And (b :: rest) pos) (rdE C (evE cal eb))) : PE X (.BoolOp .And (a :: b :: rest) pos) (rdE C (evE cal (.an ea eb))) := n_and (fun _ _ => pe_and) ha hb
theorem x_or {a b : Expr} {rest : List Expr} {ea eb : E} (ha : PE X a (rdE C (evE cal ea))) (hb : PE X (.BoolOp .Or (b :: rest) pos) (rdE C (evE cal eb))) : PE X (.BoolOp .Or (a :: b :: rest) pos) (rdE C (evE cal (.or ea eb))) := n_or (fun _ _ => pe_or) ha hb
theorem x_not {a : Expr} {ea : E} (ha : PE X a (rdE C (evE cal ea))) : PE X (.UnaryOp .Not a pos) (rdE C (evE cal (.nt ea))) := n_not (fun _ => pe_not) ha
theorem x_ite {c a b : Expr} {ec ea eb : E} (hc : PT X c (rdB C (evE cal ec))) (ha : PE X a (rdE C (evE cal ea))) (hb : PE X b (rdE C (evE cal eb))) : PE X (.IfExp c a b pos) (rdE C (evE cal (.ite ec ea eb))) := n_ite (fun _ _ _ => pe_ifExp) hc ha hb
theorem PW.imp' {e : Expr} {t t' : TT} (h : PW X e t) (i : ∀ σ H Q, t' σ H Q → t σ H Q) : PW X e t' := PW.imp h i
theorem y_val {e : Expr} {ea : E} (h : PE X e (rdE C (evE cal ea))) (he : ∀ whole, isTrue e X.env whole = (do let v ← whole; standAt e.pos; holding [v] (truthy v)) := by intro _; rfl) : PT X e (rdB C (evE cal ea)) := t_val (fun _ h => pt_val h he) h
theorem y_not {a : Expr} {ea : E} (h : PT X a (rdB C (evE cal ea))) : PT X (.UnaryOp .Not a pos) (rdB C (evE cal (.nt ea))) := t_not (fun _ => pt_not) h
theorem z_and1 {a : Expr} {ea : E} (h : PT X a (rdB C (evE cal ea))) : PW X (.BoolOp .And [a] pos) (rdB C (evE cal ea)) := pw_and1 h
theorem z_or1 {a : Expr} {ea : E} (h : PT X a (rdB C (evE cal ea))) : PW X (.BoolOp .Or [a] pos) (rdB C (evE cal ea)) := pw_or1 h
theorem rd_and {a b : E} {σ : St} {H : Hp} {Q : Bool → Hp → Prop} (h : rdB C (evE cal (.an a b)) σ H Q) : tAnd (rdB C (evE cal a)) (rdB C (evE cal b)) σ H Q := by
  obtain ⟨w, m, e, P, q⟩ := h
  rw [evE, Res.sat_bind] at q
  refine ⟨w, m, e, P, Res.sat_mono q fun r m1 q1 => ?_⟩
  split at q1
  · refine ⟨true, rfl, fun w1 S1 x1 => ?_⟩
    refine iteT ?_
    exact ⟨w1, m1, rfl, P.step S1 x1, Res.sat_mono q1 fun r m2 ⟨k, e, q2⟩ => ⟨k, e, fun w2 S2 x2 => q2 w2 S2 (x1.trans x2)⟩⟩
  · refine ⟨false, rfl, fun w1 S1 x1 => ?_⟩
    refine iteF ?_
    obtain ⟨k, e, q2⟩ := q1
    cases e
    exact q2 w1 S1 x1
  · exact q1.elim
theorem rd_or {a b : E} {σ : St} {H : Hp} {Q : Bool → Hp → Prop} (h : rdB C (evE cal (.or a b)) σ H Q) : tOr (rdB C (evE cal a)) (rdB C (evE cal b)) σ H Q := by
  obtain ⟨w, m, e, P, q⟩ := h
  rw [evE, Res.sat_bind] at q
  refine ⟨w, m, e, P, Res.sat_mono q fun r m1 q1 => ?_⟩
  split at q1
  · refine ⟨true, rfl, fun w1 S1 x1 => ?_⟩
    refine iteT ?_
    obtain ⟨k, e, q2⟩ := q1
    cases e
    exact q2 w1 S1 x1
  · refine ⟨false, rfl, fun w1 S1 x1 => ?_⟩
    refine iteF ?_
    exact ⟨w1, m1, rfl, P.step S1 x1, Res.sat_mono q1 fun r m2 ⟨k, e, q2⟩ => ⟨k, e, fun w2 S2 x2 => q2 w2 S2 (x1.trans x2)⟩⟩
  · exact q1.elim
theorem z_and {a b : Expr} {rest : List Expr} {ea eb : E} (ha : PT X a (rdB C (evE cal ea))) (hb : PW X (.BoolOp .And (b :: rest) pos) (rdB C (evE cal eb))) : PW X (.BoolOp .And (a :: b :: rest) pos) (rdB C (evE cal (.an ea eb))) := PW.imp (pw_and ha hb) fun _ _ _ => rd_and
theorem z_or {a b : Expr} {rest : List Expr} {ea eb : E} (ha : PT X a (rdB C (evE cal ea))) (hb : PW X (.BoolOp .Or (b :: rest) pos) (rdB C (evE cal eb))) : PW X (.BoolOp .Or (a :: b :: rest) pos) (rdB C (evE cal (.or ea eb))) := PW.imp (pw_or ha hb) fun _ _ _ => rd_or
/-! ### subscripts -/
theorem x_idx (c : XC C X k) {a b : Expr} {ea eb : E} (ha : PE X a (rdE C (evE cal ea))) (hb : PE X b (rdE C (evE cal eb))) (hs : PlainIx b := by intro _ _; rfl) : PE X (.Subscript a b pos) (rdE C (evE cal (.op .idx (.cons ea (.cons eb .nil))))) :=
  n_op2 (r := rIxM C.G.K) (fun _ _ a b => pe_ix (by rw [c.K]; exact ix_any (by have := c.hu; omega)) a b hs) okIdx ha hb
theorem intO_some {t : T} {i : Int} (h : intO t = some i) : t = .int i := by
  cases t <;> first | (cases h; rfl) | cases h
theorem sl_MK (c : XC C X k) : L2.SlR X (rSlM C.G.K) := by rw [c.K]; exact sl_M
theorem x_sl0 (c : XC C X k) {a : Expr} {ea : E} (ha : PE X a (rdE C (evE cal ea))) : PE X (.Subscript a (.Slice none none none p1) pos) (rdE C (evE cal (.op (.sl false false) (.cons ea .nil)))) :=
  n_op1 (r := fun x H Q => rSlM C.G.K x none none H Q) (fun ta a => PE.imp (pe_slice (sl_MK c) a po_none po_none) fun σ H Q q => q) (fun w m σ t1 v1 res Q S a h q => okSl S a h q) ha
theorem x_slHi (c : XC C X k) {a b : Expr} {ea eb : E} (ha : PE X a (rdE C (evE cal ea))) (hb : PE X b (rdE C (evE cal eb))) : PE X (.Subscript a (.Slice none (some b) none p1) pos) (rdE C (evE cal (.op (.sl false true) (.cons ea (.cons eb .nil))))) :=
  n_op2 (r := fun x y H Q => ∃ i, y = .int i ∧ rSlM C.G.K x none (some i) H Q) (fun ta tb a b => PE.imp (pe_slice (sl_MK c) a po_none (po_some b)) fun σ H Q q => q) (fun w m σ t1 t2 v1 v2 res Q S a b h q => by
    have h : (intO t2).bind (fun i => slF t1 none (some i)) = some res := h
    cases e : intO t2 with
    | none => rw [e] at h; cases h
    | some i =>
      rw [e] at h
      cases intO_some e
      exact ⟨i, b.int, okSl S a h q⟩) ha hb
theorem x_slLo (c : XC C X k) {a b : Expr} {ea eb : E} (ha : PE X a (rdE C (evE cal ea))) (hb : PE X b (rdE C (evE cal eb))) : PE X (.Subscript a (.Slice (some b) none none p1) pos) (rdE C (evE cal (.op (.sl true false) (.cons ea (.cons eb .nil))))) :=
  n_op2 (r := fun x y H Q => ∃ i, y = .int i ∧ rSlM C.G.K x (some i) none H Q) (fun ta tb a b => PE.imp (pe_slice (sl_MK c) a (po_some b) po_none) fun σ H Q q => q) (fun w m σ t1 t2 v1 v2 res Q S a b h q => by
    have h : (intO t2).bind (fun i => slF t1 (some i) none) = some res := h
    cases e : intO t2 with
    | none => rw [e] at h; cases h
    | some i =>
      rw [e] at h
      cases intO_some e
      exact ⟨i, b.int, okSl S a h q⟩) ha hb
theorem x_slBoth (c : XC C X k) {a b d : Expr} {ea eb ed : E} (ha : PE X a (rdE C (evE cal ea))) (hb : PE X b (rdE C (evE cal eb))) (hd : PE X d (rdE C (evE cal ed))) : PE X (.Subscript a (.Slice (some b) (some d) none p1) pos) (rdE C (evE cal (.slc ea eb ed))) :=
  PE.imp (pe_slice (sl_MK c) (pe_opd ha) (po_some (pe_opd hb)) (po_some (pe_opd hd))) fun σ H Q ⟨w, m, e, P, q⟩ => by
  rw [evE, Res.sat_bind] at q
  refine ⟨w, m, e, P, ?_⟩
  rw [opdF, Res.sat_bind]
  refine Res.sat_mono q fun ra m1 q1 w1 v1 S1 x1 r1 => ?_
  rw [Res.sat_bind] at q1
  refine ⟨w1, m1, rfl, P.step S1 x1, ?_⟩
  rw [opdF, Res.sat_bind]
  refine Res.sat_mono q1 fun rb m2 q2 w2 v2 S2 x2 r2 => ?_
  split at q2
  · rename_i i hi
    rw [Res.sat_bind] at q2
    refine ⟨i, (S2.der r2 hi).int, w2, m2, rfl, (P.step S1 x1).step S2 x2, ?_⟩
    rw [opdF, Res.sat_bind]
    refine Res.sat_mono q2 fun rc m3 q3 w3 v3 S3 x3 r3 => ?_
    split at q3
    · rename_i j t hj ht
      split at q3
      · rename_i r hr
        exact ⟨j, (S3.der r3 hj).int, okSl S3 (S3.der ((r1.mono x2.mo).mono x3.mo) ht) hr fun w' v S' x' r' => q3 w' v S' (x1.trans (x2.trans (x3.trans x'))) r'⟩
      · exact q3.elim
    · exact q3.elim
  · exact q2.elim
end
end Mi
set_option maxHeartbeats 1000000
/-! a def with a dict of the left keywords: its binding -/
namespace PySem
open Sem (wp)
section
variable {A : Around} {E : Value → Shared → Prop} {s : Shared} {M : Model}
theorem kw_loop {α β : Type} {body : α → β → Sem (ForInStep β)} {f : β → α → β} {Q : β → Shared → Prop} : ∀ (l : List α) (b : β), (∀ x ∈ l, ∀ b, body x b = pure (.yield (f b x))) → Q (l.foldl f b) s → wpAny M A (forIn l b body) Q E s
  | [], b, _, q => by rw [List.forIn_nil]; exact wpAny_pure q
  | x :: l, b, h, q => by
    rw [List.forIn_cons, h x List.mem_cons_self]
    exact wpAny_bind (wpAny_pure (kw_loop l _ (fun y hy => h y (List.mem_cons_of_mem _ hy)) q))
theorem kw_loop0 {α β : Type} {body : α → β → Sem (ForInStep β)} {b : β} {Q : β → Shared → Prop} : ∀ (l : List α), (∀ x ∈ l, body x b = pure (.yield b)) → Q b s → wpAny M A (forIn l b body) Q E s
  | [], _, q => by rw [List.forIn_nil]; exact wpAny_pure q
  | x :: l, h, q => by
    rw [List.forIn_cons, h x List.mem_cons_self]
    exact wpAny_bind (wpAny_pure (kw_loop0 l (fun y hy => h y (List.mem_cons_of_mem _ hy)) q))
theorem kw_look {α : Type} : ∀ {N : List Str} {us : List α}, us.length = N.length → ∀ n ∈ N, ((N.zip us).lookup n).isNone = false
  | n0 :: N, u :: us, hl, n, hn => by
    rw [List.zip_cons_cons, List.lookup_cons]
    by_cases e : n = n0
    · subst e; rw [beq_self_eq_true]; rfl
    · rw [beq_eq_false_iff_ne.mpr e]
      exact kw_look (by simpa using hl) n ((List.mem_cons.mp hn).resolve_left e)
  | [], _, _, n, hn => by cases hn
  | _ :: _, [], hl, _, _ => by cases hl
theorem kw_fm {α : Type} : ∀ {N : List Str} {us : List α}, us.length = N.length → N.Nodup → (N.filterMap fun n => ((N.zip us).lookup n).map fun x => (n, x)) = N.zip us := by
  have key : ∀ (N : List Str) (us : List α) (Z : List (Str × α)), us.length = N.length → N.Nodup → (∀ n ∈ N, Z.lookup n = (N.zip us).lookup n) → (N.filterMap fun n => (Z.lookup n).map fun x => (n, x)) = N.zip us := by
    intro N
    induction N with
    | nil => intro us Z hl _ _; cases us <;> rfl
    | cons n N ih =>
      intro us Z hl hN hZ
      cases us with
      | nil => cases hl
      | cons u us =>
        obtain ⟨h1, h2⟩ := List.nodup_cons.mp hN
        have e := hZ n List.mem_cons_self
        rw [List.zip_cons_cons, List.lookup_cons, beq_self_eq_true] at e
        rw [List.filterMap_cons, e]
        show (n, u) :: _ = _
        rw [List.zip_cons_cons, ih us Z (by simpa using hl) h2 fun m hm => by
          rw [hZ m (List.mem_cons_of_mem _ hm), List.zip_cons_cons, List.lookup_cons, show (m == n) = false from beq_eq_false_iff_ne.mpr fun q => by subst q; exact h1 hm]]
  exact fun {N us} hl hN => key N us _ hl hN fun _ _ => rfl
theorem kw_fold {α β γ : Type} (z : γ) : ∀ (l acc : List (α × β)), l.foldl (fun (b : γ × List (α × β)) x => (b.1, b.2 ++ [(x.1, x.2)])) (z, acc) = (z, acc ++ l)
  | [], acc => by rw [List.append_nil]; rfl
  | x :: l, acc => by rw [List.foldl_cons, kw_fold z l, List.append_assoc]; rfl
theorem kw_bind {fd : FuncData} {us : List Value} {kw : List (Str × Value)} {N : List Str} {a : Arg} {its : Option (Array Value)} {Q : List (Str × Value) → Shared → Prop} (hpo : fd.params.posonlyargs = []) (hn : fd.params.args.map (·.arg) = N) (hko : fd.params.kwonlyargs = []) (hva : fd.params.vararg = none) (hkw : fd.params.kwarg = some a)
    (hN : N.Nodup) (hl : us.length = N.length) (hkk : ∀ p ∈ kw, N.contains p.1 = false) (hd : PySem.W.Looks M s.heap (seqItems? fd.defaults) its)
    (h : wpAny M A (do
      let d ← alloc { cls := .type "dict", data := .dict #[] }
      for (k, v) in kw do nsSet d k v
      return N.zip us ++ [(a.arg, Value.ref d)]) Q E s) (hz : kw.length ≤ sizeLine + 1) : wpAny M A (bindArgs fd ⟨us, kw⟩) Q E s := by
  unfold bindArgs
  simp only [hpo, hko, hva, hkw, hn, List.map_nil, List.nil_append, List.append_nil]
  refine wpAny_bind (kw_loop (f := fun b x => (b.1, b.2 ++ [(x.1, x.2)])) kw _ (fun x hx b => ?_) ?_)
  · rw [if_neg (by rw [hkk x hx]; exact Bool.false_ne_true), if_pos (show (some a).isSome = true from rfl)]
  rw [kw_fold, List.nil_append]
  refine wpAny_bind (hd.here ?_)
  rw [if_neg (by simp [hl])]
  have hfil : ∀ l : List Str, (∀ n ∈ l, n ∈ N) → l.filter (fun n => ((N.zip us).lookup n).isNone) = [] := fun l hh => List.filter_eq_nil_iff.mpr fun n hn => by rw [kw_look hl n (hh n hn)]; exact Bool.false_ne_true
  rw [hfil _ fun n hn => List.mem_of_mem_take hn]
  rw [if_neg (by exact Bool.false_ne_true)]
  refine wpAny_bind (kw_loop0 _ (fun x hx => ?_) ?_)
  · rw [if_neg (by rw [kw_look hl x.1 (List.mem_of_mem_drop (List.of_mem_zip hx).1)]; exact Bool.false_ne_true)]
  rw [List.forIn_nil]
  refine wpAny_bind (wpAny_pure ?_)
  rw [if_neg (by exact Bool.false_ne_true)]
  dsimp only
  rw [if_neg (by omega)]
  rw [kw_fm hl hN]
  exact h
open L2 in
theorem kw_nsSet {P : Program} {w : World} {d : Addr} {kvs : List (L2.Key × Value)} {name : Str} {v : Value} {Q : Unit → Shared → Prop} (hm : s.heap.DictOf (L2.mixKind P w) d kvs) (hs : ∀ k ∈ kvs, ∃ x, k.1 = Sum.inr x) (hf : (Sum.inr name : L2.Key) ∉ kvs.map (·.1))
    (hQ : ∀ h' t', h'.DictOf (L2.mixKind P w) d (kvs ++ [(Sum.inr name, v)]) → Heap.SameBut d s.heap h' → Q () { s with heap := h', toks := t' }) : wpAny (model P w) A (nsSet d name v) Q E s := fun Γ p _ => by
  obtain ⟨o, es, ep, ho, hc, hd, hk, hp, hn⟩ := hm
  simp only [nsSet, strHash, Sem.wp_bind', Sem.wp_cmd_ask, Sem.wp_pure', Sem.wp_cmd_mkText]
  rw [Sem.wp_loadPart_of (model P w) Γ _ p { s with toks := s.toks + 1 } (o := o) _ ho]
  have hstr : ∀ e ∈ es, ∃ n t, e.key = .str n t := by
    have key : ∀ (l : List DictEntry) (kvs : List (L2.Key × Value)), Pairs (L2.mixKind P w) l kvs → (∀ k ∈ kvs, ∃ x, k.1 = Sum.inr x) → ∀ e ∈ l, ∃ n t, e.key = .str n t := by
      intro l kvs hp
      induction hp with
      | nil => intro _ e he; cases he
      | @cons e kv es kvs h1 h2 _ ih =>
        intro hh e' he
        rcases List.mem_cons.mp he with rfl | he
        · obtain ⟨x, hx⟩ := hh kv List.mem_cons_self
          rcases L2.keyIs_shape h1 with ⟨i, t, a, b⟩ | ⟨z, t, a, b⟩
          · rw [hx] at a; cases a
          · exact ⟨_, _, b⟩
        · exact ih (fun k hk => hh k (List.mem_cons_of_mem _ hk)) e' he
    exact fun e he => key es.toList kvs hp hs e (by simpa using he)
  have hany : es.any (·.refKey) = false := by
    rw [Array.any_eq_false']; intro e he; obtain ⟨n, t, h⟩ := hstr e he; simp [DictEntry.refKey, h]
  simp only [hd, aRefKeyMayBeTheName_eq, aRefKeyMayBeTheNameByArray, hany, Bool.and_false, Bool.false_eq_true, if_false, Sem.wp_cmd_updatePart]
  have hnone : es.findIdx? (·.key.isStr name) = none := by
    have key : ∀ (l : List DictEntry) (kvs : List (L2.Key × Value)), Pairs (L2.mixKind P w) l kvs → ∀ e ∈ l, e.key.isStr name = true → (Sum.inr name : L2.Key) ∈ kvs.map (·.1) := by
      intro l kvs hp
      induction hp with
      | nil => intro e he; cases he
      | @cons e kv es kvs h1 h2 _ ih =>
        intro e' he hi
        rcases List.mem_cons.mp he with rfl | he
        · rcases L2.keyIs_shape h1 with ⟨i, t, a, b⟩ | ⟨z, t, a, b⟩
          · rw [b] at hi; cases hi
          · rw [b] at hi
            have e1 : z = name := by simpa [Value.isStr] using hi
            subst e1
            exact List.mem_map.mpr ⟨kv, List.mem_cons_self, a⟩
        · exact List.mem_map.mpr (by obtain ⟨q, h1, h2⟩ := List.mem_map.mp (ih e' he hi); exact ⟨q, List.mem_cons_of_mem _ h1, h2⟩)
    rw [Array.findIdx?_eq_none_iff]
    intro e he
    rw [Bool.eq_false_iff]
    exact fun z => hf (key es.toList kvs hp e (by simpa using he) z)
  refine ⟨by rw [ho]; rfl, hQ _ _ ?_ (Heap.SameBut.update ..)⟩
  obtain ⟨c, dd, dt, sl⟩ := o
  subst hd
  refine ⟨_, _, ep + 1, Heap.get?_update_self _ ho (by simp only [Obj.putName_eq, Obj.putNameByArray, hnone]; rfl), ?_, by simp only [Obj.putName_eq, Obj.putNameByArray, hnone]; rfl, hk.push (k := Sum.inr name) (L2.mixKind_str P w name _) _, ?_, ?_⟩
  · simp only [Obj.putName_eq, Obj.putNameByArray, hnone]
    exact hc
  · have := hp.append (k := Sum.inr name) (key := .str name s.toks) (L2.mixKind_str P w name _) ((L2.mixKind P w).hash (Sum.inr name)) v
    obtain ⟨l⟩ := es
    simpa using this
  · rw [List.map_append, List.nodup_append]
    refine ⟨hn, by simp, ?_⟩
    intro a ha b hb
    simp only [List.map_cons, List.map_nil, List.mem_singleton] at hb
    subst hb
    exact fun e => hf (e ▸ ha)
/-- the new dict of keywords -/
theorem kw_nsSets {P : Program} {w : World} {d : Addr} {Q : PUnit → Shared → Prop} : ∀ {s : Shared} (kw : List (Str × Value)) (acc : List (Str × Value)), ((acc ++ kw).map (·.1)).Nodup → s.heap.DictOf (L2.mixKind P w) d (acc.map fun p => (Sum.inr p.1, p.2)) →
    (∀ h' t', h'.DictOf (L2.mixKind P w) d ((acc ++ kw).map fun p => (Sum.inr p.1, p.2)) → Heap.SameBut d s.heap h' → Q ⟨⟩ { s with heap := h', toks := t' }) →
    wpAny (model P w) A (forIn kw PUnit.unit fun (x : Str × Value) (_ : PUnit) => (match x with
      | (k, v) => do
        nsSet d k v
        pure (ForInStep.yield PUnit.unit) : Sem (ForInStep PUnit))) Q E s
  | s, [], acc, hn, hd, hQ => by
    rw [List.forIn_nil]
    refine wpAny_pure ?_
    have := hQ s.heap s.toks (by rw [List.append_nil]; exact hd) (Heap.SameBut.refl _ _)
    exact this
  | s, (k, v) :: kw, acc, hn, hd, hQ => by
    rw [List.forIn_cons]
    refine wpAny_bind (wpAny_bind (kw_nsSet hd (fun p hp => ?_) ?_ fun h' t' hd' hs => ?_))
    · obtain ⟨q, _, rfl⟩ := List.mem_map.mp hp
      exact ⟨_, rfl⟩
    · intro hm
      rw [List.map_map] at hm
      obtain ⟨q, h1, h2⟩ := List.mem_map.mp hm
      rw [List.map_append, List.nodup_append] at hn
      exact hn.2.2 q.1 (List.mem_map.mpr ⟨q, h1, rfl⟩) k (by simp) (Sum.inr.inj h2)
    refine wpAny_pure ?_
    refine kw_nsSets kw (acc ++ [(k, v)]) (by rw [List.append_assoc]; exact hn) (by rw [List.map_append]; exact hd') fun h2 t2 d2 s2 => ?_
    rw [List.append_assoc] at d2
    exact hQ h2 t2 d2 (hs.trans s2)
end
end PySem

namespace L2
open PySem PySem.Spec PyProof.Rows
section
variable {P : Program} {w : World} {K : PySem.W.Frag} {mg : Str → Option Value} {base : Heap} {CX : CXT} {k : Nat} {f : Addr} {fd : FuncData} {ps N : List Str} {sp : Sp}
/-- a def whose binding may make objects -/
structure FnB (P : Program) (w : World) (K : PySem.W.Frag) (mg : Str → Option Value) (base : Heap) (CX : CXT) (k : Nat) (f : Addr) (fd : FuncData) (ps : List Str) (sp : Sp) : Prop where
  ok : FnOk P w K mg base CX k f fd ps sp
  runB : ∀ (A : Around) (outer : List Env) (s : Shared) (H : Hp) (args : Args) (Q : VK) (E : XK) (Gr : List V → Hp → Prop), Room k A → Env0 P w K mg base A outer s H → StX.Bnd CX P w K mg base fd args ps A outer s H E Gr →
    (∃ vs H2, sp vs H2 Q E) → (∀ vs H2, Gr vs H2 → sp vs H2 Q E) → codeAny (model P w) A (.call (.ref f) args) (CR CX outer P w H s Q E) s
theorem FnB.imp {sp' : Sp} (F : FnB P w K mg base CX k f fd ps sp) (h : ∀ vs H Q E, sp' vs H Q E → sp vs H Q E) : FnB P w K mg base CX k f fd ps sp' :=
  ⟨F.ok.imp h, fun A outer s H args Q E Gr hr e0 hb ⟨v0, h0, q0⟩ hg => F.runB A outer s H args Q E Gr hr e0 hb ⟨v0, h0, h _ _ _ _ q0⟩ fun vs H2 g => h _ _ _ _ (hg vs H2 g)⟩
theorem fnB_of {x qual : Str} {params : Arguments} {body : List Stmt} {scope : Scope} {dvs : List V} {kws : List (Str × V)} (F : FunD K x qual params body scope dvs kws f fd) (S : FnScope N ps scope) (len : ∀ vs H Q E, sp vs H Q E → vs.length = ps.length)
    (hbody : ∀ (cdv : Value) (A : Around) (outer : List Env) (s : Shared) (H : Hp) (vs : List V) (Q : VK) (E : XK), Room k (A.deeper (envOfC qual scope s.heap.objs.size f cdv)) → sp vs H Q E →
      ∃ t, PSs (cxOf CX P w K mg base N qual scope f cdv A outer s H E) body t ∧ t { nx := fun _ H' => Q .non H', rt := Q } (start N vs) H) : FnB P w K mg base CX (k + 1) f fd ps sp := by
  refine ⟨F.ok S len hbody, fun A outer s H args Q E Gr hr e0 hb _ hg => ?_⟩
  obtain ⟨oc, od, dV, kV, doc, pm, an, cdv, ct, osl, rfl, lk, hcd, _, _⟩ := F.ex
  exact StX.run_bnd lk hcd S hr e0 hb fun s2 H2 vs g hr' => hbody cdv A outer s2 H2 vs Q E hr' (hg vs H2 g)
/-- the parameters ahead N, behind them the dict a -/
structure KwD (K : PySem.W.Frag) (fd : FuncData) (N : List Str) (a : Arg) : Prop where
  po : fd.params.posonlyargs = []
  n : fd.params.args.map (·.arg) = N
  ko : fd.params.kwonlyargs = []
  va : fd.params.vararg = none
  kw : fd.params.kwarg = some a
  nd : N.Nodup
  dfl : ∃ its, ∀ (M : Model) (h : Heap), K.In h → PySem.W.Looks M h (seqItems? fd.defaults) its
theorem env0_of {A : Around} {outer : List Env} {s : Shared} {H : Hp} {d : Addr} {u : HO} {h' : Heap} {t' : Nat} (e0 : Env0 P w K mg base A outer s H) (kp : ∀ b x, s.heap.get? b = some x → h'.get? b = some x) (hz : s.heap.objs.size ≤ h'.objs.size) (hd : s.heap.objs.size ≤ d) (new : ObjOk P w (upd H d u) h' d u) :
    Env0 P w K mg base A outer { s with heap := h', toks := t' } (upd H d u) := by
  refine ⟨e0.frames, e0.mod, fun b x e => ⟨kp b x (e0.bs b x e).1, ?_⟩, Nat.le_trans e0.bsz hz, Heap.FunFrames.of_keeps (fun b x e _ => ⟨x, kp b x e, rfl⟩) e0.funs, fun b hb => ?_, e0.hok.laid kp hd new, e0.bare⟩
  · rw [upd_ne (Nat.ne_of_lt (Nat.lt_of_lt_of_le (Heap.lt_size (e0.bs b x e).1) hd))]
    exact (e0.bs b x e).2
  · obtain ⟨_, x, hx, _⟩ := e0.funs.mem hb
    rw [upd_ne (Nat.ne_of_lt (Nat.lt_of_lt_of_le (Heap.lt_size hx) hd))]
    exact e0.frf b hb
abbrev dkS (ks : List (Str × V)) : List (Key × V) := ks.map fun p => (Sum.inr p.1, p.2)
theorem kv_up : ∀ {ks : List (Str × V)} {kw : List (Str × Value)}, KV ks kw → KV (dkS ks) (kw.map fun p => ((Sum.inr p.1 : Key), p.2))
  | _, _, .nil => .nil
  | _, _, .cons ⟨a, b⟩ r => .cons ⟨congrArg Sum.inr a, b⟩ (kv_up r)
theorem kv_keys : ∀ {ks : List (Str × V)} {kw : List (Str × Value)}, KV ks kw → ks.map (·.1) = kw.map (·.1)
  | _, _, .nil => rfl
  | _, _, .cons ⟨a, _⟩ r => by rw [List.map_cons, List.map_cons, a, kv_keys r]
theorem kw_bnd {A : Around} {outer : List Env} {s : Shared} {H : Hp} {E : XK} {a : Arg} {vs : List V} {us : List Value} {ks : List (Str × V)} {kw : List (Str × Value)} (D : KwD K fd N a) (hU : StX.CXUp CX) (e0 : Env0 P w K mg base A outer s H) (r : Vals vs us) (l1 : vs.length = N.length)
    (rk : KV ks kw) (hnd : (ks.map (·.1)).Nodup) (hkk : ∀ p ∈ ks, N.contains p.1 = false) (hz : ks.length ≤ sizeLine) :
    StX.Bnd CX P w K mg base fd ⟨us, kw⟩ (N ++ [a.arg]) A outer s H E (fun xs H2 => ∃ d, H d = none ∧ xs = vs ++ [.ref d] ∧ H2 = upd H d (.dK (dkS ks))) := by
  intro A' Ex Q' hQ
  have hl : us.length = N.length := by rw [← r.length]; exact l1
  have hkl : kw.length = ks.length := (Paired.length rk).symm
  obtain ⟨its, hits⟩ := D.dfl
  have hkin : K.In s.heap := e0.mod.kin.keeps fun b x e => (e0.bs b x e).1
  have hfr : H s.heap.objs.size = none := e0.hok.fresh (Nat.le_refl _)
  have hbig : sysModules < s.heap.objs.size := StX.env0_big e0
  refine kw_bind (M := model P w) D.po D.n D.ko D.va D.kw D.nd hl (fun p hp => ?_) (hits _ _ hkin) (wpAny_bind (wpAny_alloc ?_)) (by omega)
  · have hm : p.1 ∈ ks.map (·.1) := by rw [kv_keys rk]; exact List.mem_map.mpr ⟨p, hp, rfl⟩
    obtain ⟨q, h1, h2⟩ := List.mem_map.mp hm
    rw [← h2]
    exact hkk q h1
  refine wpAny_bind (kw_nsSets (P := P) (w := w) kw [] (by rw [List.nil_append, ← kv_keys rk]; exact hnd) (Heap.DictOf.new s.heap) fun h' t' hd hs => ?_)
  refine wpAny_pure ?_
  have kp : ∀ b x, s.heap.get? b = some x → h'.get? b = some x := fun b x e => (hs.2 b (Nat.ne_of_lt (Heap.lt_size e))).trans (Heap.get?_push_of_some _ e)
  rw [List.nil_append] at hd
  have new : ObjOk P w (upd H s.heap.objs.size (.dK (dkS ks))) h' s.heap.objs.size (.dK (dkS ks)) := ⟨by rw [List.length_map]; exact hz, beq_eq_false_iff_ne.mpr (Ne.symm (Nat.ne_of_lt hbig)), _, kv_up rk, hd⟩
  have hsz : s.heap.objs.size ≤ h'.objs.size := by
    have := hs.1
    rw [Heap.size_push] at this
    omega
  have un : Un (frs outer) [] H (upd H s.heap.objs.size (.dK (dkS ks))) s.heap h' := Un.laid kp (Nat.le_refl _) hfr
  have z := hQ { s with heap := h', toks := t' } (upd H s.heap.objs.size (.dK (dkS ks))) (vs ++ [.ref s.heap.objs.size]) (us ++ [.ref s.heap.objs.size]) (env0_of e0 kp hsz (Nat.le_refl _) new) un rfl (fun e s' => hU outer s H _ _ E e s' un kp rfl) (r.append (.cons (show RelV (.ref s.heap.objs.size) (.ref s.heap.objs.size) from rfl) .nil)) (by rw [List.length_append, List.length_append, l1]; rfl) ⟨_, hfr, rfl, rfl⟩
  rw [List.zip_append hl.symm] at z
  exact z
end
section
variable {X : Cx} {CX : CXT} {k : Nat} {f C : Addr} {fd : FuncData} {N : List Str} {a : Arg} {sp : Sp} {E : XK}
theorem run_makeD {pins : List (Addr × Obj)} {σ : St} {H : Hp} {s : Shared} {Q : VK} {us : List Value} {vs : List V} {ks : List (Str × V)} {kw : List (Str × Value)} (M : Mk X.K C f) (F : FnB X.prog X.w X.K X.mg X.base CX k f fd (N ++ [a.arg]) sp) (hr : Room (k + 1) X.A) (D : KwD X.K fd N a)
    (hx : Passes CX X E) (hU : StX.CXUp CX) (I : Inv X pins σ H s) (r : Vals vs us) (l1 : vs.length + 1 = N.length) (rk : KV ks kw) (hnd : (ks.map (·.1)).Nodup) (hkk : ∀ p ∈ ks, N.contains p.1 = false) (hz : ks.length ≤ sizeLine)
    (h : ∀ x dx d, H x = none → H dx = none → H d = none → dx ≠ x → d ≠ x → d ≠ dx → sp (.ref x :: (vs ++ [.ref d])) (upd (upd (upd H dx (.own x)) x (.ins C dx [])) d (.dK (dkS ks))) (fun v H2 => v = .non ∧ Q (.ref x) H2) E) :
    wpAny (model X.prog X.w) X.A (call (.ref C) us kw) (EP X pins σ Q) X.xe s := by
  have hq := h (s.heap.objs.size + 1) s.heap.objs.size
  have I2 := Inv.made (C := C) I
  have r1 : Vals (V.ref (s.heap.objs.size + 1) :: vs) (Value.ref (s.heap.objs.size + 1) :: us) := .cons rfl r
  have h2 := hq (s.heap.objs.size + 2) (I.hok.fresh (Nat.le_succ _)) (I.hok.fresh (Nat.le_refl _)) (I.hok.fresh (Nat.le_add_right _ 2)) (Nat.ne_of_lt (Nat.lt_succ_self _)) (Nat.succ_ne_self _) (Nat.ne_of_gt (Nat.lt_add_of_pos_right (by decide)))
  refine wpAny_call (make_map (f := f) I.kIn M.makes M.init (beq_iff_eq.mp M.fn) (codeAny_mono (F.runB _ X.stack _ _ ⟨Value.ref (s.heap.objs.size + 1) :: us, kw⟩ (fun v H2 => v = .non ∧ Q (.ref (s.heap.objs.size + 1)) H2) E _ (hr.make C us kw)
    (I2.env0.make C us kw) (kw_bnd D hU (I2.env0.make C us kw) r1 (by simpa using l1) rk hnd hkk hz) ⟨_, _, h2⟩ fun xs H2 ⟨d, hd, ex, eH⟩ => ?_) fun r s' hq' => ?_))
  · subst ex eH
    have e1 : d ≠ s.heap.objs.size + 1 := fun e => by rw [e, upd_same] at hd; cases hd
    have e2 : d ≠ s.heap.objs.size := fun e => by rw [upd_ne e1, e, upd_same] at hd; cases hd
    rw [upd_ne e1, upd_ne e2] at hd
    exact hq d (I.hok.fresh (Nat.le_succ _)) (I.hok.fresh (Nat.le_refl _)) hd (Nat.ne_of_lt (Nat.lt_succ_self _)) e1 e2
  cases r with
  | error e => exact hx pins σ _ _ e s' I2 hq'
  | ok fl =>
    cases fl with
    | ret u =>
      obtain ⟨v, H', I3, rv, ev, q3⟩ := I2.after hq'
      subst ev
      exact ⟨rv, ⟨V.ref (s.heap.objs.size + 1), H', I3, rfl, q3⟩⟩
    | next => exact False.elim hq'
    | brk => exact False.elim hq'
    | cont => exact False.elim hq'
/-- C(e, .., **y), y a variable -/
def tMakeD (C : Addr) (N : List Str) (sp : Sp) (E : XK) (i : Nat) (t : TA) : TE := fun σ H Q => t σ H fun vs H1 => vs.length + 1 = N.length ∧ ∃ b ks, σ[i]? = some (some (.ref b)) ∧ Rd H1 b (.dK (dkS ks)) ∧ (∀ p ∈ ks, N.contains p.1 = false) ∧
  ∀ m x dx d, H1 m = none → H1 x = none → H1 dx = none → H1 d = none → x ≠ m → dx ≠ m → d ≠ m → dx ≠ x → d ≠ x → d ≠ dx →
    sp (.ref x :: (vs ++ [.ref d])) (upd (upd (upd (upd H1 m (.dK (dkS ks))) dx (.own x)) x (.ins C dx [])) d (.dK (dkS ks))) (fun v H2 => v = .non ∧ Q (.ref x) H2) E
theorem kv_down : ∀ {ks : List (Str × V)} {ws : List (Key × Value)}, KV (dkS ks) ws → ∃ kw : List (Str × Value), KV ks kw ∧ ws = kw.map fun p => ((Sum.inr p.1 : Key), p.2)
  | [], _, .nil => ⟨[], .nil, rfl⟩
  | (x, v) :: ks, _, .cons (b := b) ⟨a, c⟩ r => by
    obtain ⟨kw, h1, h2⟩ := kv_down r
    refine ⟨(x, b.2) :: kw, .cons ⟨rfl, c⟩ h1, ?_⟩
    rw [List.map_cons, ← h2]
    show b :: _ = _
    rw [show b = ((Sum.inr x : Key), b.2) from Prod.ext a.symm rfl]
theorem kw_pairs {P : Program} {w : World} : ∀ {es : List DictEntry} {kw : List (Str × Value)}, Pairs (mixKind P w) es (kw.map fun p => ((Sum.inr p.1 : Key), p.2)) → Paired (fun (e : DictEntry) (k : Str × Value) => (∃ t, e.key = .str k.1 t) ∧ e.val = k.2) es kw
  | [], [], .nil => .nil
  | e :: _, kv :: _, .cons h1 h2 r => .cons ⟨by
      have h1 : keyIs (Sum.inr kv.1) e.key = true := h1
      rcases keyIs_shape h1 with ⟨i, t, a, b⟩ | ⟨z, t, a, b⟩
      · cases a
      · cases a; exact ⟨t, b⟩, h2⟩ (kw_pairs r)
theorem pe_makeD {i : Nat} {x y : Str} {p py pos kp : Pos} {e : Expr} {es : List Expr} {t : TA} (M : Mk X.K C f) (F : FnB X.prog X.w X.K X.mg X.base CX k f fd (N ++ [a.arg]) sp) (hr : Room (k + 1) X.A) (hg : Gl X x) (hm : X.mg x = some (.ref C)) (D : KwD X.K fd N a)
    (hx : Passes CX X E) (hU : StX.CXUp CX) (ha : PA X (e :: es) t) (hy : PE X (.Name y py) (tVar i)) (hdb : (x == ("__debug__" : Str)) = false := by decide)
    (hkw : backToKw pos (keywordEach [⟨none, .Name y py, kp⟩] X.env) = [(none, (do let v ← eval (.Name y py) X.env; standAt pos; pure v : Sem Value))] := by rfl)
    (he : starEach (e :: es) X.env = (false, eval e X.env) :: starEach es X.env := by rfl) : PE X (.Call (.Name x p) (e :: es) [⟨none, .Name y py, kp⟩] pos) (tMakeD C N sp E i t) := by
  refine ⟨fun pins s σ H Q I h => ?_⟩
  refine wpAny_Call_Name_kw (ld_glob I hg hm ?_ hdb)
  refine kw_call (P := fun h => X.K.In h) (by rw [hkw]; rfl) (fun h X' => PySem.W.keeps_K M.kp h X') ?_
  rw [hkw]
  refine kw_args (t := eval e X.env) (rest := backTo pos (starEach es X.env)) (by rw [he]; rfl) (thn (ha.run pos pins s σ H _ I h) fun us s1 ⟨vs, H1, I1, r, l1, b, ks, hσ, hb, hN, q⟩ => ?_)
  have hfr := I1.hok.fresh (Nat.le_refl s1.heap.objs.size)
  have Im := I1.laid (a := s1.heap.objs.size) (o := .dK []) (h' := s1.heap.push { cls := .type "dict", data := .dict #[] }) (t' := s1.toks) (fun _ _ q => Heap.get?_push_of_some _ q) (Nat.le_refl _) (dk_empty s1.heap I1.big)
  have hbig := I1.big
  generalize hm0 : s1.heap.objs.size = m at hfr Im hbig
  have hne : b ≠ m := fun e0 => by
    subst e0
    rcases hb with hb | ⟨_, hb⟩ <;> (rw [hfr] at hb; cases hb)
  have hb' : Rd (upd H1 m (.dK [])) b (.dK (dkS ks)) := by
    rcases hb with hb | ⟨o, hb⟩
    · exact .inl (by rw [upd_ne hne]; exact hb)
    · exact .inr ⟨o, by rw [upd_ne hne]; exact hb⟩
  refine kw_merged (knd := mixKind X.prog X.w) (fun k v hv b ev => ?_) ?_
  · rcases keyIs_shape hv with ⟨i, t, a, c⟩ | ⟨z, t, a, c⟩ <;> (rw [c] at ev; cases ev)
  rw [hm0]
  refine wpAny_bind (thn (hy.run pins _ σ _ (fun v H2 => v = .ref b ∧ H2 = upd H1 m (.dK [])) Im ⟨_, hσ, rfl, rfl⟩) fun v s2 ⟨y2, H2, I2, ry, ey, eH⟩ => wpAny_bind (wpAny_standAt (wpAny_pure ?_)))
  subst ey eH
  obtain rfl : v = Value.ref b := ry
  obtain ⟨_, hmS, vs0, r0, d0⟩ := dk_of I2.hok (upd_same (H := H1) (a := m) (o := .dK []))
  cases r0
  obtain ⟨hz, hbS, ws, rel, dd⟩ := dk_rd I2.hok hb'
  obtain ⟨kw, rk, rfl⟩ := kv_down rel
  refine ⟨b, _, rfl, fun z => hne z.symm, hbS, d0, dd, by rw [← rel.length]; exact hz, fun h' dm hs => ?_⟩
  obtain ⟨o, es', ep, ho, hc, hd, hk, hp, hn⟩ := id dm
  have I3 := I2.write (x := m) (e := m) (o := .dK (dkS ks)) (t' := s2.toks) (by rw [upd_same]; trivial) (.inl rfl) (fun b' u hb' hu => (hs.2 b' hb').trans hu) ⟨_, ho⟩ (show ObjOk X.prog X.w _ _ _ (.dK (dkS ks)) from ⟨hz, hmS, _, rel, dm⟩)
  rw [upd_upd] at I3
  refine kw_in ho hd (kw_pairs hp) ⟨I3.kIn, ?_⟩
  have hnd : (ks.map (·.1)).Nodup := by
    rw [kv_keys rk]
    rw [List.map_map] at hn
    have e1 : ((fun x : Key × Value => x.1) ∘ fun p : Str × Value => ((Sum.inr p.1 : Key), p.2)) = (Sum.inr : Str → Key) ∘ (fun p : Str × Value => p.1) := rfl
    rw [e1, ← List.map_map] at hn
    exact List.Pairwise.imp (fun h e => h (congrArg _ e)) (List.pairwise_map.mp hn)
  have hl : ks.length ≤ sizeLine := by rw [List.length_map] at hz; exact hz
  refine run_makeD M F hr D hx hU I3 r l1 rk hnd hN hl fun x dx d h1 h2 h3 n1 n2 n3 => ?_
  have g : ∀ {z}, upd H1 m (.dK (dkS ks)) z = none → z ≠ m ∧ H1 z = none := fun {z} hz => by
    have e1 : z ≠ m := fun e0 => by rw [e0, upd_same] at hz; cases hz
    exact ⟨e1, by rw [upd_ne e1] at hz; exact hz⟩
  exact q m x dx d hfr (g h1).2 (g h2).2 (g h3).2 (g h1).1 (g h2).1 (g h3).1 n1 n2 n3
end
end L2
set_option maxHeartbeats 1000000
namespace Mi
open PySem PySem.Spec PyProof.Rows L2

/-- a built-in name, free of the text's own -/
def Fr (X : Cx) (x : Str) : Prop := X.mg x = none
section
variable {C : Ct} {X : Cx} {k : Nat} {cal : Nat → List Slot → CRes} {L : Nat} {pos p1 p2 p3 p4 : Pos}
/-! ### built-in calls of one value -/
theorem x_bi {x : Str} {id : String} {f : Op} {a : Expr} {ea : E} {r : List V → Hp → VK → Prop} (hc : CallR X (.builtin id) r) (hv : bootBuiltins x = some (.builtin id)) (ok : OpOk1 C.G f fun x H Q => r [x] H Q) (hm : Fr X x) (hg : Gl X x) (hn : x ≠ "__name__") (hdb : (x == ("__debug__" : Str)) = false)
    (hs : starEach [a] X.env = (false, eval a X.env) :: starEach [] X.env) (ha : PE X a (rdE C (evE cal ea))) : PE X (.Call (.Name x p1) [a] [] pos) (rdE C (evE cal (.op f (.cons ea .nil)))) :=
  n_op1 (fun ta h => PE.imp (pe_callB hc hg hm hv (pa_cons h pa_nil hs) hn hdb hs (by rfl)) fun _ _ _ q => q) ok ha
theorem x_ty {x : Str} {id : String} {f : Op} {a : Expr} {ea : E} {r : List V → Hp → VK → Prop} (hc : CallR X (.type id) r) (hv : bootBuiltins x = some (.type id)) (ok : OpOk1 C.G f fun x H Q => r [x] H Q) (hm : Fr X x) (hg : Gl X x) (hn : x ≠ "__name__") (hdb : (x == ("__debug__" : Str)) = false)
    (hs : starEach [a] X.env = (false, eval a X.env) :: starEach [] X.env) (ha : PE X a (rdE C (evE cal ea))) : PE X (.Call (.Name x p1) [a] [] pos) (rdE C (evE cal (.op f (.cons ea .nil)))) :=
  n_op1 (fun ta h => PE.imp (pe_callTy hc hg hm hv (pa_cons h pa_nil hs) hn hdb hs (by rfl)) fun _ _ _ q => q) ok ha
theorem x_len (c : XC C X k) {a : Expr} {ea : E} (hm : Fr X "len") (ha : PE X a (rdE C (evE cal ea))) (hg : Gl X "len" := by rfl) (hs : starEach [a] X.env = (false, eval a X.env) :: starEach [] X.env := by rfl) : PE X (.Call (.Name "len" p1) [a] [] pos) (rdE C (evE cal (.op .len (.cons ea .nil)))) :=
  x_bi (r := rLenM C.G.K) (by rw [c.K]; exact cr_lenM) boot_len okLen hm hg (by decide) (by decide) hs ha
theorem x_abs (c : XC C X k) {a : Expr} {ea : E} (hm : Fr X "abs") (ha : PE X a (rdE C (evE cal ea))) (hg : Gl X "abs" := by rfl) (hs : starEach [a] X.env = (false, eval a X.env) :: starEach [] X.env := by rfl) : PE X (.Call (.Name "abs" p1) [a] [] pos) (rdE C (evE cal (.op .abs (.cons ea .nil)))) :=
  x_bi call_abs (by rfl) okAbs hm hg (by decide) (by decide) hs ha
theorem x_bool1 (c : XC C X k) {a : Expr} {ea : E} (hm : Fr X "bool") (ha : PE X a (rdE C (evE cal ea))) (hg : Gl X "bool" := by rfl) (hs : starEach [a] X.env = (false, eval a X.env) :: starEach [] X.env := by rfl) : PE X (.Call (.Name "bool" p1) [a] [] pos) (rdE C (evE cal (.op .boo (.cons ea .nil)))) :=
  x_ty call_bool1 (by rfl) okBoo hm hg (by decide) (by decide) hs ha
theorem x_all (c : XC C X k) {a : Expr} {ea : E} (hm : Fr X "all") (ha : PE X a (rdE C (evE cal ea))) (hg : Gl X "all" := by rfl) (hs : starEach [a] X.env = (false, eval a X.env) :: starEach [] X.env := by rfl) : PE X (.Call (.Name "all" p1) [a] [] pos) (rdE C (evE cal (.op .all (.cons ea .nil)))) :=
  x_bi (r := rAll C.G.K) (by rw [c.K]; exact cr_all c.calm) (by rfl) okAll hm hg (by decide) (by decide) hs ha
theorem x_any (c : XC C X k) {a : Expr} {ea : E} (hm : Fr X "any") (ha : PE X a (rdE C (evE cal ea))) (hg : Gl X "any" := by rfl) (hs : starEach [a] X.env = (false, eval a X.env) :: starEach [] X.env := by rfl) : PE X (.Call (.Name "any" p1) [a] [] pos) (rdE C (evE cal (.op .any (.cons ea .nil)))) :=
  x_bi (r := rAny C.G.K) (by rw [c.K]; exact cr_any c.calm) (by rfl) okAny hm hg (by decide) (by decide) hs ha
theorem x_toInt (c : XC C X k) {a : Expr} {ea : E} (hm : Fr X "int") (ha : PE X a (rdE C (evE cal ea))) (hg : Gl X "int" := by rfl) (hs : starEach [a] X.env = (false, eval a X.env) :: starEach [] X.env := by rfl) : PE X (.Call (.Name "int" p1) [a] [] pos) (rdE C (evE cal (.op .int (.cons ea .nil)))) :=
  x_ty cr_intM (by rfl) okInt hm hg (by decide) (by decide) hs ha
theorem x_toStr (c : XC C X k) {a : Expr} {ea : E} (hm : Fr X "str") (ha : PE X a (rdE C (evE cal ea))) (hg : Gl X "str" := by rfl) (hs : starEach [a] X.env = (false, eval a X.env) :: starEach [] X.env := by rfl) : PE X (.Call (.Name "str" p1) [a] [] pos) (rdE C (evE cal (.op .str (.cons ea .nil)))) :=
  x_ty cr_strM (by rfl) okStr hm hg (by decide) (by decide) hs ha
theorem x_toList (c : XC C X k) {a : Expr} {ea : E} (hm : Fr X "list") (ha : PE X a (rdE C (evE cal ea))) (hg : Gl X "list" := by rfl) (hs : starEach [a] X.env = (false, eval a X.env) :: starEach [] X.env := by rfl) : PE X (.Call (.Name "list" p1) [a] [] pos) (rdE C (evE cal (.op .list (.cons ea .nil)))) :=
  x_ty (r := rListM C.G.K) (by rw [c.K]; exact cr_listM c.calm) (by rfl) okList hm hg (by decide) (by decide) hs ha
/-! ### isinstance -/
theorem x_cls {x : Str} (l : Ty) (hv : bootBuiltins x = some (.type l.nm)) (hm : Fr X x) (hg : Gl X x) (hn : x ≠ "__name__" := by decide) (hd : (x == ("__debug__" : Str)) = false := by decide) : PE X (.Name x p1) (tC (.ty l.nm)) := pe_bltn hg hm hv rfl hn hd
theorem x_isi1 (c : XC C X k) {a : Expr} {x : Str} {ea : E} (l : Ty) (hm : Fr X "isinstance") (hx : PE X (.Name x p2) (tC (.ty l.nm))) (ha : PE X a (rdE C (evE cal ea))) (hg : Gl X "isinstance" := by rfl)
    (hs : starEach [a, .Name x p2] X.env = (false, eval a X.env) :: starEach [.Name x p2] X.env := by rfl) : PE X (.Call (.Name "isinstance" p1) [a, .Name x p2] [] pos) (rdE C (evE cal (.op (.isi1 l) (.cons ea .nil)))) :=
  n_op1 (fun ta h => PE.imp (pe_callB (r := rIsi C.G.K) (by rw [c.K]; exact call_isi) hg hm PyProof.Rows.boot_isinstance (pa_cons h (pa_cons hx pa_nil) hs) (by decide) (by decide) hs (by rfl)) fun _ _ _ q => q) okIsi1 ha
theorem x_isi2 (c : XC C X k) {a : Expr} {x y : Str} {ea : E} {n} (l l' : Ty) (hm : Fr X "isinstance") (hx : PE X (.Name x p2) (tC (.ty l.nm))) (hy : PE X (.Name y p3) (tC (.ty l'.nm))) (ha : PE X a (rdE C (evE cal ea))) (hg : Gl X "isinstance" := by rfl)
    (hs : starEach [a, .Tuple [.Name x p2, .Name y p3] n p4] X.env = (false, eval a X.env) :: starEach [.Tuple [.Name x p2, .Name y p3] n p4] X.env := by rfl) : PE X (.Call (.Name "isinstance" p1) [a, .Tuple [.Name x p2, .Name y p3] n p4] [] pos) (rdE C (evE cal (.op (.isi [l, l']) (.cons ea .nil)))) :=
  n_op1 (r := rIsiL C.G.K [l, l']) (fun ta h => PE.imp (pe_callB (r := rIsiT C.G.K) (by rw [c.K]; exact call_isiT) hg hm PyProof.Rows.boot_isinstance (pa_cons h (pa_cons (pe_tup (pa_cons hx (pa_cons hy pa_nil))) pa_nil) hs) (by decide) (by decide) hs (by rfl)) fun _ _ _ q => q) (okIsi (by simp)) ha
theorem x_isi3 (c : XC C X k) {a : Expr} {x y z : Str} {ea : E} {n} {p5 : Pos} (l l' l'' : Ty) (hm : Fr X "isinstance") (hx : PE X (.Name x p2) (tC (.ty l.nm))) (hy : PE X (.Name y p3) (tC (.ty l'.nm))) (hz : PE X (.Name z p5) (tC (.ty l''.nm))) (ha : PE X a (rdE C (evE cal ea))) (hg : Gl X "isinstance" := by rfl)
    (hs : starEach [a, .Tuple [.Name x p2, .Name y p3, .Name z p5] n p4] X.env = (false, eval a X.env) :: starEach [.Tuple [.Name x p2, .Name y p3, .Name z p5] n p4] X.env := by rfl) : PE X (.Call (.Name "isinstance" p1) [a, .Tuple [.Name x p2, .Name y p3, .Name z p5] n p4] [] pos) (rdE C (evE cal (.op (.isi [l, l', l'']) (.cons ea .nil)))) :=
  n_op1 (r := rIsiL C.G.K [l, l', l'']) (fun ta h => PE.imp (pe_callB (r := rIsiT C.G.K) (by rw [c.K]; exact call_isiT) hg hm PyProof.Rows.boot_isinstance (pa_cons h (pa_cons (pe_tup (pa_cons hx (pa_cons hy (pa_cons hz pa_nil)))) pa_nil) hs) (by decide) (by decide) hs (by rfl)) fun _ _ _ q => q) (okIsi (by simp)) ha
/-! ### 'text'.join(list) -/
theorem x_join (c : XC C X k) {o e : Expr} {eo ee : E} (ho : PE X o (rdE C (evE cal eo))) (he : PE X e (rdE C (evE cal ee))) (hs : starEach [e] X.env = [(false, eval e X.env)] := by rfl) (hbase : attributeBase o "join" X.env (eval o X.env) = eval o X.env := by rfl) (hline : (p1.endLine == pos.line) = true := by rfl) :
    PE X (.Call (.Attribute o "join" p1) [e] [] pos) (rdE C (evE cal (.jn eo ee))) :=
  PE.imp (pe_join (pe_opd ho) (pe_opd he) hs hbase hline) fun σ H Q ⟨w, m, e, P, q⟩ => by
  rw [evE, Res.sat_bind] at q
  refine ⟨w, m, e, P, ?_⟩
  rw [opdF, Res.sat_bind]
  refine Res.sat_mono q fun ra m1 q1 w1 v1 S1 x1 r1 => ?_
  split at q1
  · rename_i z hz
    rw [Res.sat_bind] at q1
    refine ⟨⟨z, (S1.der r1 hz).str⟩, w1, m1, rfl, P.step S1 x1, ?_⟩
    rw [opdF, Res.sat_bind]
    refine Res.sat_mono q1 fun rb m2 q2 w2 v2 S2 x2 r2 => ?_
    split at q2
    · rename_i t ht
      split at q2
      · rename_i r hr
        cases (S1.der r1 hz).str
        have := okJoin w2 m2 σ (.str z) t (.str z) v2 r Q S2 (.fz (.str z)) (S2.der r2 ht) hr fun w' v S' x' r' => q2 w' v S' (x1.trans (x2.trans x')) r'
        rw [← c.K]
        exact this.2
      · exact q2.elim
    · exact q2.elim
  · exact q1.elim
/-! ### own functions -/
theorem XC.low (c : XC C X k) : Room (2 * k) X.A := c.room.mono (by omega)
structure FnAt (X : Cx) (k : Nat) (G : Gm) (cal : Nat → List Slot → CRes) (f : Nat) (x : Str) (ps : List Str) : Prop where
  ex : ∃ fa fd, X.mg x = some (.ref fa) ∧ PySem.W.keepIn X.K (.ref fa) = true ∧ Binds X.K fd ps [] ∧ FnOk X.prog X.w X.K X.mg X.base (L2.CX X.prog X.w) (2 * k) fa fd ps (spM G cal f)
theorem x_call (c : XC C X k) {f : Nat} {x : Str} {ps : List Str} {e : Expr} {es : List Expr} {io : List Bool} {as : Es} (F : FnAt X k C.G cal f x ps) (ha : PA X (e :: es) (rdDs C (evDs cal as))) (hg : Gl X x := by rfl) (hdb : (x == ("__debug__" : Str)) = false := by decide)
    (he : starEach (e :: es) X.env = (false, eval e X.env) :: starEach es X.env := by rfl) (hpl : (backTo pos (starEach es X.env)).any (·.1) = false := by rfl) : PE X (.Call (.Name x p1) (e :: es) [] pos) (rdE C (evE cal (.call f io as))) := by
  obtain ⟨fa, fd, h1, h2, h3, h4⟩ := F.ex
  exact n_call (fun t ht => PE.imp (pe_callS (E := WE (WM C)) h4 c.low hg h1 h2 h3 (fun σ => passAt c.tk σ) ht hdb he hpl) fun _ _ _ q => q) ha
theorem x_call0 (c : XC C X k) {f : Nat} {x : Str} (F : FnAt X k C.G cal f x []) (hg : Gl X x := by rfl) (hdb : (x == ("__debug__" : Str)) = false := by decide) : PE X (.Call (.Name x p1) [] [] pos) (rdE C (evE cal (.call f [] .nil))) := by
  obtain ⟨fa, fd, h1, h2, h3, h4⟩ := F.ex
  refine PE.imp (t := tCallM C cal f tNil) ⟨fun pins s σ H Q I h => ?_⟩ fun σ H Q ⟨w, m, e, P, q⟩ => ?_
  · refine wpAny_Call_Name_kw (ld_glob I hg h1 ?_ hdb)
    exact PySem.W.callWith_K0 I.kIn h2 (run_fnS (E := WE (WM C)) (us := []) h4 c.low h3 (passAt c.tk σ) I .nil h)
  · rw [evE, Res.sat_bind, evDs] at q
    subst e
    exact call_core P .nil q
/-- by keywords alone, in the parameters' order -/
structure FnAtK (X : Cx) (k : Nat) (G : Gm) (cal : Nat → List Slot → CRes) (f : Nat) (x : Str) (ps : List Str) : Prop where
  ex : ∃ fa fd, X.mg x = some (.ref fa) ∧ PySem.W.keepIn X.K (.ref fa) = true ∧ (∀ us : List Value, us.length = ps.length → bindArgs fd ⟨[], ps.zip us⟩ = pure (ps.zip us)) ∧ FnOk X.prog X.w X.K X.mg X.base (L2.CX X.prog X.w) (2 * k) fa fd ps (spM G cal f)
theorem PK.imp {es : List Keyword} {t t' : TA} (h : PK X es t) (i : ∀ σ H Q, t' σ H Q → t σ H Q) : PK X es t' := ⟨fun p pins s σ H Q I q => h.run p pins s σ H Q I (i σ H Q q)⟩
theorem k_nil : PK X [] (rdDs C (evDs cal .nil)) := by
  rw [evDs_nil]
  exact PK.imp pk_nil fun σ H Q ⟨w, m, e, P, q⟩ => by
    have := q w [] P.sr (.refl w) .nil
    rwa [e] at this
theorem k_cons {e : Expr} {nm : Option Str} {kws : List Keyword} {a : E} {r : Es} (h : PE X e (rdE C (evE cal a))) (hr : PK X kws (rdDs C (evDs cal r))) : PK X (⟨nm, e, p1⟩ :: kws) (rdDs C (evDs cal (.cons a r))) := by
  rw [evDs_cons]
  exact PK.imp (pk_cons (pe_opd h) hr) fun _ _ _ q => rd_cons q
theorem x_callK (c : XC C X k) {f : Nat} {x : Str} {ps : List Str} {kws : List Keyword} {io : List Bool} {as : Es} (F : FnAtK X k C.G cal f x ps) (hkw : PK X kws (rdDs C (evDs cal as))) (hg : Gl X x := by rfl) (hdb : (x == ("__debug__" : Str)) = false := by decide)
    (hall : (backToKw pos (keywordEach kws X.env)).all (·.1.isSome) = true := by rfl) (hks : (backToKw pos (keywordEach kws X.env)).filterMap (·.1) = ps := by rfl) (hpl : ((backTo pos (starEach [] X.env)).any (·.1) || (backToKw pos (keywordEach kws X.env)).any (·.1.isNone)) = false := by rfl) :
    PE X (.Call (.Name x p1) [] kws pos) (rdE C (evE cal (.call f io as))) := by
  obtain ⟨fa, fd, h1, h2, h3, h4⟩ := F.ex
  refine PE.imp (t := tCallM C cal f (rdDs C (evDs cal as))) ⟨fun pins s σ H Q I h => ?_⟩ fun σ H Q ⟨w, m, e, P, q⟩ => ?_
  · refine wpAny_Call_Name_kw (ld_glob I hg h1 ?_ hdb)
    refine PySem.W.callWith_KW0 (h₀ := X.base) I.ok.mod.kin h2 hall (thn (hkw.run pos pins s σ H _ I h) fun ws s2 ⟨zs, H2, I2, rz, q2⟩ => ⟨I2.kIn, ?_⟩) hpl
    rw [hks]
    have hl : ws.length = ps.length := by rw [← rz.length]; exact h4.len _ _ _ _ q2
    refine wpAny_call (codeAny_mono (h4.run X.A X.stack s2 H2 ⟨[], ps.zip ws⟩ ws zs Q (WE (WM C) σ) c.low I2.env0 (.of_eq (h3 ws hl)) rz q2) fun r s' hq => ?_)
    cases r with
    | error e => exact passAt c.tk σ pins H2 s2 e s' I2 hq
    | ok fl =>
      cases fl with
      | ret u => exact I2.after hq
      | next => exact False.elim hq
      | brk => exact False.elim hq
      | cont => exact False.elim hq
  · rw [evE, Res.sat_bind] at q
    refine ⟨w, m, e, P, Res.sat_mono q fun ds m1 q1 w1 vs S1 x1 r1 => ?_⟩
    exact call_core (P.step S1 x1) r1 (Res.sat_mono q1 fun r m2 k w' v S' x' rr => k w' v S' (x1.trans x') rr)
/-! ### loops' sources -/
theorem i_any (c : XC C X k) {tg e : Expr} {ea : E} (h : PE X e (rdE C (evE cal ea))) : PI X tg e (rdS C (evSrc cal (.it ea))) := s_it (fun t h => by rw [c.K]; exact Mi.PI.or (Mi.PI.or (Mi.PI.or (pi_list h) (pi_tup h)) (pi_str h)) (pi_keysL h)) h
theorem i_rng1 (c : XC C X k) {tg e : Expr} {ea : E} (hm : Fr X "range") (h : PE X e (rdE C (evE cal ea))) (hg : Gl X "range" := by rfl) (hs : starEach [e] X.env = [(false, eval e X.env)] := by rfl) : PI X tg (.Call (.Name "range" p1) [e] [] pos) (rdS C (evSrc cal (.rng1 ea))) :=
  s_rng1 (fun t h => pi_range1 hg hm (pa_cons h pa_nil hs) hs) h
theorem i_rng2 (c : XC C X k) {tg a b : Expr} {ea eb : E} (hm : Fr X "range") (h : PE X a (rdE C (evE cal ea))) (h' : PE X b (rdE C (evE cal eb))) (hg : Gl X "range" := by rfl) (hs : starEach [a, b] X.env = [(false, eval a X.env), (false, eval b X.env)] := by rfl) (hs2 : starEach [b] X.env = [(false, eval b X.env)] := by rfl) :
    PI X tg (.Call (.Name "range" p1) [a, b] [] pos) (rdS C (evSrc cal (.rng2 ea eb))) :=
  s_rng2 (fun t u h h' => pi_range2 hg hm (pa_cons h (pa_cons h' pa_nil hs2) (by rw [hs, hs2])) hs hs2) h h'
theorem i_enum (c : XC C X k) {e : Expr} {ea : E} {elts} {kk} (hm : Fr X "enumerate") (h : PE X e (rdE C (evE cal ea))) (hg : Gl X "enumerate" := by rfl) (hs : starEach [e] X.env = [(false, eval e X.env)] := by rfl) : PI X (.Tuple elts kk p2) (.Call (.Name "enumerate" p1) [e] [] pos) (rdS C (evSrc cal (.enum ea))) :=
  s_enum (fun t h => by rw [c.K]; exact pi_enumT hg hm (pa_cons h pa_nil hs) hs) h
theorem i_zip (c : XC C X k) {a b : Expr} {ea eb : E} {elts} {kk} (hm : Fr X "zip") (h : PE X a (rdE C (evE cal ea))) (h' : PE X b (rdE C (evE cal eb))) (hg : Gl X "zip" := by rfl) (hs : starEach [a, b] X.env = (false, eval a X.env) :: starEach [b] X.env := by rfl)
    (hs2 : starEach [b] X.env = [(false, eval b X.env)] := by rfl) (hpl : (backTo pos (starEach [b] X.env)).any (·.1) = false := by rfl) : PI X (.Tuple elts kk p2) (.Call (.Name "zip" p1) [a, b] [] pos) (rdS C (evSrc cal (.zip ea eb))) :=
  s_zip (fun t u h h' => by rw [c.K]; exact pi_zip hg hm (pa_cons h (pa_cons h' pa_nil hs2) hs) hs hpl) h h'
/-! ### comprehensions -/
theorem evAll_nil : evAll cal .nil = fun m => .ok (.fz (.bl true)) m := by funext m; rw [evAll]
theorem f_nil : PTs X [] (rdB C (evAll cal .nil)) := by
  rw [evAll_nil]
  exact ⟨fun pins s σ H Q I ⟨w, m, e, P, ⟨k, hk, q⟩⟩ => by
    cases hk
    have := q w P.sr (.refl w)
    rw [e] at this
    exact pts_nil.run pins s σ H Q I this⟩
theorem f_one {e : Expr} {a : E} (h : PT X e (rdB C (evE cal a))) : PTs X [e] (rdB C (evAll cal (.cons a .nil))) :=
  ⟨fun pins s σ H Q I ⟨w, m, e, P, q⟩ => by
    refine (pts_one h).run pins s σ H Q I ⟨w, m, e, P, ?_⟩
    rw [evAll, Res.sat_bind] at q
    refine Res.sat_mono q fun r m1 q1 => ?_
    split at q1
    · rw [evAll] at q1
      obtain ⟨k, hk, q1⟩ := q1
      exact ⟨true, rfl, by cases hk; exact q1⟩
    · obtain ⟨k, hk, q1⟩ := q1
      exact ⟨false, rfl, by cases hk; exact q1⟩
    · exact q1.elim⟩
theorem x_comp (c : XC C X k) {elt tg iter : Expr} {ifs : List Expr} {scope : Scope} {own : List (Str × Nat)} {ow : List Nat} {p : Pt} {s : Src} {cs : Es} {e : E} {g : TG} (gp : GP C.G p g) (ok : BlkOk X.N X.env.scope scope own) (hi : PI X tg iter (rdS C (evSrc cal s)))
    (hg : ∀ (s : Shared) (H : Hp) (D : Addr) (cl : List (Str × Addr)) (fp : List Addr), PG (X.blk s H scope (compEnvC scope cl D X.env) fp) tg g)
    (ht : ∀ (s : Shared) (H : Hp) (D : Addr) (cl : List (Str × Addr)) (fp : List Addr), XC C.inn (X.blk s H scope (compEnvC scope cl D X.env) fp) k → PTs (X.blk s H scope (compEnvC scope cl D X.env) fp) ifs (rdB C.inn (evAll cal cs)))
    (he : ∀ (s : Shared) (H : Hp) (D : Addr) (cl : List (Str × Addr)) (fp : List Addr), XC C.inn (X.blk s H scope (compEnvC scope cl D X.env) fp) k → PE (X.blk s H scope (compEnvC scope cl D X.env) fp) elt (rdE C.inn (evE cal e)))
    (how : own.map (·.2) = ow := by rfl) (hsub : ∀ j ∈ p.sl, j ∈ ow := by decide) (hs : ∀ x, foldedSetIterable iter X.env x = pure x := by intro _; rfl) :
    PE X (.ListComp elt [⟨tg, iter, ifs, 0⟩] scope pos) (rdE C (evE cal (.comp ow p s cs e))) := by
  subst how
  exact n_comp gp hsub (pe_lc c.calm c.nd hi ok hg (fun s H D cl fp => ht s H D cl fp c.blk) (fun s H D cl fp => he s H D cl fp c.blk) hs)
end
end Mi
set_option maxHeartbeats 1000000
namespace Mi
open PySem PySem.Spec PyProof.Rows L2

section
variable {C : Ct} {X : Cx} {k : Nat} {cal : Nat → List Slot → CRes} {L : Nat} {pos p1 p2 p3 p4 : Pos}
/-! ### statements -/
theorem w_set (c : XC C X k) {i : Nat} {x : Str} {e : Expr} {ea : E} (nfx : C.fx i = false) (he : PE X e (rdE C (evE cal ea))) (hi : X.N[i]? = some x := by rfl) (hx : Loc X.env.scope x := by first | exact Or.inl rfl | exact Or.inr rfl) (hs : swapsWith e (some (.Name x p1)) pos.line X.env = pure false := by rfl)
    (hf : X.fn x = true ∨ X.env.scope.names.lookup x = some .local := by first | exact .inl rfl | exact .inr rfl) : PS X (.Assign [.Name x p1] e pos) (rdSt C (evS cal L (.set i ea))) := st_set nfx (ps_set c.nd hi hx he hs hf)
theorem w_setc (c : XC C X k) {i : Nat} {x : Str} {elt tg iter : Expr} {ifs : List Expr} {scope : Scope} {own : List (Str × Nat)} {ow : List Nat} {p : Pt} {s : Src} {cs : Es} {e : E} {g : TG} (nfx : C.fx i = false) (gp : GP C.G p g) (ok : BlkOk X.N X.env.scope scope own) (hi : PI X tg iter (rdS C (evSrc cal s)))
    (hg : ∀ (s : Shared) (H : Hp) (D : Addr) (cl : List (Str × Addr)) (fp : List Addr), PG (X.blk s H scope (compEnvC scope cl D X.env) fp) tg g)
    (ht : ∀ (s : Shared) (H : Hp) (D : Addr) (cl : List (Str × Addr)) (fp : List Addr), XC C.inn (X.blk s H scope (compEnvC scope cl D X.env) fp) k → PTs (X.blk s H scope (compEnvC scope cl D X.env) fp) ifs (rdB C.inn (evAll cal cs)))
    (he : ∀ (s : Shared) (H : Hp) (D : Addr) (cl : List (Str × Addr)) (fp : List Addr), XC C.inn (X.blk s H scope (compEnvC scope cl D X.env) fp) k → PE (X.blk s H scope (compEnvC scope cl D X.env) fp) elt (rdE C.inn (evE cal e)))
    (hN : X.N[i]? = some x := by rfl) (hx : X.env.scope.names.lookup x = some .local := by rfl) (hsw : swapsWith (.ListComp elt [⟨tg, iter, ifs, 0⟩] scope p2) (some (.Name x p1)) pos.line X.env = pure true := by rfl)
    (how : own.map (·.2) = ow := by rfl) (hsub : ∀ j ∈ p.sl, j ∈ ow := by decide) (hs : ∀ x, foldedSetIterable iter X.env x = pure x := by intro _; rfl) :
    PS X (.Assign [.Name x p1] (.ListComp elt [⟨tg, iter, ifs, 0⟩] scope p2) pos) (rdSt C (evS cal L (.set i (.comp ow p s cs e)))) := by
  subst how
  exact st_set nfx (PS.imp (ps_setLc c.calm c.nd hN hx hsw hi ok hg (fun s H D cl fp => ht s H D cl fp c.blk) (fun s H D cl fp => he s H D cl fp c.blk) hs) fun D σ H q => rd_comp gp hsub q)
theorem w_unp (c : XC C X k) {tg e : Expr} {p : Pt} {ea : E} {g : TG} (gp : GP C.G p g) (nfx : ∀ j ∈ p.sl, C.fx j = false) (hg : PG X tg g) (he : PE X e (rdE C (evE cal ea))) (hs : swapsWithSole [tg] e pos.line X.env = pure false := by rfl) (hw : swappedStores [tg] e X.env = pure none := by rfl)
    (h1 : (assignEach [tg] X.env).map (·.2) = [assign tg X.env] := by rfl) : PS X (.Assign [tg] e pos) (rdSt C (evS cal L (.unp p ea))) := st_unp gp nfx (ps_asg he hg hs hw h1)
theorem w_par (c : XC C X k) {i j : Nat} {x y : Str} {a b : Expr} {ea eb : E} {kt k2} (nfx : C.fx i = false ∧ C.fx j = false) (ha : PA X [a, b] (rdDs C (evDs cal (.cons ea (.cons eb .nil))))) (hw : swappedStores [.Tuple [.Name x p1, .Name y p2] kt p3] (.Tuple [a, b] k2 p4) X.env = pure (some [x, y]) := by rfl)
    (hi : X.N[i]? = some x := by rfl) (hj : X.N[j]? = some y := by rfl) (hij : i ≠ j := by decide) (hx : X.env.scope.names.lookup x = some .local := by rfl) (hy : X.env.scope.names.lookup y = some .local := by rfl)
    (hs : swapsWithSole [.Tuple [.Name x p1, .Name y p2] kt p3] (.Tuple [a, b] k2 p4) pos.line X.env = pure false := by rfl) : PS X (.Assign [.Tuple [.Name x p1, .Name y p2] kt p3] (.Tuple [a, b] k2 p4) pos) (rdSt C (evS cal L (.par i j ea eb))) :=
  st_par nfx (ps_par c.calm c.nd hi hj hij hx hy ha hw hs)
theorem w_augAdd (c : XC C X k) {i : Nat} {x : Str} {e : Expr} {ea : E} (nfx : C.fx i = false) (he : PE X e (rdE C (evE cal ea))) (hi : X.N[i]? = some x := by rfl) (hx : Loc X.env.scope x := by first | exact Or.inl rfl | exact Or.inr rfl) (hf : X.fn x = true ∨ X.env.scope.names.lookup x = some .local := by first | exact .inl rfl | exact .inr rfl) :
    PS X (.AugAssign (.Name x p1) .Add e pos) (rdSt C (evS cal L (.aug i .add ea))) := st_aug nfx (fun x y z Q H h q f1 f2 f3 => by
      unfold augF at h
      split at h
      · cases h; exact ⟨_, _, rfl, rfl, q⟩
      · rename_i h0; cases h0
      · cases h) (fun x y z h => by
      unfold augF at h
      split at h
      · cases h; exact ⟨rfl, rfl, rfl⟩
      · rename_i h0; cases h0
      · cases h) (ps_aug c.nd hi hx (pe_opd he) ip_add hf)
theorem w_augSub (c : XC C X k) {i : Nat} {x : Str} {e : Expr} {ea : E} (nfx : C.fx i = false) (he : PE X e (rdE C (evE cal ea))) (hi : X.N[i]? = some x := by rfl) (hx : Loc X.env.scope x := by first | exact Or.inl rfl | exact Or.inr rfl) (hf : X.fn x = true ∨ X.env.scope.names.lookup x = some .local := by first | exact .inl rfl | exact .inr rfl) :
    PS X (.AugAssign (.Name x p1) .Sub e pos) (rdSt C (evS cal L (.aug i .sub ea))) := st_aug nfx (fun x y z Q H h q f1 f2 f3 => by
      unfold augF at h
      split at h
      · rename_i h0; cases h0
      · cases h; exact ⟨_, _, rfl, rfl, q⟩
      · cases h) (fun x y z h => by
      unfold augF at h
      split at h
      · rename_i h0; cases h0
      · cases h; exact ⟨rfl, rfl, rfl⟩
      · cases h) (ps_aug c.nd hi hx (pe_opd he) ip_sub hf)
theorem w_ex {e : Expr} {ea : E} (he : PE X e (rdE C (evE cal ea))) (hs : swapsWith e none pos.line X.env = pure false := by rfl) : PS X (.Expr e pos) (rdSt C (evS cal L (.ex ea))) := st_ex (ps_expr he hs)
theorem w_ret {e : Expr} {ea : E} (he : PE X e (rdE C (evE cal ea))) : PS X (.Return (some e) pos) (rdSt C (evS cal L (.ret ea))) := st_ret (ps_ret he)
theorem w_retn : PS X (.Return none pos) (rdSt C (evS cal L .retn)) := st_retn ps_retN
theorem w_brk : PS X (.Break pos) (rdSt C (evS cal L .brk)) := st_brk ps_break
theorem w_cnt : PS X (.Continue pos) (rdSt C (evS cal L .cnt)) := st_cnt ps_continue
theorem w_pas : PS X (.Pass pos) (rdSt C (evS cal L .pas)) := st_pas ps_pass
theorem w_ife {c : Expr} {a b : List Stmt} {ec : E} {sa sb : Ss} (hc : PT X c (rdB C (evE cal ec))) (ha : PSs X a (rdSt C (evSs cal L sa))) (hb : PSs X b (rdSt C (evSs cal L sb))) : PS X (.If c a b pos) (rdSt C (evS cal L (.ife ec sa sb))) := st_ife (ps_if hc ha hb)
theorem w_wh (hp : PassesOwn (model X.prog X.w) X.A X.env X.xe) {c : Expr} {b : List Stmt} {ec : E} {sb : Ss} (hc : PT X c (rdB C (evE cal ec))) (hb : PSs X b (rdSt C (evSs cal L sb))) : PS X (.While c b [] pos) (rdSt C (evS cal L (.wh ec sb))) := st_wh (ps_while hp hc hb)
theorem w_fr (c : XC C X k) (hp : PassesOwn (model X.prog X.w) X.A X.env X.xe) {tg iter : Expr} {b : List Stmt} {p : Pt} {s : Src} {sb : Ss} {g : TG} (gp : GP C.G p g) (nfx : ∀ j ∈ p.sl, C.fx j = false) (hg : PG X tg g) (hi : PI X tg iter (rdS C (evSrc cal s))) (hb : PSs X b (rdSt C (evSs cal L sb)))
    (hs : ∀ x, foldedSetIterable iter X.env x = pure x := by intro _; rfl) : PS X (.For tg iter b [] pos) (rdSt C (evS cal L (.fr p s sb))) := st_fr gp nfx (ps_for hp c.calm hi hg hb hs)
theorem w_app (c : XC C X k) {i : Nat} {x : Str} {e : Expr} {ea : E} (he : PE X e (rdE C (evE cal ea))) (ho : PE X (.Name x p1) (tVar i)) (hbase : attributeBase (.Name x p1) "append" X.env (eval (.Name x p1) X.env) = eval (.Name x p1) X.env := by rfl)
    (hfew : ((backTo p3 (starEach [e] X.env)).all (fun x => !x.1) && (backToKw p3 (keywordEach [] X.env)).all (fun x => x.1.isSome) && decide ([e].length + ([] : List Keyword).length + (if ([] : List Keyword).isEmpty then 0 else 1) < 30)) = true := by rfl)
    (hline : (p2.endLine == p3.line) = true := by rfl) (hst : starEach [e] X.env = (false, eval e X.env) :: starEach [] X.env := by rfl) (hs : swapsWith (.Call (.Attribute (.Name x p1) "append" p2) [e] [] p3) none pos.line X.env = pure false := by rfl) :
    PS X (.Expr (.Call (.Attribute (.Name x p1) "append" p2) [e] [] p3) pos) (rdSt C (evS cal L (.app i ea))) :=
  st_app (ps_expr (PE.imp (pe_bm PySem.F.plainAttrs_list PySem.F.slot_list_append PySem.F.type_list_append mt_append ho (pa_cons (pe_opd he) pa_nil hst) hbase hfew hline hst (by rfl)) fun σ H Q q => by rw [← c.K]; exact q) hs)
theorem w_insr (c : XC C X k) {i : Nat} {x : Str} {ke e : Expr} {ek ea : E} (hk : PE X ke (rdE C (evE cal ek))) (he : PE X e (rdE C (evE cal ea))) (ho : PE X (.Name x p1) (tVar i)) (hbase : attributeBase (.Name x p1) "insert" X.env (eval (.Name x p1) X.env) = eval (.Name x p1) X.env := by rfl)
    (hfew : ((backTo p3 (starEach [ke, e] X.env)).all (fun x => !x.1) && (backToKw p3 (keywordEach [] X.env)).all (fun x => x.1.isSome) && decide ([ke, e].length + ([] : List Keyword).length + (if ([] : List Keyword).isEmpty then 0 else 1) < 30)) = true := by rfl)
    (hline : (p2.endLine == p3.line) = true := by rfl) (hst : starEach [ke, e] X.env = (false, eval ke X.env) :: starEach [e] X.env := by rfl) (hst2 : starEach [e] X.env = (false, eval e X.env) :: starEach [] X.env := by rfl) (hs : swapsWith (.Call (.Attribute (.Name x p1) "insert" p2) [ke, e] [] p3) none pos.line X.env = pure false := by rfl) :
    PS X (.Expr (.Call (.Attribute (.Name x p1) "insert" p2) [ke, e] [] p3) pos) (rdSt C (evS cal L (.insr i ek ea))) :=
  st_insr (ps_expr (PE.imp (pe_bm PySem.F.plainAttrs_list PySem.F.slot_list_insert PySem.F.type_list_insert mt_insert ho (pa_cons (pe_opd hk) (pa_cons (pe_opd he) pa_nil hst2) hst) hbase hfew hline hst (by rw [hst2]; rfl)) fun σ H Q q => by rw [← c.K]; exact q) hs)
theorem ps_or {o o' : TSet} (h : PSet X o) (h' : PSet X o') : PSet X fun a b c H Q => o a b c H Q ∨ o' a b c H Q := fun pins s σ H o i v ov iv u Q I ro ri rv q => q.elim (h pins s σ H o i v ov iv u Q I ro ri rv) (h' pins s σ H o i v ov iv u Q I ro ri rv)
theorem w_sto (c : XC C X k) {i : Nat} {x : Str} {ke e : Expr} {ek ea : E} (ho : PE X (.Name x p1) (tVar i)) (hk : PE X ke (rdE C (evE cal ek))) (he : PE X e (rdE C (evE cal ea)))
    (ha : ∀ v, assign (.Subscript (.Name x p1) ke p2) X.env v = (do
      let ov ← holding [v] (eval (.Name x p1) X.env)
      let iv ← holding [v, ov] (eval ke X.env)
      standAt p2
      holding [v, ov, iv] (setItem ov iv v)
      release [v, ov, iv] []) := by intro _; rfl)
    (hs : swapsWithSole [.Subscript (.Name x p1) ke p2] e pos.line X.env = pure false := by rfl) (hw : swappedStores [.Subscript (.Name x p1) ke p2] e X.env = pure none := by rfl)
    (h1 : (assignEach [.Subscript (.Name x p1) ke p2] X.env).map (·.2) = [assign (.Subscript (.Name x p1) ke p2) X.env] := by rfl) : PS X (.Assign [.Subscript (.Name x p1) ke p2] e pos) (rdSt C (evS cal L (.sto i ek ea))) :=
  st_sto (ps_asg he (pg_sub ho hk (ps_or set_list (set_dict (hu_of c.room))) ha) hs hw h1)
end

/-! ### a def's promise -/
def fxOf (io : List Bool) (j : Nat) : Bool := io[j]?.getD false
theorem outsM_get : ∀ {io : List Bool} {m : List Slot} {j : Nat} {s : Slot}, (outsM io m)[j]? = some s → (io[j]? = some true ∧ m[j]? = some s) ∨ s = .no
  | [], m, j, s, h => by cases m <;> simp [outsM] at h
  | _ :: io, [], 0, s, h => .inr (by simpa [outsM] using h.symm)
  | _ :: io, [], j + 1, s, h => by
    rcases outsM_get (io := io) (m := []) (j := j) (s := s) (by simpa [outsM] using h) with h | h
    · simp at h
    · exact .inr h
  | true :: io, x :: m, 0, s, h => .inl ⟨rfl, h⟩
  | false :: io, x :: m, 0, s, h => .inr (by simpa [outsM] using h.symm)
  | true :: io, x :: m, j + 1, s, h => by
    rcases outsM_get (io := io) (m := m) (j := j) (s := s) h with h | h
    · exact .inl (by simpa using h)
    · exact .inr h
  | false :: io, x :: m, j + 1, s, h => by
    rcases outsM_get (io := io) (m := m) (j := j) (s := s) h with h | h
    · exact .inl (by simpa using h)
    · exact .inr h
theorem outsM_length : ∀ {io : List Bool} {m : List Slot}, (outsM io m).length = io.length
  | [], m => by cases m <;> rfl
  | b :: io, [] => congrArg Nat.succ (outsM_length (io := io) (m := []))
  | true :: io, x :: m => congrArg Nat.succ (outsM_length (io := io) (m := m))
  | false :: io, x :: m => congrArg Nat.succ (outsM_length (io := io) (m := m))
section
variable {G : Gm} {w : Wd}
theorem start_get {N : List Str} {vs : List V} {j : Nat} (h : j < vs.length) : (L2.start N vs)[j]? = (vs.map some)[j]? := by
  unfold L2.start
  rw [List.getElem?_append_left (by simpa using h)]
theorem outs_sr {io : List Bool} {N : List Str} {vs : List V} {m : List Slot} {σ : St} (S : SR G w m σ) (hf : ∀ j, fxOf io j = true → σ[j]? = (L2.start N vs)[j]?) (hl : io.length = vs.length) : SR G w (outsM io m) (vs.map some) := by
  have key : ∀ {j s}, (outsM io m)[j]? = some s → io[j]? = some true → σ[j]? = (vs.map some)[j]? := fun {j s} h e => by
    have lt : j < vs.length := by rw [← hl]; exact (List.getElem?_eq_some_iff.mp e).1
    rw [hf j (by unfold fxOf; rw [e]; rfl), start_get lt]
  refine ⟨by rw [outsM_length, List.length_map, hl], fun j s h => ?_, fun i j o o' a h1 h2 e1 e2 => ?_, S.sep, S.trk⟩
  · rcases outsM_get h with ⟨e, q⟩ | rfl
    · have := S.sl j s q
      rwa [key h e] at this
    · trivial
  · rcases outsM_get h1 with ⟨g1, q1⟩ | z
    · rcases outsM_get h2 with ⟨g2, q2⟩ | z
      · exact S.inj i j o o' a q1 q2 (by rw [key h1 g1]; exact e1) (by rw [key h2 g2]; exact e2)
      · cases z
    · cases z
theorem start_sr {N : List Str} {vs : List V} {args : List Slot} {n : Nat} (S : SR G w args (vs.map some)) (hn : n = N.length - vs.length) : SR G w (args ++ List.replicate n Slot.no) (L2.start N vs) := by
  have len : args.length = vs.length := by have := S.len; rwa [List.length_map] at this
  subst hn
  have key : ∀ {j s}, (args ++ List.replicate (N.length - vs.length) Slot.no)[j]? = some s → s = Slot.no ∨ (args[j]? = some s ∧ (L2.start N vs)[j]? = (vs.map some)[j]?) := fun {j s} h => by
    by_cases lt : j < args.length
    · rw [List.getElem?_append_left lt] at h
      exact .inr ⟨h, start_get (by omega)⟩
    · rw [List.getElem?_append_right (by omega), List.getElem?_replicate] at h
      split at h
      · cases h; exact .inl rfl
      · cases h
  refine ⟨?_, fun j s h => ?_, fun i j o o' a h1 h2 e1 e2 => ?_, S.sep, S.trk⟩
  · show _ = List.length (vs.map some ++ List.replicate (N.length - vs.length) none)
    rw [List.length_append, List.length_append, List.length_replicate, List.length_replicate, List.length_map, len]
  · rcases key h with rfl | ⟨q, e⟩
    · trivial
    · rw [e]; exact S.sl j s q
  · rcases key h1 with z | ⟨q1, g1⟩
    · cases z
    · rcases key h2 with z | ⟨q2, g2⟩
      · cases z
      · exact S.inj i j o o' a q1 q2 (by rw [← g1]; exact e1) (by rw [← g2]; exact e2)
end
/-- the def's body, in a context over k -/
def BodyOk (G : Gm) (P : Program) (w : World) (K : PySem.W.Frag) (mg : Str → Option Value) (base : Heap) (N : List Str) (io : List Bool) (qual : Str) (scope : Scope) (f : Addr) (body : List Stmt) (k : Nat) (cal : Nat → List Slot → CRes) (L : Nat) (b : Ss) : Prop :=
  ∀ (cdv : Value) (A : Around) (outer : List Env) (s : Shared) (H : Hp) (E : XK) (C : Ct), C.G = G → C.fx = fxOf io → XC C (cxOf (L2.CX P w) P w K mg base N qual scope f cdv A outer s H E) k →
    PassesOwn (model P w) (cxOf (L2.CX P w) P w K mg base N qual scope f cdv A outer s H E).A (cxOf (L2.CX P w) P w K mg base N qual scope f cdv A outer s H E).env (cxOf (L2.CX P w) P w K mg base N qual scope f cdv A outer s H E).xe →
    PSs (cxOf (L2.CX P w) P w K mg base N qual scope f cdv A outer s H E) body (rdSt C (evSs cal L b))
theorem fn_okB {G : Gm} {P : Program} {w : World} {K : PySem.W.Frag} {mg : Str → Option Value} {base : Heap} {x qual : Str} {params : Arguments} {body : List Stmt} {scope : Scope} {dvs : List V} {kws : List (Str × V)} {fa : Addr} {fd : FuncData} {N ps : List Str} {k L f : Nat} {Γ : Nat → Option Def} {d : Def}
    (F : FunD K x qual params body scope dvs kws fa fd) (S : FnScope N ps scope) (hK : G.K = K) (hd : Γ f = some d) (hnp : d.np = ps.length) (hns : d.ns = N.length) (hio : d.io.length = ps.length) (hle : ps.length ≤ N.length)
    (B : BodyOk G P w K mg base N d.io qual scope fa body k (callF Γ L k) L d.body) : FnB P w K mg base (L2.CX P w) (2 * (k + 1)) fa fd ps (spM G (callF Γ L (k + 1)) f) := by
  have run : ∀ args, callF Γ L (k + 1) f args = runD (callF Γ L k) L d args := fun args => by
    show (match Γ f with | some d => _ | none => _) = _
    rw [hd]
  have len : ∀ vs H Q E, spM G (callF Γ L (k + 1)) f vs H Q E → vs.length = ps.length := fun vs H Q E ⟨w0, args, e, S0, q⟩ => by
    rw [run] at q
    unfold runD at q
    have := S0.len
    rw [List.length_map] at this
    by_cases h : args.length = d.np
    · omega
    · rw [if_neg h] at q; exact q.elim
  refine fnB_of (k := 2 * k + 1) F S len fun cdv A outer s H vs Q E hr h => ?_
  have hl := len vs H Q E h
  obtain ⟨w0, args, e, S0, q⟩ := h
  rw [run] at q
  unfold runD at q
  by_cases hlen : args.length = d.np
  · rw [if_pos hlen] at q
    let C : Ct := ⟨G, w0, L2.start N vs, fxOf d.io, fun x m => ∀ w' cls dd, SR G w' (outsM d.io m) (vs.map some) → Ex w0 w' → RX G w' x cls dd → E cls dd w'.H⟩
    have S1 : SR G w0 (args ++ List.replicate (d.ns - d.np) .no) (L2.start N vs) := start_sr S0 (by rw [hns, hnp, hl])
    have outs : ∀ {w' : Wd} {m : List Slot} {σ' : St}, Pre C w' m σ' → SR G w' (outsM d.io m) (vs.map some) := fun {w' m σ'} P => outs_sr P.sr P.fix (by omega)
    have tk : Takes (cxOf (L2.CX P w) P w K mg base N qual scope fa cdv A outer s H E) (WM C) := Takes.imp (takes_of (E := E) rfl rfl rfl rfl) fun c dd σ H' ⟨w', m, x, e', P', rx, em⟩ => by
      subst e'
      exact em w' c dd (outs P') P'.ex rx
    have xc : XC C (cxOf (L2.CX P w) P w K mg base N qual scope fa cdv A outer s H E) k := ⟨hK, S.nd, rfl, hr, tk⟩
    refine ⟨_, B cdv A outer s H E C rfl rfl xc (passes_of rfl), w0, args ++ List.replicate (d.ns - d.np) .no, e, ⟨S1, .refl w0, fun _ _ => rfl⟩, ?_⟩
    cases hb : evSs (callF Γ L k) L d.body (args ++ List.replicate (d.ns - d.np) .no) with
    | no => rw [hb] at q; exact q.elim
    | bk m => rw [hb] at q; exact q.elim
    | ct m => rw [hb] at q; exact q.elim
    | nx m =>
      rw [hb] at q
      exact fun w' σ' P' x' => q w' .non (outs P') x' .non
    | ex x m =>
      rw [hb] at q
      exact fun w' cls dd S' x' rx => q w' cls dd S' x' rx
    | rt r m =>
      rw [hb] at q
      cases r with
      | fz t => exact fun w' σ' v P' x' rr => q w' v (outs P') x' rr
      | bo i => exact q.elim
      | ow o =>
        refine fun w' σ' v P' x' rr => q w' v (outs P') x' ?_
        obtain ⟨p, rfl, ro, l, n⟩ := rr
        refine ⟨p, rfl, ro, l, fun j o' hj z => ?_⟩
        rcases outsM_get hj with ⟨g, q'⟩ | g
        · have lt : j < vs.length := by have := (List.getElem?_eq_some_iff.mp g).1; omega
          refine n j o' q' ?_
          rw [P'.fix j (by show fxOf d.io j = true; unfold fxOf; rw [g]; rfl)]
          show (L2.start N vs)[j]? = _
          rw [start_get lt]
          exact z
        · cases g
  · rw [if_neg hlen] at q; exact q.elim
theorem fn_ok {G : Gm} {P : Program} {w : World} {K : PySem.W.Frag} {mg : Str → Option Value} {base : Heap} {x qual : Str} {params : Arguments} {body : List Stmt} {scope : Scope} {dvs : List V} {kws : List (Str × V)} {fa : Addr} {fd : FuncData} {N ps : List Str} {k L f : Nat} {Γ : Nat → Option Def} {d : Def}
    (F : FunD K x qual params body scope dvs kws fa fd) (S : FnScope N ps scope) (hK : G.K = K) (hd : Γ f = some d) (hnp : d.np = ps.length) (hns : d.ns = N.length) (hio : d.io.length = ps.length) (hle : ps.length ≤ N.length)
    (B : BodyOk G P w K mg base N d.io qual scope fa body k (callF Γ L k) L d.body) : FnOk P w K mg base (L2.CX P w) (2 * (k + 1)) fa fd ps (spM G (callF Γ L (k + 1)) f) := (fn_okB F S hK hd hnp hns hio hle B).ok
/-- .. whose first parameter is the class at A -/
def BodyOkC (Ad : Addr) (G : Gm) (P : Program) (w : World) (K : PySem.W.Frag) (mg : Str → Option Value) (base : Heap) (N : List Str) (io : List Bool) (qual : Str) (scope : Scope) (f : Addr) (body : List Stmt) (k : Nat) (cal : Nat → List Slot → CRes) (L : Nat) (b : Ss) : Prop :=
  ∀ (cdv : Value) (A : Around) (outer : List Env) (s : Shared) (H : Hp) (E : XK) (C : Ct), C.G = G → C.fx = fxOf io → C.s0[0]? = some (some (.ref Ad)) → XC C (cxOf (L2.CX P w) P w K mg base N qual scope f cdv A outer s H E) k →
    PassesOwn (model P w) (cxOf (L2.CX P w) P w K mg base N qual scope f cdv A outer s H E).A (cxOf (L2.CX P w) P w K mg base N qual scope f cdv A outer s H E).env (cxOf (L2.CX P w) P w K mg base N qual scope f cdv A outer s H E).xe →
    PSs (cxOf (L2.CX P w) P w K mg base N qual scope f cdv A outer s H E) body (rdSt C (evSs cal L b))
theorem fn_okBC {Ad : Addr} {G : Gm} {P : Program} {w : World} {K : PySem.W.Frag} {mg : Str → Option Value} {base : Heap} {x qual : Str} {params : Arguments} {body : List Stmt} {scope : Scope} {dvs : List V} {kws : List (Str × V)} {fa : Addr} {fd : FuncData} {N ps : List Str} {k L f : Nat} {Γ : Nat → Option Def} {d : Def}
    (F : FunD K x qual params body scope dvs kws fa fd) (S : FnScope N ps scope) (hK : G.K = K) (hd : Γ f = some d) (hnp : d.np = ps.length) (hns : d.ns = N.length) (hio : d.io.length = ps.length) (hle : ps.length ≤ N.length)
    (h0 : 0 < ps.length) (B : BodyOkC Ad G P w K mg base N d.io qual scope fa body k (callF Γ L k) L d.body) : FnB P w K mg base (L2.CX P w) (2 * (k + 1)) fa fd ps (fun vs H Q E => vs.head? = some (.ref Ad) ∧ spM G (callF Γ L (k + 1)) f vs H Q E) := by
  have run : ∀ args, callF Γ L (k + 1) f args = runD (callF Γ L k) L d args := fun args => by
    show (match Γ f with | some d => _ | none => _) = _
    rw [hd]
  have len : ∀ vs H Q E, spM G (callF Γ L (k + 1)) f vs H Q E → vs.length = ps.length := fun vs H Q E ⟨w0, args, e, S0, q⟩ => by
    rw [run] at q
    unfold runD at q
    have := S0.len
    rw [List.length_map] at this
    by_cases h : args.length = d.np
    · omega
    · rw [if_neg h] at q; exact q.elim
  refine fnB_of (k := 2 * k + 1) F S (fun vs H Q E h => len vs H Q E h.2) fun cdv A outer s H vs Q E hr h => ?_
  obtain ⟨hv, h⟩ := h
  have hl := len vs H Q E h
  obtain ⟨w0, args, e, S0, q⟩ := h
  rw [run] at q
  unfold runD at q
  by_cases hlen : args.length = d.np
  · rw [if_pos hlen] at q
    let C : Ct := ⟨G, w0, L2.start N vs, fxOf d.io, fun x m => ∀ w' cls dd, SR G w' (outsM d.io m) (vs.map some) → Ex w0 w' → RX G w' x cls dd → E cls dd w'.H⟩
    have S1 : SR G w0 (args ++ List.replicate (d.ns - d.np) .no) (L2.start N vs) := start_sr S0 (by rw [hns, hnp, hl])
    have outs : ∀ {w' : Wd} {m : List Slot} {σ' : St}, Pre C w' m σ' → SR G w' (outsM d.io m) (vs.map some) := fun {w' m σ'} P => outs_sr P.sr P.fix (by omega)
    have tk : Takes (cxOf (L2.CX P w) P w K mg base N qual scope fa cdv A outer s H E) (WM C) := Takes.imp (takes_of (E := E) rfl rfl rfl rfl) fun c dd σ H' ⟨w', m, x, e', P', rx, em⟩ => by
      subst e'
      exact em w' c dd (outs P') P'.ex rx
    have xc : XC C (cxOf (L2.CX P w) P w K mg base N qual scope fa cdv A outer s H E) k := ⟨hK, S.nd, rfl, hr, tk⟩
    refine ⟨_, B cdv A outer s H E C rfl rfl (by
      show (L2.start N vs)[0]? = _
      rw [start_get (by omega)]
      cases vs with
      | nil => cases hv
      | cons v vs => cases hv; rfl) xc (passes_of rfl), w0, args ++ List.replicate (d.ns - d.np) .no, e, ⟨S1, .refl w0, fun _ _ => rfl⟩, ?_⟩
    cases hb : evSs (callF Γ L k) L d.body (args ++ List.replicate (d.ns - d.np) .no) with
    | no => rw [hb] at q; exact q.elim
    | bk m => rw [hb] at q; exact q.elim
    | ct m => rw [hb] at q; exact q.elim
    | nx m =>
      rw [hb] at q
      exact fun w' σ' P' x' => q w' .non (outs P') x' .non
    | ex x m =>
      rw [hb] at q
      exact fun w' cls dd S' x' rx => q w' cls dd S' x' rx
    | rt r m =>
      rw [hb] at q
      cases r with
      | fz t => exact fun w' σ' v P' x' rr => q w' v (outs P') x' rr
      | bo i => exact q.elim
      | ow o =>
        refine fun w' σ' v P' x' rr => q w' v (outs P') x' ?_
        obtain ⟨p, rfl, ro, l, n⟩ := rr
        refine ⟨p, rfl, ro, l, fun j o' hj z => ?_⟩
        rcases outsM_get hj with ⟨g, q'⟩ | g
        · have lt : j < vs.length := by have := (List.getElem?_eq_some_iff.mp g).1; omega
          refine n j o' q' ?_
          rw [P'.fix j (by show fxOf d.io j = true; unfold fxOf; rw [g]; rfl)]
          show (L2.start N vs)[j]? = _
          rw [start_get lt]
          exact z
        · cases g
  · rw [if_neg hlen] at q; exact q.elim
end Mi
set_option maxHeartbeats 1000000
namespace Mi
open PySem PySem.Spec PyProof.Rows L2

section
variable {G : Gm} {w w' : Wd} {m m' : List Slot} {σ : St}
theorem RFf.look {f : Str} {t : T} : ∀ {fs : List (Str × T)} {gs : List (Str × V)}, RFf G w fs gs → fs.lookup f = some t → ∃ v, gs.lookup f = some v ∧ RF G w t v
  | _, _, .nil, h => by cases h
  | _, _, .cons (k := k) (v := v) a b, h => by
    rw [List.lookup_cons] at h
    rw [List.lookup_cons]
    cases hb : f == k with
    | true =>
      rw [hb] at h
      cases h
      exact ⟨v, rfl, a⟩
    | false =>
      rw [hb] at h
      exact RFf.look b h
theorem RFf.lookN {f : Str} : ∀ {fs : List (Str × T)} {gs : List (Str × V)}, RFf G w fs gs → fs.lookup f = none → gs.lookup f = none
  | _, _, .nil, _ => rfl
  | _, _, .cons (k := k) a b, h => by
    rw [List.lookup_cons] at h
    rw [List.lookup_cons]
    cases hb : f == k with
    | true => rw [hb] at h; cases h
    | false => rw [hb] at h; exact RFf.lookN b h
theorem RFf.length : ∀ {fs : List (Str × T)} {gs : List (Str × V)}, RFf G w fs gs → fs.length = gs.length
  | _, _, .nil => rfl
  | _, _, .cons _ b => congrArg Nat.succ (RFf.length b)
theorem RFf.put {f : Str} {t : T} {v : V} (r : RF G w t v) : ∀ {fs : List (Str × T)} {gs : List (Str × V)}, RFf G w fs gs → RFf G w (putS f t fs) (putF f v gs)
  | _, _, .nil => .cons r .nil
  | _, _, .cons (k := k) a b => by
    unfold putS putF
    by_cases e : k = f
    · rw [if_pos e, if_pos e]; exact .cons r b
    · rw [if_neg e, if_neg e]; exact .cons a (RFf.put r b)
end
theorem spM_weak {G : Gm} {cal : Nat → List Slot → CRes} {f : Nat} {vs : List V} {H : Hp} {Q : VK} {E E' : XK} (h : spM G cal f vs H Q E) (i : ∀ c d H, E c d H → E' c d H) : spM G cal f vs H Q E' := by
  obtain ⟨w, args, e, S, q⟩ := h
  refine ⟨w, args, e, S, ?_⟩
  cases hc : cal f args with
  | ok r outs => rw [hc] at q; exact q
  | ex x outs => rw [hc] at q; exact fun w' c d s x' r => i _ _ _ (q w' c d s x' r)
  | no => rw [hc] at q; exact q
abbrev EF : XK := fun _ _ _ => False
def Ct.quiet (C : Ct) : Ct := ⟨C.G, C.w0, C.s0, C.fx, fun _ _ => False⟩
theorem Pre.quiet {C : Ct} {w : Wd} {m : List Slot} {σ : St} (p : Pre C w m σ) : Pre C.quiet w m σ := ⟨p.sr, p.ex, p.fix⟩
section
variable {C : Ct} {X : Cx} {cal : Nat → List Slot → CRes} {L : Nat}
/-- a call that lets nothing out -/
theorem call_quiet {f : Nat} {io : List Bool} {ds : List Opd} {vs : List V} {w : Wd} {m : List Slot} {σ : St} {Q : VK} (P : Pre C w m σ) (r : RDs C.G w σ ds vs)
    (h : (callR cal f io ds m).calm.sat (fun r m' => ∀ w' v, SR C.G w' m' σ → Ex w w' → RR C.G w' m' σ r v → Q v w'.H) C.EM) : spM C.G cal f vs w.H Q EF :=
  spM_weak (call_core (C := C.quiet) P.quiet r (Res.sat_calm h)) fun c d H ⟨_, _, _, _, _, _, z⟩ => z
theorem n_fld {ex ea : Expr} {c : Nat} {a : E} {f : Str} (hp : ∀ ta, PE X ea ta → PE X ex (tFld C.G.K ta f)) (hc : Cls C.G.K (C.G.cls c)) (hn : NoAttr C.G.K (C.G.cls c) f) (ha : PE X ea (rdE C (evE cal a))) : PE X ex (rdE C (evE cal (.fld c a f))) :=
  PE.imp (hp _ (pe_opd ha)) fun σ H Q ⟨w, m, e, P, q⟩ => by
  rw [evE, Res.sat_bind] at q
  refine ⟨w, m, e, P, ?_⟩
  rw [opdF, Res.sat_bind]
  refine Res.sat_mono q fun r m1 q1 w1 v S1 x1 r1 => ?_
  split at q1
  · rename_i c' fs hd
    split at q1
    · rename_i hcc
      subst hcc
      cases hl : fs.lookup f with
      | none => rw [hl] at q1; exact q1.elim
      | some t =>
        rw [hl] at q1
        obtain ⟨p, dx, gs, rfl, h1, h2⟩ := (S1.der r1 hd).ins
        obtain ⟨u, h3, h4⟩ := h2.look hl
        exact ⟨p, _, dx, gs, u, rfl, h1, hc, hn, h3, q1 w1 u S1 x1 h4⟩
    · exact q1.elim
  · exact q1.elim
theorem n_con {ex ea : Expr} {c : Nat} {a : E} {f : Str} {t : T} {v : V} {u : Value} (hp : ∀ ta, PE X ea ta → PE X ex (tCon C.G.K ta f)) (hc : Cls C.G.K (C.G.cls c)) (hn : Con C.G.K (C.G.cls c) f v u) (hr : ∀ w, RF C.G w t v) (ha : PE X ea (rdE C (evE cal a))) : PE X ex (rdE C (evE cal (.con c a f t))) :=
  PE.imp (hp _ (pe_opd ha)) fun σ H Q ⟨w, m, e, P, q⟩ => by
  rw [evE, Res.sat_bind] at q
  refine ⟨w, m, e, P, ?_⟩
  rw [opdF, Res.sat_bind]
  refine Res.sat_mono q fun r m1 q1 w1 v1 S1 x1 r1 => ?_
  split at q1
  · rename_i c' fs hd
    split at q1
    · rename_i hcc
      obtain ⟨rfl, hl⟩ := hcc
      obtain ⟨p, dx, gs, rfl, h1, h2⟩ := (S1.der r1 hd).ins
      exact ⟨p, _, dx, gs, v, u, rfl, h1, hc, hn, h2.lookN hl, q1 w1 v S1 x1 (hr w1)⟩
    · exact q1.elim
  · exact q1.elim
theorem n_prop {ex ea : Expr} {c f : Nat} {a : E} (hp : ∀ ta, PE X ea ta → PE X ex (tProp (C.G.cls c) (spM C.G cal f) [] EF ta)) (ha : PE X ea (rdE C (evE cal a))) : PE X ex (rdE C (evE cal (.prop c f a))) :=
  PE.imp (hp _ (pe_opd ha)) fun σ H Q ⟨w, m, e, P, q⟩ => by
  rw [evE, Res.sat_bind] at q
  refine ⟨w, m, e, P, ?_⟩
  rw [opdF, Res.sat_bind]
  refine Res.sat_mono q fun r m1 q1 w1 v1 S1 x1 r1 => ?_
  split at q1
  · rename_i c' fs hd
    split at q1
    · rename_i hcc
      subst hcc
      obtain ⟨p, dx, gs, rfl, h1, h2⟩ := (S1.der r1 hd).ins
      refine ⟨p, dx, gs, rfl, h1, ?_⟩
      exact call_quiet (P.step S1 x1) (.cons r1 .nil) (Res.sat_mono q1 fun r m2 k w' v S' x' rr => k w' v S' (x1.trans x') rr)
    · exact q1.elim
  · exact q1.elim
theorem n_meth {ex ea : Expr} {exs : List Expr} {c f : Nat} {n : Str} {io : List Bool} {a : E} {es : Es} (hp : ∀ ta t, PE X ea ta → PA X exs t → PE X ex (tMeth (C.G.cls c) n (spM C.G cal f) [] EF ta t)) (ha : PE X ea (rdE C (evE cal a))) (h : PA X exs (rdDs C (evDs cal es))) : PE X ex (rdE C (evE cal (.meth c f n io a es))) :=
  PE.imp (hp _ _ (pe_opd ha) h) fun σ H Q ⟨w, m, e, P, q⟩ => by
  rw [evE, Res.sat_bind] at q
  refine ⟨w, m, e, P, ?_⟩
  rw [opdF, Res.sat_bind]
  refine Res.sat_mono q fun r m1 q1 w1 v1 S1 x1 r1 => ?_
  split at q1
  · rename_i c' fs hd
    split at q1
    · rename_i hcc
      obtain ⟨rfl, hl⟩ := hcc
      obtain ⟨p, dx, gs, rfl, h1, h2⟩ := (S1.der r1 hd).ins
      refine ⟨p, dx, gs, rfl, h1, h2.lookN hl, ?_⟩
      rw [Res.sat_bind] at q1
      refine ⟨w1, m1, rfl, P.step S1 x1, Res.sat_mono q1 fun ds m2 q2 w2 vs S2 x2 r2 => ?_⟩
      show spM C.G cal f (V.ref p :: (vs ++ [])) w2.H Q EF
      rw [List.append_nil]
      exact call_quiet ((P.step S1 x1).step S2 x2) (.cons (r1.mono x2.mo) r2) (Res.sat_mono q2 fun r m3 k w' v S' x' rr => k w' v S' (x1.trans (x2.trans x')) rr)
    · exact q1.elim
  · exact q1.elim
/-- a new instance, its arguments in the order of the parameters -/
def tMkP (C : Addr) (sp : Sp) (pmv : List V → List V) (E : XK) (t : TA) : TE := fun σ H Q => t σ H fun vs H1 => ∀ x dx, H1 x = none → H1 dx = none → dx ≠ x → sp (.ref x :: pmv vs) (upd (upd H1 dx (.own x)) x (.ins C dx [])) (fun v H2 => v = .non ∧ Q (.ref x) H2) E
theorem rd_mk0 {c f : Nat} {pm : List Nat} {es : Es} {pmv : List V → List V} (hpm : ∀ {w : Wd} {ts : List T} {vs : List V}, RFs C.G w ts vs → RFs C.G w (pmT pm ts) (pmv vs)) {σ : St} {H : Hp} {Q : VK} (q : rdE C (evE cal (.mk c f pm es)) σ H Q) : tMkP (C.G.cls c) (spM C.G cal f) pmv EF (rdDs C (evDs cal es)) σ H Q := by
  obtain ⟨w, m, e, P, q⟩ := q
  rw [evE, Res.sat_bind] at q
  refine ⟨w, m, e, P, Res.sat_mono q fun ds m1 q1 w1 vs0 S1 x1 r1 x dx hx hdx hne => ?_⟩
  cases h1 : escs m1 ds with
  | none => rw [h1] at q1; exact q1.elim
  | some pr =>
    obtain ⟨ts0, m2⟩ := pr
    rw [h1] at q1
    simp only at q1
    obtain ⟨w2, e2, S2, x2, r20⟩ := SR.escs S1 r1 h1
    have r2 := hpm r20
    generalize pmT pm ts0 = ts at r2 q1
    generalize pmv vs0 = vs at r2
    have hx2 : w2.H x = none := by rw [e2]; exact hx
    have hdx2 : w2.H dx = none := by rw [e2]; exact hdx
    split at q1
    · rename_i o outs hcal
      let wA : Wd := ⟨w2.F, w2.L, upd w2.H dx (.own x)⟩
      have moA : Mo w2 wA := ⟨fun _ z => z, fun a fa => by
        obtain ⟨u, hu⟩ := S2.trk a fa
        exact .inl (hu.trans (upd_trk hdx2 hu).symm)⟩
      have exA : Ex w2 wA := ⟨moA.fz, moA.kp, fun a u g1 g2 g3 => ⟨upd_trk hdx2 g1, g2, g3⟩⟩
      have SA : SR C.G wA m2 σ := S2.grow moA (fun a l => ⟨l, fun ⟨u, hu⟩ => (upd_trk hdx2 hu).trans hu.symm⟩) S2.sep fun a fa => by
        obtain ⟨u, hu⟩ := S2.trk a fa
        exact ⟨u, upd_trk hdx2 hu⟩
      have hxA : wA.H x = none := (upd_ne (fun z => hne z.symm)).trans hx2
      have S5 : SR C.G (wA.new x (.ins (C.G.cls c) dx [])) m2 σ := SA.new hxA
      have x5 : Ex w2 (wA.new x (.ins (C.G.cls c) dx [])) := exA.trans (Ex.new SA.trk hxA)
      have xoff : Off m2 σ x := fun j o' hj z => by
        obtain ⟨a, ea, ro, _⟩ := S2.sl j _ hj
        rw [z] at ea
        cases ea
        obtain ⟨u, hu⟩ := ro.trk
        rw [hx2] at hu
        cases hu
      have r5 : RFs C.G (wA.new x (.ins (C.G.cls c) dx [])) ts vs := RFs.mono x5.mo r2
      have ow0 : ∀ {k : Nat} {o' : O}, (Slot.ow (.ins c []) :: ts.map Slot.fz)[k]? = some (.ow o') → k = 0 := fun {k o'} hk => by
        cases k with
        | zero => rfl
        | succ k =>
          rw [List.getElem?_cons_succ, List.getElem?_map] at hk
          cases ht : ts[k]? with
          | none => rw [ht] at hk; cases hk
          | some t => rw [ht] at hk; cases hk
      have pq : PQ C.G (wA.new x (.ins (C.G.cls c) dx [])) m2 σ (.ow (.ins c []) :: ts.map .fz) (.ref x :: vs) := by
        refine ⟨by simp [r2.length], fun k s hk => ?_, fun k l o1 o2 a h1 h2 _ _ => by rw [ow0 h1, ow0 h2], fun k o1 a hk z => ?_⟩
        · cases k with
          | zero =>
            cases hk
            exact ⟨x, rfl, .ins upd_same .nil, .inr rfl⟩
          | succ k =>
            rw [List.getElem?_cons_succ, List.getElem?_map] at hk
            cases ht : ts[k]? with
            | none => rw [ht] at hk; cases hk
            | some t =>
              rw [ht] at hk
              cases hk
              obtain ⟨v, hv, rv⟩ := r5.get ht
              exact ⟨v, by rw [List.getElem?_cons_succ, hv]; rfl, rv⟩
        · have := ow0 hk
          subst this
          cases z
          exact xoff
      have hH : (callW (wA.new x (.ins (C.G.cls c) dx [])) (.ow (.ins c []) :: ts.map .fz) (.ref x :: vs)).H = upd (upd w1.H dx (.own x)) x (.ins (C.G.cls c) dx []) := by
        show upd (upd w2.H dx (.own x)) x _ = _
        rw [e2]
      refine ⟨_, _, hH, pq.call S5, ?_⟩
      rw [hcal]
      intro w' v S' x' rr
      have S3 := call_back pq S5 x' S'
      have x3 := call_ex pq x'
      obtain ⟨a, ea, ro, la⟩ := S'.sl 0 _ rfl
      have ea' : a = x := by
        have : (some (some (V.ref x)) : Option (Option V)) = some (some (.ref a)) := ea
        cases this
        rfl
      subst ea'
      refine ⟨by cases rr; rfl, ?_⟩
      have mo5 : Mo w' (backW (wA.new a (.ins (C.G.cls c) dx [])) w' (.ow (.ins c []) :: ts.map .fz) (.ref a :: vs)) := mo_same rfl rfl
      exact q1 (backW (wA.new a (.ins (C.G.cls c) dx [])) w' (.ow (.ins c []) :: ts.map .fz) (.ref a :: vs)) (.ref a) S3 (x1.trans (x2.trans (x5.trans x3))) ⟨a, rfl, ro.mono mo5 rfl, .inr la, call_off pq S5 x' la⟩
    · exact q1.elim
theorem n_mk0 {ex : Expr} {c f : Nat} {pm : List Nat} {es : Es} {pmv : List V → List V} (hpm : ∀ {w : Wd} {ts : List T} {vs : List V}, RFs C.G w ts vs → RFs C.G w (pmT pm ts) (pmv vs)) (hp : PE X ex (tMkP (C.G.cls c) (spM C.G cal f) pmv EF (rdDs C (evDs cal es)))) : PE X ex (rdE C (evE cal (.mk c f pm es))) :=
  PE.imp hp fun σ H Q q => rd_mk0 hpm q
theorem st_stf {st : Stmt} {i c : Nat} {f : Str} {e : E} (hc : Cls C.G.K (C.G.cls c)) (hn : NoAttr C.G.K (C.G.cls c) f) (h : PS X st (sFld C.G.K (tVar i) (rdD C (opdF (evE cal e))) f)) : PS X st (rdSt C (evS cal L (.stf i c f e))) := PS.imp h fun D σ H ⟨w, m, eH, P, q⟩ => by
  rw [evS, FSat_ofR] at q
  refine ⟨w, m, eH, P, ?_⟩
  rw [opdF, Res.sat_bind]
  refine Res.sat_mono q fun r m1 q1 w1 v S1 x1 r1 => ?_
  cases h1 : esc m1 r.opd with
  | none => rw [h1] at q1; exact q1.elim
  | some pr =>
    obtain ⟨t, m2⟩ := pr
    rw [h1] at q1
    simp only at q1
    obtain ⟨w2, e2, S2, x2, r2⟩ := S1.esc r1 h1
    cases h2 : m2[i]? with
    | none => rw [h2] at q1; exact q1.elim
    | some s =>
      rw [h2] at q1
      have sl := S2.sl i s h2
      cases s with
      | no => exact q1.elim
      | fz t => exact q1.elim
      | ow o =>
        cases o with
        | lst k => exact q1.elim
        | dic k => exact q1.elim
        | ins c' fs =>
          obtain ⟨a, ea, ro, la⟩ := sl
          simp only at q1
          split at q1
          · rename_i hcc
            obtain ⟨rfl, hlt⟩ := hcc
            obtain ⟨dx, gs, hv, rs⟩ := ro.ins_inv
            have nf := S2.sep a la
            obtain ⟨S3, x3⟩ := S2.write (u := .ins (C.G.cls c') dx (putF f v gs)) (o' := .ins c' (putS f t fs)) h2 ea (.ins upd_same (RFf.mono (Mo.poke nf) (RFf.put r2 rs)))
            refine ⟨_, ea, a, _, dx, gs, rfl, by rw [← e2]; exact hv, hc, hn, by rw [← rs.length]; exact hlt, ?_⟩
            rw [← e2]
            exact q1 (w2.wr a (.ins (C.G.cls c') dx (putF f v gs))) σ (P.step S3 (x1.trans (x2.trans x3))) (x1.trans (x2.trans x3))
          · exact q1.elim
theorem st_nev {st : Stmt} : PS X st (rdSt C (evS cal L .nev)) := PS.imp ps_never fun D σ H ⟨w, m, eH, P, q⟩ => by
  rw [evS] at q
  exact q
end
end Mi
set_option maxHeartbeats 2000000
namespace MiP
open PySem PySem.Spec PyProof.Rows
section
variable {prog : Program} {w : World} {A : Around} {E : Value → Shared → Prop} {s : Shared} {K : PySem.W.Frag} {x C f : Addr} {ox : Obj} {od : Option Obj} {v t : Value}
/-- the right one is no other kind of the left one's class -/
def Beside (K : PySem.W.Frag) (C : Addr) (t : Value) : Prop := t = .ref C ∨ PySem.W.subIn K t (.ref C) = some false
theorem own_eq {Q : Value → Shared → Prop} (hu : A.units < cLine) (X : K.In s.heap) (I : PySem.W.InstAt s.heap x ox C od) (hs : PySem.W.findIn K (.ref C) "__eq__" = some (some (.ref f))) (hf : PySem.W.isFn K (.ref f) = true)
    (ht : ∀ M, PySem.W.Looks M s.heap (typeOf v) t) (hb : Beside K C t) (h : wpAny (model prog w) A (call (.ref f) [.ref x, v]) (fun r s' => ∃ b, r = .bool b ∧ Q (.bool b) s') E s) : wpAny (model prog w) A (richCompare .Eq (.ref x) v) Q E s := by
  have one : wpAny (model prog w) A (tryCompare (.ref x) "__eq__" v) (fun r s' => ∃ b, r = some (.bool b) ∧ Q (.bool b) s') E s := by
    unfold tryCompare
    refine wpAny_bind (PySem.W.ifBound_K X I hs hf (wpAny_mono h (fun r s' hr => ?_) fun _ _ e => e))
    obtain ⟨b, rfl, q⟩ := hr
    exact wpAny_pure ⟨b, rfl, q⟩
  have two : ∀ k : Option Value → Sem Value, (∀ b s', Q (.bool b) s' → wpAny (model prog w) A (k (some (.bool b))) Q E s') → wpAny (model prog w) A (tryCompare (.ref x) "__eq__" v >>= k) Q E s := fun k hk =>
    wpAny_bind (wpAny_mono one (fun r s' hr => by
      obtain ⟨b, rfl, q⟩ := hr
      exact hk b s' q) fun _ _ e => e)
  simp only [richCompare, cmpInfo_Eq, oneThing_ref]
  refine wpAny_holding (wpAny_bind (wpAny_cRoomFor hu ?_))
  refine wpAny_bind (I.type.here ?_)
  refine wpAny_bind ((ht _).here ?_)
  split
  · rename_i hne
    have hb2 : PySem.W.subIn K t (.ref C) = some false := hb.resolve_left fun e => by
      subst e
      simp at hne
    refine wpAny_bind ((PySem.W.looks_subIn X hb2).here ?_)
    simp only [Bool.false_eq_true, if_false]
    exact two _ fun b s' q => wpAny_pure q
  · refine wpAny_bind (wpAny_pure ?_)
    simp only [Bool.false_eq_true, if_false]
    exact two _ fun b s' q => wpAny_pure q
theorem ne_entry {Q : Fin → Shared → Prop} (hu : A.units < cLine) (X : K.In s.heap) (I : PySem.W.InstAt s.heap x ox C od) (hs : PySem.W.findIn K (.ref C) "__eq__" = some (some (.ref f))) (hf : PySem.W.isFn K (.ref f) = true)
    (h : wpAny (model prog w) A (call (.ref f) [.ref x, v]) (fun r s' => ∃ b, r = .bool b ∧ Q (.done (.ret (.bool (!b)))) s') E s) : wpAny (model prog w) A (Builtin.«object.__ne__» ⟨[.ref x, v], []⟩) Q E s := by
  unfold Builtin.«object.__ne__»
  repeat (first
    | with_reducible refine wpAny_cRoomFor hu ?_
    | (refine wpAny_bind (m := callSpecialIfBound? (.ref x) (Str.ofString "__eq__") [v])
        (PySem.W.ifBound_K X I hs hf (wpAny_mono h (fun r s' hr => by
          obtain ⟨b, rfl, hq⟩ := hr
          repeat (first | exact hq | exact wpAny_pure hq | exact wpAny_truthy_bool hq | (refine wpAny_bind (m := truthy (.bool _)) (wpAny_truthy_bool ?_)) | wp_step)) fun _ _ e => e)))
    | wp_step)
theorem ifBound_objNe {M : Model} {args : List Value} {Q : Option Value → Shared → Prop} (X : K.In s.heap) (I : PySem.W.InstAt s.heap x ox C od) (hs : PySem.W.findIn K (.ref C) "__ne__" = some (some (.builtin "object.__ne__")))
    (h : wpAny M A (call (.builtin "object.__ne__") (.ref x :: args)) (fun v => Q (some v)) E s) : wpAny M A (callSpecialIfBound? (.ref x) "__ne__" args) Q E s := by
  simp only [callSpecialIfBound?, bindSpecialIfBound?]
  refine wpAny_holding (wpAny_bind (wpAny_bind (wpAny_bind (I.type.here ((PySem.W.looks_findIn X hs).here ?_)))))
  refine wpAny_bind (wpAny_askSetting (wpAny_ite ?_))
  have fin' : wpAny M A (call (.builtin "object.__ne__") ([.ref x] ++ args) >>= fun v => pure (some v)) Q E s := wpAny_bind (wpAny_mono h (fun v s' h' => wpAny_pure h') fun _ _ h' => h')
  split
  · refine wpAny_bind (wpAny_of_eq (F.cmp_object.ne.bind _) (wpAny_pure ?_)); exact fin'
  · refine wpAny_tryCatch (wpAny_bind (wpAny_of_eq (F.cmp_object.ne.bind _) (wpAny_pure ?_))); exact fin'
theorem own_ne {Q : Value → Shared → Prop} (hu : A.units + 1 < cLine) (X : K.In s.heap) (I : PySem.W.InstAt s.heap x ox C od) (hs : PySem.W.findIn K (.ref C) "__eq__" = some (some (.ref f))) (hf : PySem.W.isFn K (.ref f) = true)
    (hn : PySem.W.findIn K (.ref C) "__ne__" = some (some (.builtin "object.__ne__"))) (hm : PySem.W.mroIn K C (.type "object") = some true)
    (ht : ∀ M, PySem.W.Looks M s.heap (typeOf v) t) (hb : Beside K C t) (h : wpAny (model prog w) A.in1 (call (.ref f) [.ref x, v]) (fun r s' => ∃ b, r = .bool b ∧ Q (.bool (!b)) s') E s) : wpAny (model prog w) A (richCompare .NotEq (.ref x) v) Q E s := by
  have one : wpAny (model prog w) A (tryCompare (.ref x) "__ne__" v) (fun r s' => ∃ b, r = some (.bool b) ∧ Q (.bool b) s') E s := by
    unfold tryCompare
    refine wpAny_bind (ifBound_objNe X I hn (wpAny_call (codeAny_call_builtin F.cmp_object.ne.plain F.cmpEntry_ne (PySem.W.check_slot F.cmpKind_ne F.cmpSplit_ne (I.type.andThen (PySem.W.looks_mroIn X hm)) (F.cmpArgs_ne _ _)
      (ne_entry (A := A.in1) hu X I hs hf (wpAny_mono h (fun r s' hr => ?_) fun _ _ e => e))))))
    obtain ⟨b, rfl, q⟩ := hr
    exact ⟨b, rfl, wpAny_pure ⟨_, rfl, q⟩⟩
  have two : ∀ k : Option Value → Sem Value, (∀ b s', Q (.bool b) s' → wpAny (model prog w) A (k (some (.bool b))) Q E s') → wpAny (model prog w) A (tryCompare (.ref x) "__ne__" v >>= k) Q E s := fun k hk =>
    wpAny_bind (wpAny_mono one (fun r s' hr => by
      obtain ⟨b, rfl, q⟩ := hr
      exact hk b s' q) fun _ _ e => e)
  simp only [richCompare, cmpInfo_NotEq, oneThing_ref]
  refine wpAny_holding (wpAny_bind (wpAny_cRoomFor (Nat.lt_of_succ_lt hu) ?_))
  refine wpAny_bind (I.type.here ?_)
  refine wpAny_bind ((ht _).here ?_)
  split
  · rename_i hne
    have hb2 : PySem.W.subIn K t (.ref C) = some false := hb.resolve_left fun e => by
      subst e
      simp at hne
    refine wpAny_bind ((PySem.W.looks_subIn X hb2).here ?_)
    simp only [Bool.false_eq_true, if_false]
    exact two _ fun b s' q => wpAny_pure q
  · refine wpAny_bind (wpAny_pure ?_)
    simp only [Bool.false_eq_true, if_false]
    exact two _ fun b s' q => wpAny_pure q
end
end MiP

namespace Mi
open PySem PySem.Spec PyProof.Rows L2
/-- what the text's class must have, for isinstance and == -/
structure ClX (K : PySem.W.Frag) (C : Addr) : Prop where
  cl : Cls K C
  ha : PySem.W.findIn K (.ref C) "__class__" = some (some (.builtin "object.__class__"))
  hn : PySem.W.specialIn K (.builtin "object.__class__") "__get__" = some (some (.builtin "getset_descriptor.__get__"))
  htk : PySem.W.takesIn K (.builtin "object.__class__") = some true
  hm : PySem.W.mroIn K C (.type "object") = some true
theorem passEF {X : Cx} : Passes (L2.CX X.prog X.w) X EF := fun _ _ _ _ _ _ _ h => by
  obtain ⟨_, _, _, _, _, _, _, _, _, _, _, _, z⟩ := h
  exact z.elim
section
variable {X : Cx} {k : Nat} {f C : Addr} {fd : FuncData} {ps : List Str} {sp : Sp}
/-- a call one level into a builtin -/
theorem run_fn1 {CX : CXT} {E : XK} {pins : List (Addr × Obj)} {σ : St} {H : Hp} {s : Shared} {Q : VK} {us : List Value} {vs : List V} (F : FnOk X.prog X.w X.K X.mg X.base CX k f fd ps sp) (hr : Room (k + 1) X.A) (hb : Binds X.K fd ps []) (hx : Passes CX X E)
    (I : Inv X pins σ H s) (r : Vals vs us) (h : sp vs H Q E) : wpAny (model X.prog X.w) X.A.in1 (call (.ref f) us) (EP X pins σ Q) X.xe s := by
  have hl : us.length = ps.length := by rw [← r.length]; exact F.len _ _ _ _ h
  have b := hb s us I.kIn (by rw [List.append_nil]; exact hl)
  rw [List.append_nil] at b
  refine wpAny_call (codeAny_mono (F.run X.A.in1 X.stack s H ⟨us, []⟩ us vs Q E hr.in1 I.env0.in1 b r h) fun r s' hq => ?_)
  cases r with
  | error e => exact hx pins σ H s e s' I hq
  | ok fl =>
    cases fl with
    | ret u => exact I.after hq
    | next => exact False.elim hq
    | brk => exact False.elim hq
    | cont => exact False.elim hq
def rOwn (K : PySem.W.Frag) (C : Addr) (sp : Sp) (neg : Bool) : R2 := fun x y H Q => ∃ a dx fs t, x = .ref a ∧ H a = some (.ins C dx fs) ∧ TyX K H y t ∧ MiP.Beside K C t ∧ sp [x, y] H (fun v H' => ∃ b, v = .bl b ∧ Q (.bl (if neg = true then !b else b)) H') EF
theorem op_ownEq (hm : Meth X.K C "__eq__" f) (F : FnOk X.prog X.w X.K X.mg X.base (L2.CX X.prog X.w) k f fd ps sp) (hr : Room k X.A) (hb : Binds X.K fd ps []) : OpR X (compareOp .Eq) (rOwn X.K C sp false) := by
  intro pins s σ H x y v u Q I rx ry h
  obtain ⟨a, dx, fs, t, rfl, ea, ty, bs, q⟩ := h
  have rx' := rx
  cases rx
  obtain ⟨mA, O, _⟩ := ins_get I.hok ea
  obtain ⟨od, J, _⟩ := O.look
  obtain ⟨P, Z, p, _⟩ := kit_of I ry ty
  have hu : X.A.units < cLine := by have := hr.un; omega
  refine PySem.W.cmp_ofEq (MiP.own_eq hu I.kIn J hm.at_ hm.fn (fun M => Z.ty M _ I.kIn p) bs (thn (run_fn (dvs := []) (ds := []) F hr hb .nil passEF I (.cons rx' (.cons ry .nil)) (by rw [List.append_nil]; exact q)) fun r s' hh => ?_))
  obtain ⟨v', H', I', rv, b, e, q'⟩ := hh
  subst e
  cases rv
  exact ⟨b, rfl, .bl b, H', I', rfl, q'⟩
theorem op_ownNe (hm : Meth X.K C "__eq__" f) (hn : PySem.W.findIn X.K (.ref C) "__ne__" = some (some (.builtin "object.__ne__"))) (ho : PySem.W.mroIn X.K C (.type "object") = some true) (F : FnOk X.prog X.w X.K X.mg X.base (L2.CX X.prog X.w) k f fd ps sp) (hr : Room (k + 1) X.A) (hb : Binds X.K fd ps []) : OpR X (compareOp .NotEq) (rOwn X.K C sp true) := by
  intro pins s σ H x y v u Q I rx ry h
  obtain ⟨a, dx, fs, t, rfl, ea, ty, bs, q⟩ := h
  have rx' := rx
  cases rx
  obtain ⟨mA, O, _⟩ := ins_get I.hok ea
  obtain ⟨od, J, _⟩ := O.look
  obtain ⟨P, Z, p, _⟩ := kit_of I ry ty
  have hu : X.A.units + 1 < cLine := by have := hr.un; omega
  refine PySem.W.cmp_ofNotEq (MiP.own_ne hu I.kIn J hm.at_ hm.fn hn ho (fun M => Z.ty M _ I.kIn p) bs (thn (run_fn1 F hr hb passEF I (.cons rx' (.cons ry .nil)) q) fun r s' hh => ?_))
  obtain ⟨v', H', I', rv, b, e, q'⟩ := hh
  subst e
  cases rv
  exact ⟨b, rfl, .bl (!b), H', I', rfl, q'⟩
end
section
variable {G : Gm}
theorem sub_ty {K : PySem.W.Frag} {C : Addr} {n : String} {l : List Value} (e : fastBuiltinMro n = some l) (h : l.contains (.ref C) = false) : PySem.W.subIn K (.type n) (.ref C) = some false := by
  show (fastBuiltinMro n).map (·.contains (.ref C)) = some false
  rw [e]
  show some (l.contains (.ref C)) = some false
  rw [h]
theorem beside_ty {K : PySem.W.Frag} {C : Addr} {t : T} (h : ∀ c fs, t ≠ .ins c fs) : MiP.Beside K C (.type (tyT t)) := by
  have go : ∀ {n : String} {l : List Value}, fastBuiltinMro n = some l → (∀ x ∈ l, ∀ C, x ≠ .ref C) → MiP.Beside K C (.type n) := fun {n l} e hl => .inr (sub_ty e (by
    rw [List.contains_eq_any_beq, List.any_eq_false]
    intro x hx
    simpa using fun z => hl x hx C z.symm))
  cases t with
  | ins c fs => exact absurd rfl (h c fs)
  | non => exact go (n := "NoneType") (l := [.type "NoneType", .type "object"]) (by decide +kernel) (by simp)
  | bl b => exact go (n := "bool") (l := [.type "bool", .type "int", .type "object"]) (by decide +kernel) (by simp)
  | int i => exact go (n := "int") (l := [.type "int", .type "object"]) (by decide +kernel) (by simp)
  | str s => exact go (n := "str") (l := [.type "str", .type "object"]) (by decide +kernel) (by simp)
  | lst xs => exact go (n := "list") (l := [.type "list", .type "object"]) (by decide +kernel) (by simp)
  | tup xs => exact go (n := "tuple") (l := [.type "tuple", .type "object"]) (by decide +kernel) (by simp)
  | dic xs => exact go (n := "dict") (l := [.type "dict", .type "object"]) (by decide +kernel) (by simp)
  | scr xs => exact go (n := "list") (l := [.type "list", .type "object"]) (by decide +kernel) (by simp)
theorem beside_of {w : Wd} {c : Nat} {t : T} {v : V} (cx : ClX G.K (G.cls c)) (r : RA G w t v) (h : besideT c (some t) = true) : ∃ ty, TyX G.K w.H v ty ∧ MiP.Beside G.K (G.cls c) ty := by
  by_cases hi : ∃ c' fs, t = .ins c' fs
  · obtain ⟨c', fs, rfl⟩ := hi
    have e : c' = c := of_decide_eq_true h
    subst e
    obtain ⟨a, dx, gs, rfl, h1, _⟩ := r.ins
    exact ⟨.ref (G.cls c'), .base (.ins h1 cx.cl cx.ha cx.hn cx.htk cx.hm), .inl rfl⟩
  · have nt : ∀ c fs, t ≠ .ins c fs := fun c' fs e => hi ⟨c', fs, e⟩
    exact ⟨_, r.ty nt, beside_ty nt⟩
end
section
variable {C : Ct} {X : Cx} {cal : Nat → List Slot → CRes}
theorem rd_ceq {neg : Bool} {c f : Nat} {a b : E} {r : R2} {σ : St} {H : Hp} {Q : VK} (cx : ClX C.G.K (C.G.cls c)) (ok : OpOk2 C.G (if neg = true then .ne else .eq) r) (h : rdE C (evE cal (.ceq neg c f a b)) σ H Q) :
    tOp (fun x y H Q => rOwn C.G.K (C.G.cls c) (spM C.G cal f) neg x y H Q ∨ r x y H Q) (rdD C (opdF (evE cal a))) (rdD C (opdF (evE cal b))) σ H Q := by
  obtain ⟨w, m, e, P, q⟩ := h
  rw [evE, Res.sat_bind] at q
  refine ⟨w, m, e, P, ?_⟩
  rw [opdF, Res.sat_bind]
  refine Res.sat_mono q fun ra m1 q1 w1 v1 S1 x1 r1 => ?_
  rw [Res.sat_bind] at q1
  refine ⟨w1, m1, rfl, P.step S1 x1, ?_⟩
  rw [opdF, Res.sat_bind]
  refine Res.sat_mono q1 fun rb m2 q2 w2 v2 S2 x2 r2 => ?_
  split at q2
  · rename_i c' fs hd
    split at q2
    · rename_i hcc
      obtain ⟨rfl, hbs⟩ := hcc
      obtain ⟨p, dx, gs, rfl, h1, h2⟩ := (S2.der (r1.mono x2.mo) hd).ins
      cases hd2 : der m2 rb.opd with
      | none => rw [hd2] at hbs; cases hbs
      | some t2 =>
        rw [hd2] at hbs
        obtain ⟨ty, g1, g2⟩ := beside_of cx (S2.der r2 hd2) hbs
        refine .inl ⟨p, dx, gs, ty, rfl, h1, g1, g2, ?_⟩
        rw [Res.sat_bind] at q2
        refine call_quiet ((P.step S1 x1).step S2 x2) (.cons (r1.mono x2.mo) (.cons r2 .nil)) (Res.sat_mono q2 fun r m3 q3 w3 v3 S3 x3 r3 => ?_)
        cases r with
        | ow o => exact q3.elim
        | bo k => exact q3.elim
        | fz t =>
          cases t <;> try (exact q3.elim)
          case bl k =>
            cases r3
            exact ⟨k, rfl, q3 w3 _ S3 (x1.trans (x2.trans x3)) (.bl _)⟩
    · exact q2.elim
  · obtain ⟨ts, res, h1, h2, h3⟩ := opR_sat q2
    obtain ⟨t1, t2, rfl, g1, g2⟩ := ders2 h1
    exact .inr (ok w2 m2 σ t1 t2 v1 v2 res Q S2 (S2.der (r1.mono x2.mo) g1) (S2.der r2 g2) h2 fun w' v S' x' r' => h3 w' v S' (x1.trans (x2.trans x')) r')
theorem n_ceq {ex ea eb : Expr} {neg : Bool} {c f : Nat} {a b : E} {r : R2} (hp : ∀ ta tb, PE X ea ta → PE X eb tb → PE X ex (tOp (fun x y H Q => rOwn C.G.K (C.G.cls c) (spM C.G cal f) neg x y H Q ∨ r x y H Q) ta tb)) (cx : ClX C.G.K (C.G.cls c)) (ok : OpOk2 C.G (if neg = true then .ne else .eq) r)
    (ha : PE X ea (rdE C (evE cal a))) (hb : PE X eb (rdE C (evE cal b))) : PE X ex (rdE C (evE cal (.ceq neg c f a b))) := PE.imp (hp _ _ (pe_opd ha) (pe_opd hb)) fun σ H Q q => rd_ceq cx ok q
theorem t_ceq {ex ea eb : Expr} {neg : Bool} {c f : Nat} {a b : E} {r : R2} (hp : ∀ ta tb, PE X ea ta → PE X eb tb → PT X ex (tTest (tOp (fun x y H Q => rOwn C.G.K (C.G.cls c) (spM C.G cal f) neg x y H Q ∨ r x y H Q) ta tb))) (cx : ClX C.G.K (C.G.cls c)) (ok : OpOk2 C.G (if neg = true then .ne else .eq) r)
    (ha : PE X ea (rdE C (evE cal a))) (hb : PE X eb (rdE C (evE cal b))) : PT X ex (rdB C (evE cal (.ceq neg c f a b))) := PT.imp (hp _ _ (pe_opd ha) (pe_opd hb)) fun σ H Q q => rd_ceq cx ok (rd_bool q)
end
end Mi
set_option maxHeartbeats 1000000
namespace Mi
open PySem PySem.Spec PyProof.Rows L2
/-! ### sorted lists of ints -/
theorem insS_perm (a : Int) : ∀ l : List Int, (insS a l).Perm (a :: l)
  | [] => .refl _
  | b :: r => by
    unfold insS
    split
    · exact .refl _
    · exact ((insS_perm a r).cons b).trans (.swap a b r)
theorem insS_srt (a : Int) : ∀ l : List Int, l.Pairwise (· ≤ ·) → (insS a l).Pairwise (· ≤ ·)
  | [], _ => List.pairwise_singleton _ _
  | b :: r, h => by
    unfold insS
    have hb := List.pairwise_cons.mp h
    split
    · rename_i hab
      refine List.pairwise_cons.mpr ⟨fun x hx => ?_, h⟩
      rcases List.mem_cons.mp hx with rfl | hx
      · exact hab
      · exact Int.le_trans hab (hb.1 x hx)
    · rename_i hab
      refine List.pairwise_cons.mpr ⟨fun x hx => ?_, insS_srt a r hb.2⟩
      rcases List.mem_cons.mp ((insS_perm a r).mem_iff.mp hx) with rfl | hx
      · omega
      · exact hb.1 x hx
theorem sortS_perm : ∀ l : List Int, (sortS l).Perm l
  | [] => .refl _
  | a :: r => (insS_perm a (sortS r)).trans ((sortS_perm r).cons a)
theorem sortS_srt : ∀ l : List Int, (sortS l).Pairwise (· ≤ ·)
  | [] => .nil
  | a :: r => insS_srt a _ (sortS_srt r)
theorem srt_one : ∀ {l k : List Int}, l.Perm k → l.Pairwise (· ≤ ·) → k.Pairwise (· ≤ ·) → l = k
  | [], k, p, _, _ => p.symm.eq_nil.symm
  | a :: r, [], p, _, _ => p.eq_nil
  | a :: r, b :: s, p, h, g => by
    have h1 := List.pairwise_cons.mp h
    have g1 := List.pairwise_cons.mp g
    have e : a = b := by
      have ha : b ≤ a := by
        rcases List.mem_cons.mp (p.mem_iff.mp List.mem_cons_self) with e | e
        · omega
        · exact g1.1 a e
      have hb : a ≤ b := by
        rcases List.mem_cons.mp (p.symm.mem_iff.mp List.mem_cons_self) with e | e
        · omega
        · exact h1.1 b e
      omega
    subst e
    rw [srt_one (p.cons_inv) h1.2 g1.2]
theorem mem_insU (a x : Int) : ∀ l : List Int, x ∈ insU a l ↔ x = a ∨ x ∈ l
  | [] => by simp [insU]
  | b :: r => by
    unfold insU
    split
    · exact List.mem_cons
    · split
      · rename_i e
        subst e
        simp
      · rw [List.mem_cons, mem_insU a x r, List.mem_cons]
        constructor
        · rintro (h | h | h)
          · exact .inr (.inl h)
          · exact .inl h
          · exact .inr (.inr h)
        · rintro (h | h | h)
          · exact .inr (.inl h)
          · exact .inl h
          · exact .inr (.inr h)
theorem insU_srt (a : Int) : ∀ l : List Int, l.Pairwise (· < ·) → (insU a l).Pairwise (· < ·)
  | [], _ => List.pairwise_singleton _ _
  | b :: r, h => by
    unfold insU
    have hb := List.pairwise_cons.mp h
    split
    · rename_i hab
      refine List.pairwise_cons.mpr ⟨fun x hx => ?_, h⟩
      rcases List.mem_cons.mp hx with rfl | hx
      · exact hab
      · exact Int.lt_trans hab (hb.1 x hx)
    · split
      · exact h
      · refine List.pairwise_cons.mpr ⟨fun x hx => ?_, insU_srt a r hb.2⟩
        rcases (mem_insU a x r).mp hx with rfl | hx
        · omega
        · exact hb.1 x hx
theorem mem_uniqS (x : Int) : ∀ l : List Int, x ∈ uniqS l ↔ x ∈ l
  | [] => Iff.rfl
  | a :: r => by rw [uniqS, mem_insU, mem_uniqS x r, List.mem_cons]
theorem uniqS_srt : ∀ l : List Int, (uniqS l).Pairwise (· < ·)
  | [] => .nil
  | a :: r => insU_srt a _ (uniqS_srt r)
theorem sto_one : ∀ {l k : List Int}, (∀ x, x ∈ l ↔ x ∈ k) → l.Pairwise (· < ·) → k.Pairwise (· < ·) → l = k
  | [], [], _, _, _ => rfl
  | [], b :: s, p, _, _ => nomatch (p b).mpr List.mem_cons_self
  | a :: r, [], p, _, _ => nomatch (p a).mp List.mem_cons_self
  | a :: r, b :: s, p, h, g => by
    have h1 := List.pairwise_cons.mp h
    have g1 := List.pairwise_cons.mp g
    have e : a = b := by
      have ha : b ≤ a := by
        rcases List.mem_cons.mp ((p a).mp List.mem_cons_self) with e | e
        · omega
        · exact Int.le_of_lt (g1.1 a e)
      have hb : a ≤ b := by
        rcases List.mem_cons.mp ((p b).mpr List.mem_cons_self) with e | e
        · omega
        · exact Int.le_of_lt (h1.1 b e)
      omega
    subst e
    rw [sto_one (fun x => ⟨fun hx => ?_, fun hx => ?_⟩) h1.2 g1.2]
    · rcases List.mem_cons.mp ((p x).mp (List.mem_cons_of_mem _ hx)) with e | e
      · have := h1.1 x hx; omega
      · exact e
    · rcases List.mem_cons.mp ((p x).mpr (List.mem_cons_of_mem _ hx)) with e | e
      · have := g1.1 x hx; omega
      · exact e
section
variable {G : Gm}
theorem intsT_v {w : Wd} : ∀ {ts : List T} {vs : List V} {ns : List Int}, RFs G w ts vs → intsT ts = some ns → vs = ns.map V.int
  | [], _, _, .nil, h => by cases h; rfl
  | t :: ts, _, ns, .cons (v := v) a b, h => by
    cases t <;> try (cases h; done)
    case int i =>
      rw [intsT] at h
      cases e : intsT ts with
      | none => rw [e] at h; cases h
      | some ms =>
        rw [e] at h
        cases h
        rw [intsT_v b e]
        cases a
        rfl
theorem seqI_v {w : Wd} {t : T} {v : V} {ns : List Int} (r : RA G w t v) (h : seqI t = some ns) : ∃ p, v = .ref p ∧ SqL G.K w.H p (ns.map V.int) := by
  cases t <;> try (cases h; done)
  case lst xs =>
    obtain ⟨p, vs, rfl, h1, rs⟩ := r.lst
    have := intsT_v rs h
    subst this
    exact ⟨p, rfl, .inl (.inl h1)⟩
  case scr ms =>
    obtain ⟨p, rfl, h1⟩ := r.scr
    cases h
    exact ⟨p, rfl, h1⟩
theorem ltc_tot : ∀ (a b : List Nat), PySem.Spec.ltCps a b = false → PySem.Spec.ltCps b a = false → a = b
  | [], [], _, _ => rfl
  | [], _ :: _, h, _ => by cases h
  | _ :: _, [], _, h => by cases h
  | a :: r, b :: t, h, g => by
    rw [PySem.Spec.ltCps, Bool.or_eq_false_iff, decide_eq_false_iff_not] at h g
    have e : a = b := by omega
    subst e
    rw [beq_self_eq_true, Bool.true_and] at h g
    rw [ltc_tot r t h.2 g.2]
theorem ltc_asym : ∀ (a b : List Nat), PySem.Spec.ltCps a b = true → PySem.Spec.ltCps b a = false
  | [], [], h => by cases h
  | [], _ :: _, _ => rfl
  | _ :: _, [], h => by cases h
  | a :: r, b :: t, h => by
    rw [PySem.Spec.ltCps, Bool.or_eq_true, decide_eq_true_eq, Bool.and_eq_true, beq_iff_eq] at h
    rw [PySem.Spec.ltCps, Bool.or_eq_false_iff, decide_eq_false_iff_not]
    rcases h with h | ⟨rfl, h⟩
    · refine ⟨by omega, ?_⟩
      rw [Bool.and_eq_false_iff]
      exact .inl (beq_eq_false_iff_ne.mpr (by omega))
    · refine ⟨by omega, ?_⟩
      rw [ltc_asym r t h, Bool.and_false]
theorem ltc_trans : ∀ (a b c : List Nat), PySem.Spec.ltCps b a = false → PySem.Spec.ltCps c b = false → PySem.Spec.ltCps c a = false
  | a, [], [], h, _ => h
  | [], [], c :: u, _, g => by cases c <;> rfl
  | _ :: _, [], _ :: _, h, _ => by cases h
  | [], b :: t, [], _, g => by cases g
  | _ :: _, _ :: _, [], _, g => by cases g
  | [], b :: t, c :: u, _, g => rfl
  | a :: r, b :: t, c :: u, h, g => by
    rw [PySem.Spec.ltCps, Bool.or_eq_false_iff, decide_eq_false_iff_not, Bool.and_eq_false_iff, beq_eq_false_iff_ne] at h g ⊢
    refine ⟨by omega, ?_⟩
    by_cases e : c = a
    · have e1 : b = a := by omega
      subst e
      subst e1
      exact .inr (ltc_trans r t u (h.2.resolve_left (fun z => z rfl)) (g.2.resolve_left (fun z => z rfl)))
    · exact .inl e
theorem leT_tot {a b : Str} (h : leT a b = false) : leT b a = true := by
  unfold leT at h ⊢
  rw [Bool.not_eq_false'] at h
  rw [ltc_asym _ _ h]
  rfl
theorem leT_anti {a b : Str} (h : leT a b = true) (g : leT b a = true) : a = b := by
  unfold leT at h g
  rw [Bool.not_eq_true'] at h g
  have := ltc_tot _ _ g h
  obtain ⟨⟨x⟩⟩ := a
  obtain ⟨⟨y⟩⟩ := b
  simp only at this
  rw [this]
theorem leT_trans {a b c : Str} (h : leT a b = true) (g : leT b c = true) : leT a c = true := by
  unfold leT at h g ⊢
  rw [Bool.not_eq_true'] at h g ⊢
  exact ltc_trans _ _ _ h g
theorem insT_perm (a : Str) : ∀ l : List Str, (insT a l).Perm (a :: l)
  | [] => .refl _
  | b :: r => by
    rw [insT]
    split
    · exact .refl _
    · exact ((insT_perm a r).cons b).trans (.swap a b r)
theorem sortT_perm : ∀ l : List Str, (sortT l).Perm l
  | [] => .refl _
  | a :: r => (insT_perm a (sortT r)).trans ((sortT_perm r).cons a)
theorem insT_srt (a : Str) : ∀ l : List Str, l.Pairwise (fun x y => leT x y = true) → (insT a l).Pairwise fun x y => leT x y = true
  | [], _ => List.pairwise_singleton _ _
  | b :: r, h => by
    rw [insT]
    have h1 := List.pairwise_cons.mp h
    split
    · rename_i hab
      refine List.pairwise_cons.mpr ⟨fun c hc => ?_, h⟩
      rcases List.mem_cons.mp hc with rfl | hc
      · exact hab
      · exact leT_trans hab (h1.1 c hc)
    · rename_i hab
      refine List.pairwise_cons.mpr ⟨fun c hc => ?_, insT_srt a r h1.2⟩
      rcases List.mem_cons.mp ((insT_perm a r).mem_iff.mp hc) with rfl | hc
      · exact leT_tot (Bool.eq_false_iff.mpr hab)
      · exact h1.1 c hc
theorem sortT_srt : ∀ l : List Str, (sortT l).Pairwise fun x y => leT x y = true
  | [] => .nil
  | a :: r => insT_srt a _ (sortT_srt r)
theorem srtT_one : ∀ {l k : List Str}, l.Perm k → (l.Pairwise fun x y => leT x y = true) → (k.Pairwise fun x y => leT x y = true) → l = k
  | [], k, p, _, _ => p.symm.eq_nil.symm
  | a :: r, [], p, _, _ => p.eq_nil
  | a :: r, b :: s, p, h, g => by
    have h1 := List.pairwise_cons.mp h
    have g1 := List.pairwise_cons.mp g
    have e : a = b := by
      rcases List.mem_cons.mp (p.mem_iff.mp List.mem_cons_self) with e | e
      · exact e
      · rcases List.mem_cons.mp (p.symm.mem_iff.mp List.mem_cons_self) with e2 | e2
        · exact e2.symm
        · exact leT_anti (h1.1 b e2) (g1.1 a e)
    subst e
    rw [srtT_one (List.Perm.cons_inv p) h1.2 g1.2]
theorem srtT_of : ∀ {l : List Str}, PyProof.Rows.sortedS l = true → l.Pairwise fun x y => leT x y = true
  | [], _ => .nil
  | a :: r, h => by
    have key : ∀ (p : Str) (r : List Str), PyProof.Rows.risingS p r = true → ((∀ x ∈ r, leT p x = true) ∧ (r.Pairwise fun x y => leT x y = true)) := by
      intro p r
      induction r generalizing p with
      | nil => intro _; exact And.intro (fun x hx => by cases hx) List.Pairwise.nil
      | cons x r ih =>
        intro h
        rw [PyProof.Rows.risingS, Bool.and_eq_true] at h
        obtain ⟨h1, h2⟩ := ih x h.2
        have hp : leT p x = true := h.1
        refine ⟨fun y hy => ?_, List.pairwise_cons.mpr ⟨h1, h2⟩⟩
        rcases List.mem_cons.mp hy with rfl | hy
        · exact hp
        · exact leT_trans hp (h1 y hy)
    exact List.pairwise_cons.mpr (key a r h)
def rSrtM (K : PySem.W.Frag) : List V → Hp → VK → Prop := fun xs H Q => rSortedI K xs H Q ∨ rSortedS K xs H Q
theorem cr_srtM {X : Cx} : CallR X (.builtin "sorted") (rSrtM X.K) := by
  intro pins s σ H xs us Q I r q
  exact q.elim (cr_sortedI pins s σ H xs us Q I r) (cr_sortedS pins s σ H xs us Q I r)
theorem rfs_strs {w : Wd} : ∀ (ys : List Str), RFs G w (ys.map T.str) (ys.map V.str)
  | [] => .nil
  | y :: r => .cons (.str y) (rfs_strs r)
theorem okSrt : OpOk1 G .srt (fun x H Q => rSrtM G.K [x] H Q) := fun w m σ t1 v1 res Q S a h k => by
  replace h : srtF t1 = some res := h
  unfold srtF at h
  cases e : seqI t1 with
  | none =>
    rw [e] at h
    cases t1 <;> try (cases h; done)
    case lst xs =>
      simp only at h
      cases e2 : strsT xs with
      | none => rw [e2] at h; cases h
      | some ys =>
        rw [e2] at h
        simp only [Option.bind_some] at h
        split at h
        · rename_i hl
          cases h
          obtain ⟨p, vs, rfl, h1, r⟩ := a.lst
          have := r.strs' e2
          subst this
          refine .inr ⟨p, ys, rfl, .inl (.inl h1), hl, fun ys' q pm sr hq => ?_⟩
          rw [srtT_one (pm.trans (sortT_perm ys).symm) (srtT_of sr) (sortT_srt ys)]
          exact k.lst S (rfs_strs _) q hq
        · cases h
  | some ns =>
    rw [e] at h
    cases h
    obtain ⟨p, rfl, hp⟩ := seqI_v a e
    refine .inl ⟨p, ns, rfl, hp, fun ns' q pm sr hq => ?_⟩
    rw [srt_one (pm.trans (sortS_perm ns).symm) sr (sortS_srt ns)]
    exact k.lst S (RFs.of_ints _) q hq
def rSplM (b : Str) : V → Hp → VK → Prop := fun x H Q => (∃ a, x = .str a) ∧ ∃ a b', x = .str a ∧ [V.str b] = [V.str b'] ∧ (b'.length == 0) = false ∧ a.length + 2 ≤ sizeLine ∧ rNewStrs (Txt.split a b') H Q
theorem okSplit {b : Str} : OpOk1 G (.split b) (rSplM b) := fun w m σ t1 v1 res Q S a h k => by
  replace h : splF b t1 = some res := h
  cases t1 <;> try (cases h; done)
  case str z =>
    unfold splF at h
    simp only at h
    split at h
    · rename_i hh
      cases h
      cases a.str
      exact ⟨⟨z, rfl⟩, z, b, rfl, rfl, hh.1, hh.2, fun q hq => k.lst S (rfs_strs _) q hq⟩
    · cases h
/-- sorted(set(xs)) -/
def rUniq (K : PySem.W.Frag) (wo : World) : V → Hp → VK → Prop := fun x H Q => MiP.rSetI K wo [x] H fun y H1 => rSortedSet wo [y] H1 Q
theorem okUniq {wo : World} : OpOk1 G .uniq (rUniq G.K wo) := fun w m σ t1 v1 res Q S a h k => by
  replace h : uniqF t1 = some res := h
  unfold uniqF at h
  cases e : seqI t1 with
  | none => rw [e] at h; cases h
  | some ns =>
    rw [e] at h
    simp only [Option.bind_some] at h
    split at h
    · rename_i hl
      cases h
      obtain ⟨p, rfl, hp⟩ := seqI_v a e
      refine ⟨p, ns, rfl, hp, by omega, fun b n hb hn => ⟨b, _, n, rfl, upd_same, by omega, fun ns' q sr mem len hq => ?_⟩⟩
      have e1 : ns' = uniqS ns := sto_one (fun x => by rw [mem x, mem_uniqS, decide_eq_true_eq]) sr (uniqS_srt ns)
      subst e1
      exact After.lst (w := w.new b (SetO wo b (fun j => decide (j ∈ ns)) n)) (fun w' v S' x' r' => k w' v S' ((Ex.new S.trk hb).trans x') r') (S.new hb) (RFs.of_ints _) q hq
    · cases h
def rTupM (K : PySem.W.Frag) : List V → Hp → VK → Prop := fun xs H Q => ∃ p ys, xs = [.ref p] ∧ ((SqL K H p ys ∧ ∀ l, H l = none → Q (.ref l) (upd H l (.tup ys))) ∨ (SqT K H p ys ∧ Q (.ref p) H))
theorem okTuple : OpOk1 G .tuple (fun x H Q => rTupM G.K [x] H Q) := fun w m σ t1 v1 res Q S a h k => by
  replace h : tupF t1 = some res := h
  cases t1 <;> try (cases h; done)
  case lst xs =>
    obtain ⟨p, vs, rfl, h1, r⟩ := a.lst
    cases h
    exact ⟨p, vs, rfl, .inl ⟨.inl (.inl h1), k.tup S r⟩⟩
  case tup xs =>
    obtain ⟨p, vs, e, h1, r⟩ := a.tup
    cases h
    rcases a.cases' with a | ⟨o, q, e2, e3, ro⟩
    · subst e
      exact ⟨p, vs, rfl, .inr ⟨h1, k.fz S a⟩⟩
    · cases o <;> cases e2
end
/-! ### the calls -/
section
variable {C : Ct} {X : Cx} {k : Nat} {cal : Nat → List Slot → CRes} {pos p1 p2 : Pos}
theorem x_sorted (c : XC C X k) {a : Expr} {ea : E} (hm : Fr X "sorted") (ha : PE X a (rdE C (evE cal ea))) (hg : Gl X "sorted" := by rfl) (hs : starEach [a] X.env = (false, eval a X.env) :: starEach [] X.env := by rfl) : PE X (.Call (.Name "sorted" p1) [a] [] pos) (rdE C (evE cal (.op .srt (.cons ea .nil)))) :=
  x_bi (r := rSrtM C.G.K) (by rw [c.K]; exact cr_srtM) (by rfl) okSrt hm hg (by decide) (by decide) hs ha
theorem x_split {b : Str} {a e : Expr} {ea : E} (ha : PE X a (rdE C (evE cal ea))) (hb : PE X e (tC (.str b))) (hs : starEach [e] X.env = [(false, eval e X.env)] := by rfl) (hbase : attributeBase a "split" X.env (eval a X.env) = eval a X.env := by rfl) (hline : (p1.endLine == pos.line) = true := by rfl) :
    PE X (.Call (.Attribute a "split" p1) [e] [] pos) (rdE C (evE cal (.op (.split b) (.cons ea .nil)))) :=
  n_op1 (r := rSplM b) (fun ta h => pe_split h hb hs hbase hline) okSplit ha
theorem x_tuple (c : XC C X k) {a : Expr} {ea : E} (hm : Fr X "tuple") (ha : PE X a (rdE C (evE cal ea))) (hg : Gl X "tuple" := by rfl) (hs : starEach [a] X.env = (false, eval a X.env) :: starEach [] X.env := by rfl) : PE X (.Call (.Name "tuple" p1) [a] [] pos) (rdE C (evE cal (.op .tuple (.cons ea .nil)))) :=
  x_ty (r := rTupM C.G.K) (by rw [c.K]; exact call_tuple_of) (by rfl) okTuple hm hg (by decide) (by decide) hs ha
theorem x_uniq (c : XC C X k) {a : Expr} {ea : E} (hm : Fr X "sorted") (hm2 : Fr X "set") (ha : PE X a (rdE C (evE cal ea))) (hg : Gl X "sorted" := by rfl) (hg2 : Gl X "set" := by rfl) (hs : starEach [a] X.env = (false, eval a X.env) :: starEach [] X.env := by rfl)
    (hs2 : starEach [.Call (.Name "set" p2) [a] [] pos] X.env = (false, eval (.Call (.Name "set" p2) [a] [] pos) X.env) :: starEach [] X.env := by rfl) {pos' : Pos} : PE X (.Call (.Name "sorted" p1) [.Call (.Name "set" p2) [a] [] pos] [] pos') (rdE C (evE cal (.op .uniq (.cons ea .nil)))) :=
  n_op1 (r := rUniq C.G.K X.w) (fun ta h => PE.imp (pe_callB (cr_sortedSet c.calm) hg hm (by rfl) (pa_cons (pe_callTy (by rw [c.K]; exact MiP.cr_setI c.calm) hg2 hm2 (by rfl) (pa_cons h pa_nil hs) (by decide) (by decide) hs (by rfl)) pa_nil hs2) (by decide) (by decide) hs2 (by rfl)) fun _ _ _ q => q) okUniq ha
end
end Mi
set_option maxHeartbeats 2000000
namespace MiP
open PySem PySem.Spec PyProof.Rows
section
variable {prog : Program} {w : World} {A : Around} {E : Value → Shared → Prop} {s : Shared} {K : PySem.W.Frag} {x C f : Addr} {ox : Obj} {od : Option Obj}
theorem own_repr {Q : Value → Shared → Prop} (hu : A.in1.units < cLine) (X : K.In s.heap) (I : PySem.W.InstAt s.heap x ox C od) (hs : PySem.W.findIn K (.ref C) "__repr__" = some (some (.ref f))) (hf : PySem.W.isFn K (.ref f) = true)
    (h : wpAny (model prog w) A.in1 (call (.ref f) [.ref x]) (fun r s' => ∃ a t, r = .str a t ∧ Q (.str a t) s') E s) : wpAny (model prog w) A (call (.builtin "repr") [.ref x]) Q E s := by
  refine Calls.call_function_entry PySem.F.kind_repr PySem.F.plain_repr PySem.F.entry_repr (PySem.F.args_repr1 _) ?_
  unfold Builtin.«repr»
  refine wpAny_bind (m := oneArg "repr" _) (wpAny_pure (wpAny_bind (wpAny_cRoomFor hu ?_)))
  refine wpAny_bind (wpAny_bind (I.type.here ((PySem.W.looks_findIn X hs).here ?_)))
  show wpAny _ _ (if (some (Value.ref f)).isNone = true then _ else _) _ _ _
  rw [if_neg (by simp)]
  refine wpAny_bind (m := callSpecialIfBound? (.ref x) (Str.ofString "__repr__") _) (PySem.W.ifBound_K X I hs hf (wpAny_mono h (fun r s' hr => ?_) fun _ _ e => e))
  obtain ⟨a, t, rfl, q⟩ := hr
  refine wpAny_bind (wpAny_isInstance (typeIs_str _ _ _) isSubtype_str_str ?_)
  first
    | exact wpAny_pure ⟨_, rfl, q⟩
    | (rw [if_pos rfl]; exact wpAny_pure ⟨_, rfl, q⟩)
    | (simp only [if_true]; exact wpAny_pure ⟨_, rfl, q⟩)
theorem own_bool {M : Model} {Q : Bool → Shared → Prop} (X : K.In s.heap) (I : PySem.W.InstAt s.heap x ox C od) (hs : PySem.W.findIn K (.ref C) "__bool__" = some (some (.ref f))) (hf : PySem.W.isFn K (.ref f) = true)
    (h : wpAny M A (call (.ref f) [.ref x]) (fun r s' => ∃ b, r = .bool b ∧ Q b s') E s) : wpAny M A (truthy (.ref x)) Q E s := by
  unfold truthy
  refine wpAny_bind (m := callSpecial? (.ref x) (Str.ofString "__bool__")) (PySem.W.special_fn X I hs (beq_iff_eq.mp hf) (wpAny_mono h (fun r s' hr => ?_) fun _ _ e => e))
  obtain ⟨b, rfl, q⟩ := hr
  exact wpAny_pure q
theorem new_bool (hs : PySem.W.findIn K (.ref C) "__bool__" = some (some (.ref f))) (hf : PySem.W.isFn K (.ref f) = true) : MeetsIn prog w (Builtin.«bool.__new__» ⟨[.type "bool", .ref x], []⟩)
    (fun A R s => K.In s.heap ∧ (∃ ox od, PySem.W.InstAt s.heap x ox C od) ∧ wpAny (model prog w) A.in1 (call (.ref f) [.ref x]) (fun r s' => ∃ b, r = .bool b ∧ R (.ok (.ret (.bool b))) s') (fun e s' => R (.error e) s') s) :=
  .of_wp fun A R s h => by
    obtain ⟨X, ⟨ox, od, I⟩, h⟩ := h
    have f1 := F.conv_sub_bool
    have t : wpAny (model prog w) A.in1 (truthy (.ref x)) (fun b s' => R (.ok (.ret (.bool b))) s') (fun e s' => R (.error e) s') s := own_bool X I hs hf h
    repeat (any_goals first | assumption | (with_reducible refine wpAny_bind (wpAny_mono t (fun b s' hb => ?_) fun _ _ e => e)) | wp_step)
    all_goals first | exact ⟨_, rfl, hb⟩ | exact ⟨_, rfl, by assumption⟩ | skip
theorem call_bool_own {Q : Value → Shared → Prop} (X : K.In s.heap) (I : PySem.W.InstAt s.heap x ox C od) (hs : PySem.W.findIn K (.ref C) "__bool__" = some (some (.ref f))) (hf : PySem.W.isFn K (.ref f) = true)
    (h : wpAny (model prog w) A.in1.in1 (call (.ref f) [.ref x]) (fun r s' => ∃ b, r = .bool b ∧ Q (.bool b) s') E s) : wpAny (model prog w) A (call (.type "bool") [.ref x]) Q E s :=
  callType_newIn F.called_bool F.newNe_bool (F.typeCall_bool_1 _) (F.newCall_bool_1 _) (fun obj => F.args_object_init_2 obj _) F.entry_bool_new (new_bool hs hf) ⟨X, ⟨ox, od, I⟩, wpAny_mono h (fun r s' hr => by
    obtain ⟨b, e, q⟩ := hr
    exact ⟨b, e, rfl, q⟩) fun _ _ e => e⟩
end
end MiP
namespace Mi
open PySem PySem.Spec PyProof.Rows L2
section
variable {X : Cx} {k : Nat} {f C : Addr} {fd : FuncData} {ps : List Str} {sp : Sp}
def rRep (C : Addr) (sp : Sp) : List V → Hp → VK → Prop := fun xs H Q => ∃ a dx fs, xs = [.ref a] ∧ H a = some (.ins C dx fs) ∧ sp xs H (fun v H' => ∃ z, v = .str z ∧ Q (.str z) H') EF
theorem cr_rep (hm : Meth X.K C "__repr__" f) (F : FnOk X.prog X.w X.K X.mg X.base (L2.CX X.prog X.w) k f fd ps sp) (hr : Room (k + 1) X.A) (hb : Binds X.K fd ps []) : CallR X (.builtin "repr") (rRep C sp) := by
  intro pins s σ H xs us Q I r h
  obtain ⟨a, dx, fs, rfl, ea, q⟩ := h
  have r' := r
  rw [Vals.ref1 r]
  rw [Vals.ref1 r] at r'
  obtain ⟨mA, O, _⟩ := ins_get I.hok ea
  obtain ⟨od, J, _⟩ := O.look
  have hu : X.A.in1.units < cLine := by have := hr.in1.un; omega
  refine MiP.own_repr hu I.kIn J hm.at_ hm.fn (thn (run_fn1 F hr hb passEF I r' q) fun r s' hh => ?_)
  obtain ⟨v', H', I', rv, z, e, q'⟩ := hh
  subst e
  obtain ⟨t, rfl⟩ := rv
  exact ⟨z, t, rfl, .str z, H', I', ⟨t, rfl⟩, q'⟩
end
theorem room2 {k : Nat} {A : Around} (r : Room (k + 1) A) : Room k A.in1.in1 :=
  ⟨r.hd, by have := r.dp; show A.depth + 3 * k + 5 < _; omega, by have := r.un; show A.units + 1 + 1 + 16 * k + 200 < _; omega⟩
section
variable {X : Cx} {k : Nat} {f C : Addr} {fd : FuncData} {ps : List Str} {sp : Sp}
/-- a call two levels into builtins -/
theorem run_fn2 {CX : CXT} {E : XK} {pins : List (Addr × Obj)} {σ : St} {H : Hp} {s : Shared} {Q : VK} {us : List Value} {vs : List V} (F : FnOk X.prog X.w X.K X.mg X.base CX k f fd ps sp) (hr : Room (k + 1) X.A) (hb : Binds X.K fd ps []) (hx : Passes CX X E)
    (I : Inv X pins σ H s) (r : Vals vs us) (h : sp vs H Q E) : wpAny (model X.prog X.w) X.A.in1.in1 (call (.ref f) us) (EP X pins σ Q) X.xe s := by
  have hl : us.length = ps.length := by rw [← r.length]; exact F.len _ _ _ _ h
  have b := hb s us I.kIn (by rw [List.append_nil]; exact hl)
  rw [List.append_nil] at b
  refine wpAny_call (codeAny_mono (F.run X.A.in1.in1 X.stack s H ⟨us, []⟩ us vs Q E (room2 hr) I.env0.in1.in1 b r h) fun r s' hq => ?_)
  cases r with
  | error e => exact hx pins σ H s e s' I hq
  | ok fl =>
    cases fl with
    | ret u => exact I.after hq
    | next => exact False.elim hq
    | brk => exact False.elim hq
    | cont => exact False.elim hq
def rBoo (C : Addr) (sp : Sp) : List V → Hp → VK → Prop := fun xs H Q => ∃ a dx fs, xs = [.ref a] ∧ H a = some (.ins C dx fs) ∧ sp xs H (fun v H' => ∃ z, v = .bl z ∧ Q (.bl z) H') EF
theorem cr_boo (hm : Meth X.K C "__bool__" f) (F : FnOk X.prog X.w X.K X.mg X.base (L2.CX X.prog X.w) k f fd ps sp) (hr : Room (k + 1) X.A) (hb : Binds X.K fd ps []) : CallR X (.type "bool") (rBoo C sp) := by
  intro pins s σ H xs us Q I r h
  obtain ⟨a, dx, fs, rfl, ea, q⟩ := h
  have r' := r
  rw [Vals.ref1 r]
  rw [Vals.ref1 r] at r'
  obtain ⟨mA, O, _⟩ := ins_get I.hok ea
  obtain ⟨od, J, _⟩ := O.look
  refine MiP.call_bool_own I.kIn J hm.at_ hm.fn (thn (run_fn2 F hr hb passEF I r' q) fun r s' hh => ?_)
  obtain ⟨v', H', I', rv, z, e, q'⟩ := hh
  subst e
  cases rv
  exact ⟨z, rfl, .bl z, H', I', rfl, q'⟩
end
section
variable {C : Ct} {X : Cx} {cal : Nat → List Slot → CRes}
theorem n_boo {ex ea : Expr} {c f : Nat} {a : E} (hp : ∀ ta, PE X ea ta → PE X ex (tUn (fun x H Q => rBoo (C.G.cls c) (spM C.G cal f) [x] H Q) ta)) (ha : PE X ea (rdE C (evE cal a))) : PE X ex (rdE C (evE cal (.spc false c f a))) :=
  PE.imp (hp _ (pe_opd ha)) fun σ H Q ⟨w, m, e, P, q⟩ => by
  rw [evE, Res.sat_bind] at q
  refine ⟨w, m, e, P, ?_⟩
  rw [opdF, Res.sat_bind]
  refine Res.sat_mono q fun ra m1 q1 w1 v1 S1 x1 r1 => ?_
  split at q1
  · rename_i c' fs hd
    split at q1
    · rename_i hcc
      subst hcc
      obtain ⟨p, dx, gs, rfl, h1, h2⟩ := (S1.der r1 hd).ins
      rw [Res.sat_bind] at q1
      refine ⟨p, dx, gs, rfl, h1, ?_⟩
      refine call_quiet (P.step S1 x1) (.cons r1 .nil) (Res.sat_mono q1 fun r m2 q2 w2 v2 S2 x2 r2 => ?_)
      cases r with
      | ow o => exact q2.elim
      | bo k => exact q2.elim
      | fz t =>
        cases t <;> try (exact q2.elim)
        case bl z =>
          cases r2
          exact ⟨z, rfl, q2 w2 _ S2 (x1.trans x2) (.bl _)⟩
    · exact q1.elim
  · exact q1.elim
theorem n_rep {ex ea : Expr} {c f : Nat} {a : E} (hp : ∀ ta, PE X ea ta → PE X ex (tUn (fun x H Q => rRep (C.G.cls c) (spM C.G cal f) [x] H Q) ta)) (ha : PE X ea (rdE C (evE cal a))) : PE X ex (rdE C (evE cal (.spc true c f a))) :=
  PE.imp (hp _ (pe_opd ha)) fun σ H Q ⟨w, m, e, P, q⟩ => by
  rw [evE, Res.sat_bind] at q
  refine ⟨w, m, e, P, ?_⟩
  rw [opdF, Res.sat_bind]
  refine Res.sat_mono q fun ra m1 q1 w1 v1 S1 x1 r1 => ?_
  split at q1
  · rename_i c' fs hd
    split at q1
    · rename_i hcc
      subst hcc
      obtain ⟨p, dx, gs, rfl, h1, h2⟩ := (S1.der r1 hd).ins
      rw [Res.sat_bind] at q1
      refine ⟨p, dx, gs, rfl, h1, ?_⟩
      refine call_quiet (P.step S1 x1) (.cons r1 .nil) (Res.sat_mono q1 fun r m2 q2 w2 v2 S2 x2 r2 => ?_)
      cases r with
      | ow o => exact q2.elim
      | bo k => exact q2.elim
      | fz t =>
        cases t <;> try (exact q2.elim)
        case str z =>
          cases r2
          exact ⟨z, rfl, q2 w2 _ S2 (x1.trans x2) (.str _)⟩
    · exact q1.elim
  · exact q1.elim
end
end Mi
set_option maxHeartbeats 1000000
namespace Mi
open PySem PySem.Spec PyProof.Rows L2
/-! ### f-strings -/
section
variable {C : Ct} {X : Cx} {cal : Nat → List Slot → CRes}
def jsT (C : Ct) (cal : Nat → List Slot → CRes) : Es → List TE
  | .nil => []
  | .cons e r => tFmt (rdE C (evE cal e)) :: jsT C cal r
theorem js_run {σ : St} : ∀ (es : Es) (acc : Str) (w : Wd) (m : List Slot) (Q : Str → Hp → Prop), Pre C w m σ → (evJs cal es acc m).sat (fun z m1 => ∀ w', SR C.G w' m1 σ → Ex w w' → Q z w'.H) C.EM → tJs (jsT C cal es) acc σ w.H Q
  | .nil, acc, w, m, Q, P, q => by
    rw [evJs] at q
    exact q w P.sr (.refl w)
  | .cons e r, acc, w, m, Q, P, q => by
    rw [evJs, Res.sat_bind] at q
    refine ⟨w, m, rfl, P, Res.sat_mono q fun x m1 q1 w1 v S1 x1 r1 => ?_⟩
    cases x with
    | ow o => exact q1.elim
    | bo k => exact q1.elim
    | fz t =>
      cases t <;> try (exact q1.elim)
      case str y =>
        cases r1
        simp only at q1
        split at q1
        · rename_i hl
          have hy : y.length ≤ sizeLine := by
            have e : (acc ++ y).length = acc.length + y.length := Array.size_append ..
            omega
          exact .inl ⟨y, rfl, hy, y, rfl, hl, js_run r (acc ++ y) w1 m1 Q (P.step S1 x1) (Res.sat_mono q1 fun z m2 k w' S' x' => k w' S' (x1.trans x'))⟩
        · exact q1.elim
      case int i =>
        cases r1
        simp only at q1
        split at q1
        · rename_i hl
          exact .inr ⟨i, rfl, hl.2, toString i, rfl, hl.1, js_run r (acc ++ toString i) w1 m1 Q (P.step S1 x1) (Res.sat_mono q1 fun z m2 k w' S' x' => k w' S' (x1.trans x'))⟩
        · exact q1.elim
theorem j_nil : PJ X [] (jsT C cal .nil) := .nil
theorem j_cons {e : Expr} {es : List Expr} {a : E} {r : Es} (h : PE X e (tFmt (rdE C (evE cal a)))) (hr : PJ X es (jsT C cal r)) : PJ X (e :: es) (jsT C cal (.cons a r)) := .cons h hr
theorem j_txt {s : Str} {j} {pos : Pos} (hs : s.length ≤ sizeLine) : PE X (.Constant (.str s) j pos) (tFmt (rdE C (evE cal (.c (.str s))))) :=
  PE.imp pe_str fun σ H Q ⟨w, m, e, P, q⟩ => by
  rw [evE] at q
  have q := q w (.str s) P.sr (.refl w) (.str s)
  rw [e] at q
  rcases q with ⟨y, e1, e2, q⟩ | ⟨i, e1, _⟩
  · cases e1; exact q
  · cases e1
theorem j_fmt {e : Expr} {a : E} {pos : Pos} (h : PE X e (rdE C (evE cal a))) : PE X (.FormattedValue e (-1) none pos) (tFmt (rdE C (evE cal a))) := pe_fmt h
theorem x_fst {v1 v2 : Expr} {rest : List Expr} {es : Es} {pos : Pos} (h : PJ X (v1 :: v2 :: rest) (jsT C cal es)) : PE X (.JoinedStr (v1 :: v2 :: rest) pos) (rdE C (evE cal (.fst es))) :=
  PE.imp (pe_joined h) fun σ H Q ⟨w, m, e, P, q⟩ => by
  rw [evE, Res.sat_bind] at q
  subst e
  exact js_run es Str.empty w m _ P (Res.sat_mono q fun z m1 k w' S' x' => k w' _ S' x' (.str z))
end
end Mi
set_option maxHeartbeats 1000000
namespace Mi
open PySem PySem.Spec PyProof.Rows L2
/-! ### displays with a star -/
section
variable {G : Gm} {w : Wd} {σ : St}
theorem RDs.app {vs us : List V} {ds es : List Opd} : RDs G w σ ds vs → RDs G w σ es us → RDs G w σ (ds ++ es) (vs ++ us)
  | .nil, r => r
  | .cons a b, r => .cons a (RDs.app b r)
theorem RDs.of_fs : ∀ {ts : List T} {vs : List V}, RFs G w ts vs → RDs G w σ (ts.map Opd.t) vs
  | _, _, .nil => .nil
  | _, _, .cons a b => .cons a (RDs.of_fs b)
end
section
variable {C : Ct} {X : Cx} {k : Nat} {cal : Nat → List Slot → CRes} {pos : Pos}
theorem ax_nil {bs : List Bool} : PA X [] (rdDs C (evDx cal .nil bs)) := PA.imp pa_nil fun σ H Q ⟨w, m, e, P, q⟩ => by
  rw [evDx] at q
  subst e
  exact q w [] P.sr (.refl w) .nil
theorem ax_cons {bs : List Bool} {e : Expr} {es : List Expr} {a : E} {r : Es} (h : PE X e (rdE C (evE cal a))) (hr : PA X es (rdDs C (evDx cal r bs))) (hs : starEach (e :: es) X.env = (false, eval e X.env) :: starEach es X.env := by rfl) :
    PA X (e :: es) (rdDs C (evDx cal (.cons a r) (false :: bs))) := PA.imp (pa_cons (pe_opd h) hr hs) fun σ H Q ⟨w, m, e, P, q⟩ => by
  rw [evDx, Res.sat_bind] at q
  refine ⟨w, m, e, P, ?_⟩
  rw [opdF, Res.sat_bind]
  refine Res.sat_mono q fun x m1 q1 w1 v S1 x1 r1 => ?_
  simp only [List.headD_cons, List.tail_cons, Bool.false_eq_true, if_false] at q1
  rw [Res.sat_bind] at q1
  exact ⟨w1, m1, rfl, P.step S1 x1, Res.sat_mono q1 fun ds m2 q2 w2 us S2 x2 r2 => q2 w2 (v :: us) S2 (x1.trans x2) (.cons (r1.mono x2.mo) r2)⟩
theorem ax_star {bs : List Bool} {e : Expr} {p : Pos} {es : List Expr} {a : E} {r : Es} (c : XC C X k) (h : PE X e (rdE C (evE cal a))) (hr : PA X es (rdDs C (evDx cal r bs))) (hs : starEach (.Starred e p :: es) X.env = (true, eval e X.env) :: starEach es X.env := by rfl) :
    PA X (.Starred e p :: es) (rdDs C (evDx cal (.cons a r) (true :: bs))) := PA.imp (StX.pa_star (pe_opd h) hr hs) fun σ H Q ⟨w, m, e, P, q⟩ => by
  rw [evDx, Res.sat_bind] at q
  rw [← c.K]
  refine ⟨w, m, e, P, ?_⟩
  rw [opdF, Res.sat_bind]
  refine Res.sat_mono q fun x m1 q1 w1 v S1 x1 r1 => ?_
  simp only [List.headD_cons, List.tail_cons, if_true] at q1
  split at q1
  · rename_i xs hd
    obtain ⟨p, vs, rfl, h1, rs⟩ := (S1.der r1 hd).lst
    rw [Res.sat_bind] at q1
    exact ⟨p, vs, rfl, .inr (.inl (.inl h1)), w1, m1, rfl, P.step S1 x1, Res.sat_mono q1 fun ds m2 q2 w2 us S2 x2 r2 => q2 w2 (vs ++ us) S2 (x1.trans x2) ((RDs.of_fs (RFs.mono x2.mo rs)).app r2)⟩
  · exact q1.elim
theorem x_lsx {exs : List Expr} {bs : List Bool} {es : Es} (h : PA X exs (rdDs C (evDx cal es bs))) : PE X (.List exs pos) (rdE C (evE cal (.lsx bs es))) := PE.imp (pe_lst h) fun σ H Q ⟨w, m, e, P, q⟩ => by
  rw [evE, Res.sat_bind] at q
  refine ⟨w, m, e, P, Res.sat_mono q fun ds m1 q1 w1 vs S1 x1 r1 => ?_⟩
  cases h1 : escs m1 ds with
  | none => rw [h1] at q1; exact q1.elim
  | some pr =>
    obtain ⟨ts, m2⟩ := pr
    rw [h1] at q1
    simp only at q1
    obtain ⟨w2, e2, S2, x2, r2⟩ := SR.escs S1 r1 h1
    split at q1
    · rename_i hl
      refine ⟨by rw [← r2.length]; exact hl, ?_⟩
      rw [← e2]
      exact After.lst (fun w' v S' x' r' => q1 w' v S' (x1.trans (x2.trans x')) r') S2 r2
    · exact q1.elim
end
end Mi
set_option maxHeartbeats 1000000
namespace Mi
open PySem PySem.Spec PyProof.Rows L2

/-! ### constants of the top -/
mutual
def matV (K : PySem.W.Frag) : T → Value → Bool
  | .non, u => (match u with | .none => true | _ => false)
  | .bl b, u => (match u with | .bool c => b == c | _ => false)
  | .int i, u => (match u with | .int j _ => decide (i = j) | _ => false)
  | .str x, u => (match u with | .str y _ => decide (x = y) | _ => false)
  | .tup xs, u => (match u with
    | .ref a => (match K.lookup a with
      | some ⟨.type c, _, .seq its _, _⟩ => decide (c = "tuple") && (decide (its.size ≤ sizeLine) && matVs K xs its.toList)
      | _ => false)
    | _ => false)
  | _, _ => false
def matVs (K : PySem.W.Frag) : List T → List Value → Bool
  | [], [] => true
  | t :: ts, u :: us => matV K t u && matVs K ts us
  | _, _ => false
end
mutual
theorem matV_ok {G : Gm} : ∀ {t : T} {u : Value}, matV G.K t u = true → ∃ v, RelV v u ∧ ∀ w, RF G w t v
  | .non, u, h => by
    cases u <;> first | exact ⟨.non, rfl, fun _ => .non⟩ | (simp [matV] at h)
  | .bl b, u, h => by
    cases u <;> try (simp [matV] at h; done)
    case bool c =>
      have e : b = c := by simpa [matV] using h
      subst e
      exact ⟨.bl b, rfl, fun _ => .bl b⟩
  | .int i, u, h => by
    cases u <;> try (simp [matV] at h; done)
    case int j t =>
      have e : i = j := by simpa [matV] using h
      subst e
      exact ⟨.int i, ⟨t, rfl⟩, fun _ => .int i⟩
  | .str x, u, h => by
    cases u <;> try (simp [matV] at h; done)
    case str j t =>
      have e : x = j := by simpa [matV] using h
      subst e
      exact ⟨.str x, ⟨t, rfl⟩, fun _ => .str x⟩
  | .tup xs, u, h => by
    cases u <;> try (simp [matV] at h; done)
    case ref a =>
      rw [matV] at h
      cases q : G.K.lookup a with
      | none => simp [q] at h
      | some o =>
        obtain ⟨oc, od, dt, osl⟩ := o
        simp only [q] at h
        cases oc <;> try (cases dt <;> simp at h; done)
        case type c =>
          cases dt <;> try (simp at h; done)
          case seq its n =>
            simp only [Bool.and_eq_true, decide_eq_true_eq] at h
            obtain ⟨rfl, h2, h3⟩ := h
            obtain ⟨vs, r1, r2⟩ := matVs_ok h3
            exact ⟨.ref a, rfl, fun w => .tup (.inr ⟨_, its, n, q, rfl, rfl, h2, r1⟩) (r2 w)⟩
  | .lst _, u, h => by simp [matV] at h
  | .dic _, u, h => by simp [matV] at h
  | .ins _ _, u, h => by simp [matV] at h
  | .scr _, u, h => by simp [matV] at h
theorem matVs_ok {G : Gm} : ∀ {t : List T} {u : List Value}, matVs G.K t u = true → ∃ v, Vals v u ∧ ∀ w, RFs G w t v
  | [], [], _ => ⟨[], .nil, fun _ => .nil⟩
  | [], _ :: _, h => by simp [matVs] at h
  | _ :: _, [], h => by simp [matVs] at h
  | t :: ts, u :: us, h => by
    simp only [matVs, Bool.and_eq_true] at h
    obtain ⟨v, a, b⟩ := matV_ok h.1
    obtain ⟨vs, c, d⟩ := matVs_ok h.2
    exact ⟨v :: vs, .cons a c, fun w => .cons (b w) (d w)⟩
end
def globK (K : PySem.W.Frag) (p : Str × T) : Bool := match PySem.W.nsIn K mainGlobals p.1 with
  | some (some u) => matV K p.2 u
  | _ => false
abbrev AlM : Type := He.AlD × Bool
def obsM (fa : List He.Fa) (fn : List He.DefD) (gk : List (Str × T)) (K : PySem.W.Frag) : AlM := (He.obsD fa fn K, gk.all (globK K))
def SaysM (fa : List He.Fa) (fn : List He.DefD) (gk : List (Str × T)) (K : PySem.W.Frag) : Prop := obsM fa fn gk K = (He.valD fn, true)
def obsMG (n : Nat) (fa : List He.Fa) (fn : List He.DefD) (gk : List (Str × T)) (g : Addr → Option Obj) : AlM := obsM fa fn gk (He.frG g (He.asD g n))
def hookM (n : Nat) (fa : List He.Fa) (fn : List He.DefD) (gk : List (Str × T)) : PySem.W.Hook where
  α := AlM
  obs := fun s => obsMG n fa fn gk s.heap.get?
  val := fun _ => (He.valD fn, true)
  says := fun _ h => ∃ K : PySem.W.Frag, K.In h ∧ SaysM fa fn gk K
  of := fun _ _ e => ⟨_, He.frG_in, e⟩
  keeps := fun _ _ _ ⟨K, hK, c⟩ k => ⟨K, PySem.W.Frag.In.keeps hK k, c⟩
theorem obsMG_eq {n : Nat} {fa : List He.Fa} {fn : List He.DefD} {gk : List (Str × T)} {g : Addr → Option Obj} {s : Shared} (h : ∀ a, g a = s.heap.get? a) : obsMG n fa fn gk g = (hookM n fa fn gk).obs s := by
  have e : g = s.heap.get? := funext h
  rw [e] <;> rfl
theorem SaysM.d {fa : List He.Fa} {fn : List He.DefD} {gk : List (Str × T)} {K : PySem.W.Frag} (c : SaysM fa fn gk K) : He.SaysD fa fn K := congrArg Prod.fst c
theorem SaysM.g {fa : List He.Fa} {fn : List He.DefD} {gk : List (Str × T)} {K : PySem.W.Frag} (c : SaysM fa fn gk K) : ∀ p ∈ gk, globK K p = true := List.all_eq_true.mp (congrArg Prod.snd c)

theorem globK_ok {G : Gm} {h : Heap} {mg : Str → Option Value} {x : Str} {t : T} (X : G.K.In h) (Gn : h.Ns mainGlobals mg) (c : globK G.K (x, t) = true) : ∃ u v, mg x = some u ∧ RelV v u ∧ ∀ w, RF G w t v := by
  unfold globK at c
  cases q : PySem.W.nsIn G.K mainGlobals x with
  | none => simp [q] at c
  | some o =>
    cases o with
    | none => simp [q] at c
    | some u =>
      simp only [q] at c
      obtain ⟨v, a, b⟩ := matV_ok c
      exact ⟨u, v, PySem.W.mg_of X Gn q, a, b⟩
/-! ### what a def's body leans on -/
def FnIn (P : Program) (w : World) (K : PySem.W.Frag) (mg : Str → Option Value) (base : Heap) (k : Nat) (G : Gm) (cal : Nat → List Slot → CRes) (f : Nat) (x : Str) (ps : List Str) : Prop :=
  ∃ fa fd, mg x = some (.ref fa) ∧ PySem.W.keepIn K (.ref fa) = true ∧ Binds K fd ps [] ∧ FnOk P w K mg base (L2.CX P w) (2 * k) fa fd ps (spM G cal f)
def FnInK (P : Program) (w : World) (K : PySem.W.Frag) (mg : Str → Option Value) (base : Heap) (k : Nat) (G : Gm) (cal : Nat → List Slot → CRes) (f : Nat) (x : Str) (ps : List Str) : Prop :=
  ∃ fa fd, mg x = some (.ref fa) ∧ PySem.W.keepIn K (.ref fa) = true ∧ (∀ us : List Value, us.length = ps.length → bindArgs fd ⟨[], ps.zip us⟩ = pure (ps.zip us)) ∧ FnOk P w K mg base (L2.CX P w) (2 * k) fa fd ps (spM G cal f)
structure GE (tab : List (Str × List Str)) (tk : List Nat) (gk : List (Str × T)) (fr : List Str) (P : Program) (w : World) (K : PySem.W.Frag) (mg : Str → Option Value) (base : Heap) (k : Nat) (G : Gm) (cal : Nat → List Slot → CRes) : Prop where
  fns : ∀ (f : Nat) (x : Str) (ps : List Str), tab[f]? = some (x, ps) → FnIn P w K mg base k G cal f x ps
  fnk : ∀ (f : Nat) (x : Str) (ps : List Str), tab[f]? = some (x, ps) → f ∈ tk → FnInK P w K mg base k G cal f x ps
  gs : ∀ (i : Nat) (x : Str) (t : T), gk[i]? = some (x, t) → ∃ u v, mg x = some u ∧ RelV v u ∧ ∀ w, RF G w t v
  frs : ∀ (i : Nat) (x : Str), fr[i]? = some x → mg x = none
section
variable {tab : List (Str × List Str)} {tk : List Nat} {gk : List (Str × T)} {fr : List Str} {G : Gm} {cal : Nat → List Slot → CRes} {k : Nat}
theorem GE.f {X : Cx} (e : GE tab tk gk fr X.prog X.w X.K X.mg X.base k G cal) (f : Nat) {x : Str} {ps : List Str} (h : tab[f]? = some (x, ps) := by rfl) : FnAt X k G cal f x ps := ⟨e.fns f x ps h⟩
theorem GE.fk {X : Cx} (e : GE tab tk gk fr X.prog X.w X.K X.mg X.base k G cal) (f : Nat) {x : Str} {ps : List Str} (h : tab[f]? = some (x, ps) := by rfl) (h2 : f ∈ tk := by decide) : FnAtK X k G cal f x ps := ⟨e.fnk f x ps h h2⟩
theorem GE.g {X : Cx} (e : GE tab tk gk fr X.prog X.w X.K X.mg X.base k G cal) (i : Nat) {x : Str} {t : T} (h : gk[i]? = some (x, t) := by rfl) : GlobAt X G x t := e.gs i x t h
theorem GE.b {X : Cx} (e : GE tab tk gk fr X.prog X.w X.K X.mg X.base k G cal) (i : Nat) {x : Str} (h : fr[i]? = some x := by rfl) : Fr X x := e.frs i x h
theorem nf {C : Ct} {io : List Bool} {i : Nat} (h : C.fx = fxOf io) (e : fxOf io i = false := by rfl) : C.fx i = false := by rw [h]; exact e
theorem nfs {C : Ct} {io : List Bool} {p : Pt} (h : C.fx = fxOf io) (e : (p.sl.all fun j => !fxOf io j) = true := by rfl) : ∀ j ∈ p.sl, C.fx j = false := fun j hj => by
  rw [h]
  have := List.all_eq_true.mp e j hj
  simpa using this
end
/-- the first turn: nothing is promised -/
theorem fn_zero {P : Program} {w : World} {K : PySem.W.Frag} {mg : Str → Option Value} {base : Heap} {G : Gm} {Γ : Nat → Option Def} {L f : Nat} {fa : Addr} {fd : FuncData} {ps : List Str} : FnOk P w K mg base (L2.CX P w) 0 fa fd ps (spM G (callF Γ L 0) f) :=
  ⟨fun _ _ _ _ ⟨_, _, _, _, z⟩ => z.elim, fun _ _ _ _ _ _ _ _ _ _ _ _ _ ⟨_, _, _, _, z⟩ => z.elim⟩
theorem fn_zeroB {P : Program} {w : World} {K : PySem.W.Frag} {mg : Str → Option Value} {base : Heap} {G : Gm} {Γ : Nat → Option Def} {L f : Nat} {fa : Addr} {fd : FuncData} {ps : List Str} : FnB P w K mg base (L2.CX P w) 0 fa fd ps (spM G (callF Γ L 0) f) :=
  ⟨fn_zero, fun _ _ _ _ _ _ _ _ _ _ _ ⟨_, _, q⟩ _ => by obtain ⟨_, _, _, _, z⟩ := q; exact z.elim⟩
theorem FunD.kws {K : PySem.W.Frag} {x qual : Str} {params : Arguments} {body : List Stmt} {scope : Scope} {kws : List (Str × V)} {f : Addr} {fd : FuncData} {ps : List Str} (F : FunD K x qual params body scope [] kws f fd)
    (h : ∀ (kV doc pm : Value) (an : Option Addr) (cdv ct : Value) (us : List Value), us.length = ps.length → bindArgs (PySem.W.fnOf x qual params body scope .none kV doc pm an cdv ct) ⟨[], ps.zip us⟩ = pure (ps.zip us)) :
    ∀ us : List Value, us.length = ps.length → bindArgs fd ⟨[], ps.zip us⟩ = pure (ps.zip us) := by
  obtain ⟨oc, od, dV, kV, doc, pm, an, cdv, ct, osl, rfl, lk, hcd, hD, hK⟩ := F.ex
  rcases hD with ⟨_, rfl⟩ | ⟨e, _⟩
  · exact h kV doc pm an cdv ct
  · exact absurd rfl e
/-- the law's promise, from the evaluator's answer -/
theorem law_sp {G : Gm} {cal : Nat → List Slot → CRes} {f : Nat} {ns : List Int} {outs : List Slot} (hc : cal f [.fz (.scr ns)] = .ok (.fz (.bl true)) outs) {H : Hp} {a : Addr} (hO : Only H) (hS : SqL G.K H a (ns.map V.int)) (E : XK) : spM G cal f [.ref a] H (fun v _ => v = .bl true) E := by
  refine ⟨⟨fun b => ∃ u, H b = some u, fun _ => False, H⟩, [.fz (.scr ns)], rfl, ⟨rfl, fun i s h => ?_, fun i j o o' a h1 => ?_, fun _ z => z.elim, fun b h => h⟩, ?_⟩
  · cases i with
    | succ i => cases h
    | zero =>
      cases h
      refine ⟨.ref a, rfl, .scr ?_⟩
      rcases hS with (h | ⟨o, h⟩) | ⟨o, its, n, h1, h2, h3, h4, h5, h6⟩
      · rcases hO a with z | ⟨o, xs, z⟩ <;> rw [h] at z <;> cases z
      · exact .inl ⟨⟨_, h⟩, o, h⟩
      · exact .inr ⟨o, its, n, h1, h2, h3, h4, h5, h6⟩
  · cases i with
    | succ i => cases h1
    | zero => cases h1
  · rw [hc]
    intro w' v _ _ rr
    cases rr
    rfl
/-- an exception that may leave, at some world -/
def CXA (P : Program) : CXT := fun outer H s E u s' => ∃ w, L2.CX P w outer H s E u s'
theorem cxA {P : Program} {w : World} {K : PySem.W.Frag} {mg : Str → Option Value} {base : Heap} {k : Nat} {fa : Addr} {fd : FuncData} {ps : List Str} {sp : Sp} (F : FnOk P w K mg base (L2.CX P w) k fa fd ps sp) : FnOk P w K mg base (CXA P) k fa fd ps sp :=
  ⟨F.len, fun A outer s H args us vs Q E hr he hb hv hs => codeAny_mono (F.run A outer s H args us vs Q E hr he hb hv hs) fun r s' q => by
    cases r with
    | error e => exact ⟨w, q⟩
    | ok fl => cases fl <;> exact q⟩
theorem cxA_no {P : Program} {H : Hp} {s : Shared} {e : Value} {s' : Shared} (h : CXA P [] H s (fun _ _ _ => False) e s') : False := by
  obtain ⟨w, _, _, _, _, _, _, _, _, _, _, _, _, z⟩ := h
  exact z
end Mi
set_option maxHeartbeats 4000000
namespace Mi
open PySem PySem.Spec PyProof.Rows L2

/-! ### the law's own helpers: as data -/
def bagB : Ss :=
  (.cons (.set 1 (.op .mod (.cons (.op .int (.cons (.op .add (.cons (.op .add (.cons (.op .mul (.cons (.var 1) (.cons (.c (.int 46337)) .nil))) (.cons (.op .mul (.cons (.op .mod (.cons (.op .int (.cons (.var 2) .nil)) (.cons (.c (.int 1000211)) .nil))) (.cons (.c (.int 919)) .nil))) .nil))) (.cons (.c (.int 41)) .nil))) .nil)) (.cons (.c (.int 2147483563)) .nil)))) .nil)
def dBag : Def := ⟨1, 3, [false],
  (.cons (.set 1 (.c (.int 12006)))
  (.cons (.fr (.nm 2) (.it (.op (.sl false true) (.cons (.var 0) (.cons (.c (.int 63)) .nil)))) bagB)
  (.cons (.ret (.lst (.cons (.op .list (.cons (.op (.sl false true) (.cons (.var 0) (.cons (.c (.int 63)) .nil))) .nil)) (.cons (.c (.int 0)) (.cons (.c (.int 0)) (.cons (.var 1) (.cons (.c (.int 0)) .nil)))))))
  .nil)))⟩
def dTake : Def := ⟨2, 5, [true, false],
  (.cons (.sto 0 (.c (.int 4)) (.op .add (.cons (.op .idx (.cons (.var 0) (.cons (.c (.int 4)) .nil))) (.cons (.c (.int 1)) .nil))))
  (.cons (.ife (.an (.op .eq (.cons (.op .idx (.cons (.var 0) (.cons (.c (.int 2)) .nil))) (.cons (.c (.int 0)) .nil))) (.op .lt (.cons (.op .idx (.cons (.var 0) (.cons (.c (.int 1)) .nil))) (.cons (.op .len (.cons (.op .idx (.cons (.var 0) (.cons (.c (.int 0)) .nil))) .nil)) .nil)))) (.cons (.set 2 (.op .idx (.cons (.op .idx (.cons (.var 0) (.cons (.c (.int 0)) .nil))) (.cons (.op .idx (.cons (.var 0) (.cons (.c (.int 1)) .nil))) .nil))))
  (.cons (.sto 0 (.c (.int 1)) (.op .add (.cons (.op .idx (.cons (.var 0) (.cons (.c (.int 1)) .nil))) (.cons (.c (.int 1)) .nil))))
  (.cons (.ife (.op .ge (.cons (.op .abs (.cons (.var 2) .nil)) (.cons (.op .pow (.cons (.c (.int 10)) (.cons (.c (.int 18)) .nil))) .nil))) (.cons (.sto 0 (.c (.int 2)) (.op .abs (.cons (.var 2) .nil)))
  .nil) (.cons (.sto 0 (.c (.int 3)) (.op .mod (.cons (.op .int (.cons (.op .add (.cons (.op .add (.cons (.op .mul (.cons (.op .idx (.cons (.var 0) (.cons (.c (.int 3)) .nil))) (.cons (.c (.int 47303)) .nil))) (.cons (.op .mul (.cons (.op .mod (.cons (.op .int (.cons (.var 2) .nil)) (.cons (.c (.int 1000211)) .nil))) (.cons (.c (.int 733)) .nil))) .nil))) (.cons (.c (.int 59)) .nil))) .nil)) (.cons (.c (.int 2147483579)) .nil))))
  .nil))
  .nil))) .nil)
  (.cons (.ife (.op .gt (.cons (.op .idx (.cons (.var 0) (.cons (.c (.int 2)) .nil))) (.cons (.c (.int 0)) .nil))) (.cons (.set 3 (.op .mod (.cons (.op .int (.cons (.op .idx (.cons (.var 0) (.cons (.c (.int 2)) .nil))) .nil)) (.cons (.var 1) .nil))))
  (.cons (.sto 0 (.c (.int 2)) (.op .fdiv (.cons (.op .idx (.cons (.var 0) (.cons (.c (.int 2)) .nil))) (.cons (.var 1) .nil))))
  (.cons (.ret (.var 3))
  .nil))) .nil)
  (.cons (.set 4 (.op .mod (.cons (.op .int (.cons (.op .add (.cons (.op .mul (.cons (.op .idx (.cons (.var 0) (.cons (.c (.int 3)) .nil))) (.cons (.op .idx (.cons (.var 0) (.cons (.c (.int 3)) .nil))) .nil))) (.cons (.op .mul (.cons (.op .idx (.cons (.var 0) (.cons (.c (.int 4)) .nil))) (.cons (.c (.int 8191)) .nil))) .nil))) .nil)) (.cons (.c (.int 2147483647)) .nil))))
  (.cons (.sto 0 (.c (.int 3)) (.op .mod (.cons (.op .int (.cons (.op .add (.cons (.op .add (.cons (.op .mul (.cons (.var 4) (.cons (.c (.int 16981)) .nil))) (.cons (.op .mul (.cons (.op .idx (.cons (.var 0) (.cons (.c (.int 3)) .nil))) (.cons (.c (.int 47969)) .nil))) .nil))) (.cons (.c (.int 70019)) .nil))) .nil)) (.cons (.c (.int 2147483579)) .nil))))
  (.cons (.ret (.op .mod (.cons (.op .int (.cons (.op .fdiv (.cons (.op .idx (.cons (.var 0) (.cons (.c (.int 3)) .nil))) (.cons (.c (.int 67)) .nil))) .nil)) (.cons (.var 1) .nil))))
  .nil))))))⟩
def dOf (t : Nat) : Def := ⟨2, 2, [true, false],
  (.cons (.ret (.op .idx (.cons (.var 1) (.cons (.call t [true, false] (.cons (.var 0) (.cons (.op .len (.cons (.var 1) .nil)) .nil))) .nil))))
  .nil)⟩
/-! ### small steps -/
theorem mulF_ok {i j : Int} (h : i.natAbs < 2 ^ 200) (h' : j.natAbs < 2 ^ 200) : mulF (.int i) (.int j) = fI (i * j) := by
  have e : ∀ {n : Nat}, n < 2 ^ 200 → n.log2 ≤ 200 := fun {n} h => by
    by_cases z : n = 0
    · subst z; decide
    · exact Nat.le_of_lt ((Nat.log2_lt z).mpr h)
  have := e h
  have := e h'
  show (if _ then _ else _) = _
  rw [if_pos (by omega)]
theorem natAbs_lt {i : Int} {n : Nat} (h0 : 0 ≤ i) (h : i < n) : i.natAbs < n := by omega
theorem atI_nat {α : Type} {xs : List α} {i : Int} {n : Nat} {x : α} (h : i = (n : Int)) (e : xs[n]? = some x) : atI xs i = some x := by
  have lt := (List.getElem?_eq_some_iff.mp e).1
  subst h
  unfold atI ixN
  rw [if_pos (by omega), if_pos (by omega)]
  simpa using e
/-! ### the bag -/
structure BagS (ns : List Int) (i : Nat) (r x : Int) (c : Nat) : Prop where
  r0 : 0 ≤ r
  x0 : 0 ≤ x
  x1 : x < 2147483647
def bag (ns : List Int) (i : Nat) (r x : Int) (c : Nat) : Slot := .ow (.lst [.lst (ns.map .int), .int i, .int r, .int x, .int c])
def Bag (c : Nat) (s : Slot) : Prop := ∃ ns i r x, s = bag ns i r x c ∧ BagS ns i r x c
theorem at4 {a b c d e : T} : atI [a, b, c, d, e] 4 = some e := rfl
theorem at3 {a b c d e : T} : atI [a, b, c, d, e] 3 = some d := rfl
theorem at2 {a b c d e : T} : atI [a, b, c, d, e] 2 = some c := rfl
theorem at1 {a b c d e : T} : atI [a, b, c, d, e] 1 = some b := rfl
theorem at0 {a b c d e : T} : atI [a, b, c, d, e] 0 = some a := rfl
theorem ix4 : ixN 5 4 = some 4 := rfl
theorem ix3 : ixN 5 3 = some 3 := rfl
theorem ix2 : ixN 5 2 = some 2 := rfl
theorem ix1 : ixN 5 1 = some 1 := rfl
def takeTail : Ss :=
  (.cons (.ife (.op .gt (.cons (.op .idx (.cons (.var 0) (.cons (.c (.int 2)) .nil))) (.cons (.c (.int 0)) .nil))) (.cons (.set 3 (.op .mod (.cons (.op .int (.cons (.op .idx (.cons (.var 0) (.cons (.c (.int 2)) .nil))) .nil)) (.cons (.var 1) .nil))))
  (.cons (.sto 0 (.c (.int 2)) (.op .fdiv (.cons (.op .idx (.cons (.var 0) (.cons (.c (.int 2)) .nil))) (.cons (.var 1) .nil))))
  (.cons (.ret (.var 3))
  .nil))) .nil)
  (.cons (.set 4 (.op .mod (.cons (.op .int (.cons (.op .add (.cons (.op .mul (.cons (.op .idx (.cons (.var 0) (.cons (.c (.int 3)) .nil))) (.cons (.op .idx (.cons (.var 0) (.cons (.c (.int 3)) .nil))) .nil))) (.cons (.op .mul (.cons (.op .idx (.cons (.var 0) (.cons (.c (.int 4)) .nil))) (.cons (.c (.int 8191)) .nil))) .nil))) .nil)) (.cons (.c (.int 2147483647)) .nil))))
  (.cons (.sto 0 (.c (.int 3)) (.op .mod (.cons (.op .int (.cons (.op .add (.cons (.op .add (.cons (.op .mul (.cons (.var 4) (.cons (.c (.int 16981)) .nil))) (.cons (.op .mul (.cons (.op .idx (.cons (.var 0) (.cons (.c (.int 3)) .nil))) (.cons (.c (.int 47969)) .nil))) .nil))) (.cons (.c (.int 70019)) .nil))) .nil)) (.cons (.c (.int 2147483579)) .nil))))
  (.cons (.ret (.op .mod (.cons (.op .int (.cons (.op .fdiv (.cons (.op .idx (.cons (.var 0) (.cons (.c (.int 3)) .nil))) (.cons (.c (.int 67)) .nil))) .nil)) (.cons (.var 1) .nil))))
  .nil))))
theorem tail_pos {cal : Nat → List Slot → CRes} {L : Nat} {ns : List Int} {i : Nat} {r x : Int} {c : Nat} {many : Int} {s2 s3 s4 : Slot} (hr : 0 < r) (hm : 0 < many) (hm2 : many < 2 ^ 64) :
    evSs cal L takeTail [bag ns i r x c, .fz (.int many), s2, s3, s4] = .rt (.fz (.int (r % many))) [bag ns i (r / many) x c, .fz (.int many), s2, .fz (.int (r % many)), s4] := by
  have q1 : fdivF (.int r) (.int many) = fI (r / many) := by
    have : many.natAbs.log2 ≤ 64 := Nat.le_of_lt ((Nat.log2_lt (by omega)).mpr (by omega))
    show (if _ then _ else _) = _
    rw [if_pos ⟨hm, by omega⟩]
  have q2 : modF (.int r) (.int many) = fI (r % many) := by
    show (if _ then _ else _) = _
    rw [if_pos hm]
  unfold takeTail bag
  simp [evSs, evS, evE, evDs, Res.bind, ofR, R.opd, opR, ders, der, opF, op2, op1, O.frz, idxF, esc, at4, at3, at2, at1, at0, ix4, ix3, ix2, ix1, fI, fB, cmpF, putR, intF, outR, q1, q2, hr]
theorem tail_zero {cal : Nat → List Slot → CRes} {L : Nat} {ns : List Int} {i : Nat} {x : Int} {c : Nat} {many : Int} {s2 s3 s4 : Slot} (x0 : 0 ≤ x) (x1 : x < 2147483647) (hc : c < 2 ^ 41) (hm : 0 < many) (hm2 : many < 2 ^ 64) :
    ∃ t x', evSs cal L takeTail [bag ns i 0 x c, .fz (.int many), s2, s3, s4] = .rt (.fz (.int (x' / 67 % many))) [bag ns i 0 x' c, .fz (.int many), s2, s3, .fz (.int t)] ∧ 0 ≤ x' ∧ x' < 2147483647 := by
  have b400 : (2 : Nat) ^ 64 < 2 ^ 200 := by decide
  have q1 : mulF (.int x) (.int x) = fI (x * x) := mulF_ok (by omega) (by omega)
  have q2 : mulF (.int c) (.int 8191) = fI (c * 8191) := mulF_ok (by omega) (by decide)
  have q3 : mulF (.int x) (.int 47969) = fI (x * 47969) := mulF_ok (by omega) (by decide)
  have m1 : ∀ y : Int, modF (.int y) (.int 2147483647) = fI (y % 2147483647) := fun y => rfl
  have m2 : ∀ y : Int, modF (.int y) (.int 2147483579) = fI (y % 2147483579) := fun y => rfl
  have m3 : ∀ y : Int, modF (.int y) (.int many) = fI (y % many) := fun y => by
    show (if _ then _ else _) = _
    rw [if_pos hm]
  have d1 : ∀ y : Int, fdivF (.int y) (.int 67) = fI (y / 67) := fun y => by
    show (if (0 : Int) < 67 ∧ (67 : Int).natAbs.log2 < 9000 then fI (y / 67) else none) = _
    rw [if_pos (by decide)]
  obtain ⟨t, ht⟩ : ∃ t, t = (x * x + c * 8191) % 2147483647 := ⟨_, rfl⟩
  have t0 : 0 ≤ t := by rw [ht]; exact Int.emod_nonneg _ (by decide)
  have t1 : t < 2147483647 := by rw [ht]; exact Int.emod_lt_of_pos _ (by decide)
  have q4 : mulF (.int t) (.int 16981) = fI (t * 16981) := mulF_ok (by omega) (by decide)
  refine ⟨t, (t * 16981 + x * 47969 + 70019) % 2147483579, ?_, Int.emod_nonneg _ (by decide), Int.lt_trans (Int.emod_lt_of_pos _ (by decide)) (by decide)⟩
  unfold takeTail bag
  simp [evSs, evS, evE, evDs, Res.bind, ofR, R.opd, opR, ders, der, opF, op2, op1, O.frz, idxF, esc, at4, at3, at2, at1, at0, ix4, ix3, ix2, ix1, fI, fB, cmpF, putR, intF, outR, addF, q1, q2, q3, m1, m2, m3, d1, ← ht, q4]
theorem take_body {cal : Nat → List Slot → CRes} {L : Nat} {ns : List Int} {i : Nat} {r x : Int} {c : Nat} {many : Int} (B : BagS ns i r x c) (hc : c < 2 ^ 40) (hm : 0 < many) (hm2 : many < 2 ^ 64) :
    ∃ d s m, evSs cal L dTake.body [bag ns i r x c, .fz (.int many), .no, .no, .no] = .rt (.fz (.int d)) (s :: m) ∧ 0 ≤ d ∧ d < many ∧ Bag (c + 1) s := by
  obtain ⟨r0, x0, x1⟩ := B
  have key : ∀ {i' : Nat} {r' x' : Int} {s2 : Slot}, 0 ≤ r' → 0 ≤ x' → x' < 2147483647 → ∃ d s m, evSs cal L takeTail [bag ns i' r' x' (c + 1), .fz (.int many), s2, .no, .no] = .rt (.fz (.int d)) (s :: m) ∧ 0 ≤ d ∧ d < many ∧ Bag (c + 1) s := fun {i' r' x' s2} h1 h2 h3 => by
    by_cases hr : 0 < r'
    · exact ⟨_, _, _, tail_pos hr hm hm2, Int.emod_nonneg _ (by omega), Int.emod_lt_of_pos _ hm, ns, i', r' / many, x', rfl, Int.ediv_nonneg h1 (by omega), h2, h3⟩
    · have : r' = 0 := by omega
      subst this
      obtain ⟨t, x'', e, g1, g2⟩ := tail_zero (cal := cal) (L := L) (ns := ns) (i := i') (s2 := s2) (s3 := .no) (s4 := .no) h2 h3 (show c + 1 < 2 ^ 41 by omega) hm hm2
      exact ⟨_, _, _, e, Int.emod_nonneg _ (by omega), Int.emod_lt_of_pos _ hm, ns, i', 0, x'', rfl, Int.le_refl _, g1, g2⟩
  have s1 : ∀ rest, evSs cal L (.cons (.sto 0 (.c (.int 4)) (.op .add (.cons (.op .idx (.cons (.var 0) (.cons (.c (.int 4)) .nil))) (.cons (.c (.int 1)) .nil)))) rest) [bag ns i r x c, .fz (.int many), .no, .no, .no] = evSs cal L rest [bag ns i r x (c + 1), .fz (.int many), .no, .no, .no] := fun rest => by
    unfold bag
    simp [evSs, evS, evE, evDs, Res.bind, ofR, R.opd, opR, ders, der, opF, op2, op1, O.frz, idxF, esc, at4, ix4, fI, addF]
  unfold dTake
  rw [s1]
  by_cases hb : r = 0 ∧ i < ns.length
  · obtain ⟨rfl, hi⟩ := hb
    obtain ⟨n, hn⟩ : ∃ n, ns[i]? = some n := ⟨ns[i], List.getElem?_eq_getElem hi⟩
    have a1 : atI (ns.map T.int) (i : Int) = some (.int n) := atI_nat rfl (by rw [List.getElem?_map, hn]; rfl)
    have p1 : powF (.int 10) (.int 18) = fI 1000000000000000000 := rfl
    have m2 : ∀ y : Int, modF (.int y) (.int 2147483579) = fI (y % 2147483579) := fun y => rfl
    have m3 : ∀ y : Int, modF (.int y) (.int 1000211) = fI (y % 1000211) := fun y => rfl
    have n0 : 0 ≤ n % 1000211 := Int.emod_nonneg _ (by decide)
    have n1 : n % 1000211 < 1000211 := Int.emod_lt_of_pos _ (by decide)
    have b400 : (2 : Nat) ^ 64 < 2 ^ 200 := by decide
    have q1 : mulF (.int x) (.int 47303) = fI (x * 47303) := mulF_ok (by omega) (by decide)
    have q2 : mulF (.int (n % 1000211)) (.int 733) = fI (n % 1000211 * 733) := mulF_ok (by omega) (by decide)
    have e : ∃ r' x' s2, evSs cal L (.cons (.ife (.an (.op .eq (.cons (.op .idx (.cons (.var 0) (.cons (.c (.int 2)) .nil))) (.cons (.c (.int 0)) .nil))) (.op .lt (.cons (.op .idx (.cons (.var 0) (.cons (.c (.int 1)) .nil))) (.cons (.op .len (.cons (.op .idx (.cons (.var 0) (.cons (.c (.int 0)) .nil))) .nil)) .nil)))) (.cons (.set 2 (.op .idx (.cons (.op .idx (.cons (.var 0) (.cons (.c (.int 0)) .nil))) (.cons (.op .idx (.cons (.var 0) (.cons (.c (.int 1)) .nil))) .nil))))
  (.cons (.sto 0 (.c (.int 1)) (.op .add (.cons (.op .idx (.cons (.var 0) (.cons (.c (.int 1)) .nil))) (.cons (.c (.int 1)) .nil))))
  (.cons (.ife (.op .ge (.cons (.op .abs (.cons (.var 2) .nil)) (.cons (.op .pow (.cons (.c (.int 10)) (.cons (.c (.int 18)) .nil))) .nil))) (.cons (.sto 0 (.c (.int 2)) (.op .abs (.cons (.var 2) .nil)))
  .nil) (.cons (.sto 0 (.c (.int 3)) (.op .mod (.cons (.op .int (.cons (.op .add (.cons (.op .add (.cons (.op .mul (.cons (.op .idx (.cons (.var 0) (.cons (.c (.int 3)) .nil))) (.cons (.c (.int 47303)) .nil))) (.cons (.op .mul (.cons (.op .mod (.cons (.op .int (.cons (.var 2) .nil)) (.cons (.c (.int 1000211)) .nil))) (.cons (.c (.int 733)) .nil))) .nil))) (.cons (.c (.int 59)) .nil))) .nil)) (.cons (.c (.int 2147483579)) .nil))))
  .nil))
  .nil))) .nil) takeTail) [bag ns i 0 x (c + 1), .fz (.int many), .no, .no, .no] = evSs cal L takeTail [bag ns (i + 1) r' x' (c + 1), .fz (.int many), s2, .no, .no] ∧ 0 ≤ r' ∧ 0 ≤ x' ∧ x' < 2147483647 := by
      by_cases hg : (1000000000000000000 : Int) ≤ (if n < 0 then -n else n)
      · refine ⟨if n < 0 then -n else n, x, .fz (.int n), ?_, by omega, x0, x1⟩
        unfold bag
        simp [evSs, evS, evE, evDs, Res.bind, ofR, R.opd, opR, ders, der, opF, op2, op1, O.frz, idxF, esc, at4, at3, at2, at1, at0, ix1, ix2, ix3, fI, fB, cmpF, eqF, scalT, flatT, eqT, lenF, hi, a1, p1, absF, hg, addF, putR]
      · refine ⟨0, (x * 47303 + n % 1000211 * 733 + 59) % 2147483579, .fz (.int n), ?_, by omega, Int.emod_nonneg _ (by decide), Int.lt_trans (Int.emod_lt_of_pos _ (by decide)) (by decide)⟩
        unfold bag
        simp [evSs, evS, evE, evDs, Res.bind, ofR, R.opd, opR, ders, der, opF, op2, op1, O.frz, idxF, esc, at4, at3, at2, at1, at0, ix1, ix2, ix3, fI, fB, cmpF, eqF, scalT, flatT, eqT, lenF, hi, a1, p1, absF, hg, addF, intF, m2, m3, q1, q2, putR]
    obtain ⟨r', x', s2, e, g1, g2, g3⟩ := e
    exact e ▸ key g1 g2 g3
  · have e : evSs cal L (.cons (.ife (.an (.op .eq (.cons (.op .idx (.cons (.var 0) (.cons (.c (.int 2)) .nil))) (.cons (.c (.int 0)) .nil))) (.op .lt (.cons (.op .idx (.cons (.var 0) (.cons (.c (.int 1)) .nil))) (.cons (.op .len (.cons (.op .idx (.cons (.var 0) (.cons (.c (.int 0)) .nil))) .nil)) .nil)))) (.cons (.set 2 (.op .idx (.cons (.op .idx (.cons (.var 0) (.cons (.c (.int 0)) .nil))) (.cons (.op .idx (.cons (.var 0) (.cons (.c (.int 1)) .nil))) .nil))))
  (.cons (.sto 0 (.c (.int 1)) (.op .add (.cons (.op .idx (.cons (.var 0) (.cons (.c (.int 1)) .nil))) (.cons (.c (.int 1)) .nil))))
  (.cons (.ife (.op .ge (.cons (.op .abs (.cons (.var 2) .nil)) (.cons (.op .pow (.cons (.c (.int 10)) (.cons (.c (.int 18)) .nil))) .nil))) (.cons (.sto 0 (.c (.int 2)) (.op .abs (.cons (.var 2) .nil)))
  .nil) (.cons (.sto 0 (.c (.int 3)) (.op .mod (.cons (.op .int (.cons (.op .add (.cons (.op .add (.cons (.op .mul (.cons (.op .idx (.cons (.var 0) (.cons (.c (.int 3)) .nil))) (.cons (.c (.int 47303)) .nil))) (.cons (.op .mul (.cons (.op .mod (.cons (.op .int (.cons (.var 2) .nil)) (.cons (.c (.int 1000211)) .nil))) (.cons (.c (.int 733)) .nil))) .nil))) (.cons (.c (.int 59)) .nil))) .nil)) (.cons (.c (.int 2147483579)) .nil))))
  .nil))
  .nil))) .nil) takeTail) [bag ns i r x (c + 1), .fz (.int many), .no, .no, .no] = evSs cal L takeTail [bag ns i r x (c + 1), .fz (.int many), .no, .no, .no] := by
      unfold bag
      by_cases h0 : r = 0
      · have : ¬ i < ns.length := fun z => hb ⟨h0, z⟩
        simp [evSs, evS, evE, evDs, Res.bind, ofR, R.opd, opR, ders, der, opF, op2, op1, O.frz, idxF, esc, at2, at1, at0, fI, fB, cmpF, eqF, scalT, flatT, eqT, lenF, h0, this]
      · have : (r == 0) = false := by simpa using h0
        simp [evSs, evS, evE, evDs, Res.bind, ofR, R.opd, opR, ders, der, opF, op2, op1, O.frz, idxF, esc, at2, at1, at0, fI, fB, cmpF, eqF, scalT, flatT, eqT, lenF, this]
    exact e ▸ key r0 x0 x1
/-! ### a call, by its body's run -/
theorem run_rt {Γ : Nat → Option Def} {L k f : Nat} {d : Def} {args m : List Slot} {r : R} (hf : Γ f = some d) (hl : args.length = d.np) (hr : ∀ i, r ≠ .bo i) (h : evSs (callF Γ L k) L d.body (args ++ List.replicate (d.ns - d.np) .no) = .rt r m) : callF Γ L (k + 1) f args = .ok r (outsM d.io m) := by
  unfold callF
  rw [hf]
  show runD _ _ d _ = _
  unfold runD
  rw [if_pos hl, h]
  cases r with
  | fz t => rfl
  | ow o => rfl
  | bo i => exact absurd rfl (hr i)
theorem run_fz {Γ : Nat → Option Def} {L k f : Nat} {d : Def} {args m : List Slot} {t : T} (hf : Γ f = some d) (hl : args.length = d.np) (h : evSs (callF Γ L k) L d.body (args ++ List.replicate (d.ns - d.np) .no) = .rt (.fz t) m) : callF Γ L (k + 1) f args = .ok (.fz t) (outsM d.io m) := run_rt hf hl (fun _ z => nomatch z) h
theorem run_ow {Γ : Nat → Option Def} {L k f : Nat} {d : Def} {args m : List Slot} {o : O} (hf : Γ f = some d) (hl : args.length = d.np) (h : evSs (callF Γ L k) L d.body (args ++ List.replicate (d.ns - d.np) .no) = .rt (.ow o) m) : callF Γ L (k + 1) f args = .ok (.ow o) (outsM d.io m) := run_rt hf hl (fun _ z => nomatch z) h
theorem take_ok {Γ : Nat → Option Def} {L k f : Nat} (hf : Γ f = some dTake) {s : Slot} {c : Nat} {many : Int} (B : Bag c s) (hc : c < 2 ^ 40) (hm : 0 < many) (hm2 : many < 2 ^ 64) :
    ∃ d s', callF Γ L (k + 1) f [s, .fz (.int many)] = .ok (.fz (.int d)) [s', .no] ∧ 0 ≤ d ∧ d < many ∧ Bag (c + 1) s' := by
  obtain ⟨ns, i, r, x, rfl, B⟩ := B
  obtain ⟨d, s', m, e, h0, h1, h2⟩ := take_body (cal := callF Γ L k) (L := L) B hc hm hm2
  refine ⟨d, s', ?_, h0, h1, h2⟩
  rw [run_fz (args := [bag ns i r x c, .fz (.int many)]) hf rfl e]
  cases m <;> rfl
theorem Bag.ow {c : Nat} {s : Slot} (B : Bag c s) : ∃ o, s = .ow o := by
  obtain ⟨ns, i, r, x, rfl, _⟩ := B
  exact ⟨_, rfl⟩
theorem of_ok {Γ : Nat → Option Def} {L k f t : Nat} (hf : Γ f = some (dOf t)) (ht : Γ t = some dTake) {s : Slot} {c n : Nat} {xs : T} (B : Bag c s) (hc : c < 2 ^ 40) (hx : lenF xs = fI n) (h0 : 0 < n) (h1 : n < 2 ^ 63) (hi : ∀ d : Nat, d < n → ∃ y, idxF xs (.int d) = some (.fz y)) :
    ∃ d y s', callF Γ L (k + 2) f [s, .fz xs] = .ok (.fz y) [s', .no] ∧ d < n ∧ idxF xs (.int (d : Nat)) = some (.fz y) ∧ Bag (c + 1) s' := by
  obtain ⟨d, s', e, g0, g1, B'⟩ := take_ok (Γ := Γ) (L := L) (k := k) ht B hc (show (0 : Int) < n by omega) (by omega)
  obtain ⟨d', rfl⟩ := Int.eq_ofNat_of_zero_le g0
  obtain ⟨y, hy⟩ := hi d' (by omega)
  refine ⟨d', y, s', ?_, by omega, hy, B'⟩
  obtain ⟨o, rfl⟩ := B.ow
  have hb : evSs (callF Γ L (k + 1)) L (dOf t).body ([.ow o, .fz xs] ++ List.replicate ((dOf t).ns - (dOf t).np) .no) = .rt (.fz y) [s', .fz xs] := by
    have hy' : idxF xs (.int (d' : Int)) = some (.fz y) := hy
    have e' : callF Γ L (k + 1) t [.ow o, .fz (.int (n : Int))] = .ok (.fz (.int (d' : Int))) [s', .no] := e
    unfold dOf
    simp [evSs, evS, evE, evDs, Res.bind, ofR, R.opd, opR, ders, der, opF, op2, op1, O.frz, esc, callR, pass, back, hx, fI, e', hy', outR]
  rw [run_fz (args := [.ow o, .fz xs]) hf rfl hb]
  rfl
/-! ### the bag's making -/
def bagMix (x n : Int) : Int := (x * 46337 + n % 1000211 * 919 + 41) % 2147483563
theorem bag_loop {cal : Nat → List Slot → CRes} {L : Nat} {s0 : Slot} : ∀ (ns : List Int) (x : Int) (s2 : Slot), 0 ≤ x → x < 2147483647 → ∃ x' s2', forGo (.nm 2) (fun m => evSs cal L bagB m) (ns.map T.int) [s0, .fz (.int x), s2] = .nx [s0, .fz (.int x'), s2'] ∧ 0 ≤ x' ∧ x' < 2147483647
  | [], x, s2, h0, h1 => ⟨x, s2, rfl, h0, h1⟩
  | n :: ns, x, s2, h0, h1 => by
    have n0 : 0 ≤ n % 1000211 := Int.emod_nonneg _ (by decide)
    have n1 : n % 1000211 < 1000211 := Int.emod_lt_of_pos _ (by decide)
    have b400 : (2 : Nat) ^ 64 < 2 ^ 200 := by decide
    have q1 : mulF (.int x) (.int 46337) = fI (x * 46337) := mulF_ok (by omega) (by decide)
    have q2 : mulF (.int (n % 1000211)) (.int 919) = fI (n % 1000211 * 919) := mulF_ok (by omega) (by decide)
    have m2 : ∀ y : Int, modF (.int y) (.int 2147483563) = fI (y % 2147483563) := fun y => rfl
    have m3 : ∀ y : Int, modF (.int y) (.int 1000211) = fI (y % 1000211) := fun y => rfl
    obtain ⟨x', s2', e, g0, g1⟩ := bag_loop (cal := cal) (L := L) (s0 := s0) ns ((x * 46337 + n % 1000211 * 919 + 41) % 2147483563) (.fz (.int n)) (Int.emod_nonneg _ (by decide)) (Int.lt_trans (Int.emod_lt_of_pos _ (by decide)) (by decide))
    refine ⟨x', s2', ?_, g0, g1⟩
    rw [List.map_cons]
    unfold forGo
    rw [← e]
    simp [bagB, bindP, evSs, evS, evE, evDs, Res.bind, ofR, R.opd, opR, ders, der, opF, op2, op1, fI, intF, addF, q1, q2, m2, m3, putR]
theorem bag_ok {Γ : Nat → Option Def} {L k f : Nat} (hf : Γ f = some dBag) {ns : List Int} : ∃ s, callF Γ L (k + 1) f [.fz (.scr ns)] = .ok (.ow s) [.no] ∧ Bag 0 (.ow s) := by
  obtain ⟨x', s2', e, g0, g1⟩ := bag_loop (cal := callF Γ L k) (L := L) (s0 := .fz (.scr ns)) (cutI ns none (some 63)) 12006 .no (by decide) (by decide)
  have hb : evSs (callF Γ L k) L dBag.body ([.fz (.scr ns)] ++ List.replicate (dBag.ns - dBag.np) .no) = .rt (.ow (.lst [.lst ((cutI ns none (some 63)).map .int), .int 0, .int 0, .int x', .int 0])) [.fz (.scr ns), .fz (.int x'), s2'] := by
    have sl : (5 : Nat) ≤ sizeLine := by decide
    unfold dBag
    simp [evSs, evS, evSrc, evE, evDs, Res.bind, ofR, R.opd, opR, ders, der, opF, op2, op1, intO, slF, esc, escs, O.frz, itemsT, putR, e, listF, outR, sl]
  exact ⟨_, run_ow (args := [.fz (.scr ns)]) hf rfl hb, _, 0, 0, x', rfl, Int.le_refl _, g0, g1⟩
end Mi
set_option maxHeartbeats 4000000
namespace Mi
open PySem PySem.Spec PyProof.Rows L2

/-! ### equal, of the same kinds -/
def smK (f : Nat) : E := (.call f [false, false] (.cons (.op .idx (.cons (.var 0) (.cons (.var 2) .nil))) (.cons (.op .idx (.cons (.var 1) (.cons (.var 2) .nil))) .nil)))
def sameE (f : Nat) : E := (.call f [false, false] (.cons (.var 3) (.cons (.var 4) .nil)))
def same0 (f : Nat) : S := (.ife (.or (.op .isn (.cons (.var 1) (.cons (.c .non) .nil))) (.op .isn (.cons (.var 0) (.cons (.c .non) .nil)))) (.cons (.ret (.an (.op .isn (.cons (.var 1) (.cons (.c .non) .nil))) (.op .isn (.cons (.var 0) (.cons (.c .non) .nil)))))
  .nil) .nil)
def same1 (f : Nat) : S := (.ife (.op (.isi1 .dict) (.cons (.var 1) .nil)) (.cons (.ife (.or (.nt (.op (.isi1 .dict) (.cons (.var 0) .nil))) (.op .ne (.cons (.op .list (.cons (.var 0) .nil)) (.cons (.op .list (.cons (.var 1) .nil)) .nil)))) (.cons (.ret (.c (.bl false)))
  .nil) .nil)
  (.cons (.ret (.op .all (.cons (.comp [2] (.nm 2) (.it (.var 1)) .nil (smK f)) .nil)))
  .nil)) .nil)
def same2 (f : Nat) : S := (.ife (.op (.isi [.list, .tuple]) (.cons (.var 1) .nil)) (.cons (.ife (.op .ne (.cons (.op (.isi1 .list) (.cons (.var 0) .nil)) (.cons (.op (.isi1 .list) (.cons (.var 1) .nil)) .nil))) (.cons (.ret (.c (.bl false)))
  .nil) .nil)
  (.cons (.ife (.or (.op .ne (.cons (.op (.isi1 .tuple) (.cons (.var 0) .nil)) (.cons (.op (.isi1 .tuple) (.cons (.var 1) .nil)) .nil))) (.op .ne (.cons (.op .len (.cons (.var 0) .nil)) (.cons (.op .len (.cons (.var 1) .nil)) .nil)))) (.cons (.ret (.c (.bl false)))
  .nil) .nil)
  (.cons (.ret (.op .all (.cons (.comp [3, 4] (.tup (.cons (.nm 3) (.cons (.nm 4) .nil))) (.zip (.var 0) (.var 1)) .nil (sameE f)) .nil)))
  .nil))) .nil)
def same3 (f : Nat) : S := (.ife (.op (.isi [.list, .tuple, .dict]) (.cons (.var 0) .nil)) (.cons (.ret (.c (.bl false)))
  .nil) .nil)
def same4 (f : Nat) : S := (.ife (.op .ne (.cons (.op (.isi1 .bool) (.cons (.var 0) .nil)) (.cons (.op (.isi1 .bool) (.cons (.var 1) .nil)) .nil))) (.cons (.ret (.c (.bl false)))
  .nil) .nil)
def same5 (f : Nat) : S := (.ife (.op .ne (.cons (.op (.isi1 .int) (.cons (.var 0) .nil)) (.cons (.op (.isi1 .int) (.cons (.var 1) .nil)) .nil))) (.cons (.ret (.c (.bl false)))
  .nil) .nil)
def same6 (f : Nat) : S := (.ret (.an (.op .eq (.cons (.op (.isi1 .str) (.cons (.var 0) .nil)) (.cons (.op (.isi1 .str) (.cons (.var 1) .nil)) .nil))) (.op .eq (.cons (.var 0) (.cons (.var 1) .nil)))))
def dSame (f : Nat) : Def := ⟨2, 5, [false, false],
  (.cons (same0 f) (.cons (same1 f) (.cons (same2 f) (.cons (same3 f) (.cons (same4 f) (.cons (same5 f) (.cons (same6 f) .nil)))))))⟩
theorem seq_nx {cal : Nat → List Slot → CRes} {L : Nat} {s : S} {r : Ss} {m m' : List Slot} (h : evS cal L s m = .nx m') : evSs cal L (.cons s r) m = evSs cal L r m' := by
  rw [evSs, h]
theorem seq_rt {cal : Nat → List Slot → CRes} {L : Nat} {s : S} {r : Ss} {m m' : List Slot} {x : R} (h : evS cal L s m = .rt x m') : evSs cal L (.cons s r) m = .rt x m' := by
  rw [evSs, h]
/-- a comprehension whose turns leave the slots as they are -/
theorem comp_map {own : List Nat} {p : Pt} {cond elt : List Slot → Res R} {m0 : List Slot} (g : T → T) : ∀ (xs acc : List T), (∀ x ∈ xs, ∃ m1 r, bindP (wipeM m0 own) p x = some m1 ∧ cond m1 = .ok (.fz (.bl true)) m1 ∧ elt m1 = .ok r m1 ∧ esc m1 r.opd = some (g x, m1) ∧ wipeM m1 own = m0) → acc.length + xs.length ≤ sizeLine →
    compGo own p cond elt xs acc m0 = .ok (acc ++ xs.map g) m0
  | [], acc, _, _ => by rw [compGo, List.map_nil, List.append_nil]
  | x :: xs, acc, h, hl => by
    obtain ⟨m1, r, h1, h2, h3, h4, h5⟩ := h x List.mem_cons_self
    simp only [List.length_cons] at hl
    unfold compGo
    simp only [h1, h2, Res.bind, h3, h4, h5]
    rw [if_pos (by omega), comp_map g xs (acc ++ [g x]) (fun y hy => h y (List.mem_cons_of_mem _ hy)) (by simp; omega), List.append_assoc]
    rfl
/-! ### the law's draws, at a slot -/
theorem ev_bag {cal : Nat → List Slot → CRes} {i : Nat} {m : List Slot} {s : Slot} {c : Nat} (h : m[i]? = some s) (B : Bag c s) : evE cal (.var i) m = .ok (.bo i) m := by
  obtain ⟨o, rfl⟩ := B.ow
  rw [evE, h]
theorem ev_take {Γ : Nat → Option Def} {L k f i c0 c : Nat} (hf : Γ f = some dTake) {m m1 : List Slot} {s0 s : Slot} {e : E} {many : Int} (h0 : m[i]? = some s0) (B0 : Bag c0 s0) (he : evE (callF Γ L (k + 1)) e m = .ok (.fz (.int many)) m1) (h1 : m1[i]? = some s) (B : Bag c s) (hc : c < 2 ^ 40) (hm : 0 < many) (hm2 : many < 2 ^ 64) :
    ∃ d s', evE (callF Γ L (k + 1)) (.call f [true, false] (.cons (.var i) (.cons e .nil))) m = .ok (.fz (.int d)) (m1.set i s') ∧ 0 ≤ d ∧ d < many ∧ Bag (c + 1) s' := by
  obtain ⟨d, s', e1, g0, g1, B'⟩ := take_ok (Γ := Γ) (L := L) (k := k) hf B hc hm hm2
  refine ⟨d, s', ?_, g0, g1, B'⟩
  obtain ⟨o, rfl⟩ := B.ow
  rw [evE, evDs, ev_bag h0 B0]
  simp only [Res.bind]
  rw [evDs, he]
  simp [Res.bind, evDs, R.opd, callR, pass, h1, esc, e1, back, List.set_set]
theorem ev_of {Γ : Nat → Option Def} {L k f t i c0 c n : Nat} (hf : Γ f = some (dOf t)) (ht : Γ t = some dTake) {m m1 : List Slot} {s0 s : Slot} {e : E} {xs : T} {r : R} (h0 : m[i]? = some s0) (B0 : Bag c0 s0) (he : evE (callF Γ L (k + 2)) e m = .ok r m1) (hr : esc (m1.set i .no) r.opd = some (xs, m1.set i .no)) (h1 : m1[i]? = some s) (B : Bag c s) (hc : c < 2 ^ 40)
    (hx : lenF xs = fI n) (hn : 0 < n) (hn2 : n < 2 ^ 63) (hi : ∀ d : Nat, d < n → ∃ y, idxF xs (.int d) = some (.fz y)) :
    ∃ d y s', evE (callF Γ L (k + 2)) (.call f [true, false] (.cons (.var i) (.cons e .nil))) m = .ok (.fz y) (m1.set i s') ∧ d < n ∧ idxF xs (.int (d : Nat)) = some (.fz y) ∧ Bag (c + 1) s' := by
  obtain ⟨d, y, s', e1, g0, g1, B'⟩ := of_ok (Γ := Γ) (L := L) (k := k) hf ht B hc hx hn hn2 hi
  refine ⟨d, y, s', ?_, g0, g1, B'⟩
  obtain ⟨o, rfl⟩ := B.ow
  rw [evE, evDs, ev_bag h0 B0]
  simp only [Res.bind]
  rw [evDs, he]
  simp only [Res.bind, evDs, callR]
  have hp : pass m1 [true, false] [Opd.b i, r.opd] = some ([.ow o, .fz xs], m1.set i .no) := by
    simp only [pass, h1, hr]
  rw [show (R.bo i).opd = Opd.b i from rfl, hp]
  simp only [e1, back, List.set_set]
theorem idx_lst {xs : List T} {d : Nat} (h : d < xs.length) : ∃ y, idxF (.lst xs) (.int d) = some (.fz y) := by
  refine ⟨xs[d], ?_⟩
  show (atI xs d).map _ = _
  rw [atI_nat (x := xs[d]) rfl (List.getElem?_eq_getElem h)]
  rfl
theorem idx_lst_mem {xs : List T} {d : Nat} {y : T} (hd : d < xs.length) (h : idxF (.lst xs) (.int d) = some (.fz y)) : y ∈ xs := by
  have h : (atI xs (d : Int)).map R.fz = some (.fz y) := h
  rw [atI_nat (x := xs[d]) rfl (List.getElem?_eq_getElem hd)] at h
  cases h
  exact List.getElem_mem hd
/-- a draw out of a list that was just made -/
theorem ev_ofL {Γ : Nat → Option Def} {L k f t i c0 c : Nat} (hf : Γ f = some (dOf t)) (ht : Γ t = some dTake) {m m1 : List Slot} {s0 s : Slot} {e : E} {xs : List T} (h0 : m[i]? = some s0) (B0 : Bag c0 s0) (he : evE (callF Γ L (k + 2)) e m = .ok (.ow (.lst xs)) m1) (h1 : m1[i]? = some s) (B : Bag c s) (hc : c < 2 ^ 40) (hn : 0 < xs.length) (hn2 : xs.length < 2 ^ 63) :
    ∃ y s', evE (callF Γ L (k + 2)) (.call f [true, false] (.cons (.var i) (.cons e .nil))) m = .ok (.fz y) (m1.set i s') ∧ y ∈ xs ∧ Bag (c + 1) s' := by
  obtain ⟨d, y, s', e1, g0, g1, B'⟩ := ev_of (n := xs.length) (xs := .lst xs) hf ht h0 B0 he rfl h1 B hc rfl hn hn2 fun d hd => idx_lst hd
  exact ⟨y, s', e1, idx_lst_mem g0 g1, B'⟩
/-- displays -/
theorem ds_nil {cal : Nat → List Slot → CRes} {m : List Slot} : evDs cal .nil m = .ok [] m := by rw [evDs]
theorem ds_cons {cal : Nat → List Slot → CRes} {e : E} {r : Es} {m m1 m2 : List Slot} {x : R} {t : T} {ts : List T} (h : evE cal e m = .ok x m1) (hx : x.opd = .t t) (h' : evDs cal r m1 = .ok (ts.map Opd.t) m2) : evDs cal (.cons e r) m = .ok ((t :: ts).map Opd.t) m2 := by
  rw [evDs, h]
  simp only [Res.bind, h', hx, List.map_cons]
theorem escs_t {m : List Slot} : ∀ ts : List T, escs m (ts.map Opd.t) = some (ts, m)
  | [] => rfl
  | t :: ts => by simp only [List.map_cons, escs, esc, escs_t ts]
theorem ev_lst {cal : Nat → List Slot → CRes} {es : Es} {m m1 : List Slot} {ts : List T} (h : evDs cal es m = .ok (ts.map Opd.t) m1) (hl : ts.length ≤ sizeLine) : evE cal (.lst es) m = .ok (.ow (.lst ts)) m1 := by
  rw [evE, h]
  simp only [Res.bind, escs_t, if_pos hl]
theorem ev_tup {cal : Nat → List Slot → CRes} {es : Es} {m m1 : List Slot} {ts : List T} (h : evDs cal es m = .ok (ts.map Opd.t) m1) (hl : ts.length ≤ sizeLine) : evE cal (.tup es) m = .ok (.fz (.tup ts)) m1 := by
  rw [evE, h]
  simp only [Res.bind, escs_t, if_pos hl]
theorem ev_pair {cal : Nat → List Slot → CRes} {a b : E} {m m1 m2 : List Slot} {x y : R} {t u : T} (h : evE cal a m = .ok x m1) (hx : x.opd = .t t) (h' : evE cal b m1 = .ok y m2) (hy : y.opd = .t u) : evE cal (.tup (.cons a (.cons b .nil))) m = .ok (.fz (.tup [t, u])) m2 :=
  ev_tup (ts := [t, u]) (ds_cons h hx (ds_cons (ts := []) h' hy ds_nil)) (show 2 ≤ sizeLine by decide)
theorem src_rng1 {cal : Nat → List Slot → CRes} {e : E} {m m1 : List Slot} {j : Int} (h : evE cal e m = .ok (.fz (.int j)) m1) (hw : wideI j = true) : evSrc cal (.rng1 e) m = .ok (Mi.rangeT 0 j) m1 := by
  rw [evSrc, h]
  simp only [Res.bind, R.opd, der, hw, if_true]
theorem src_it {cal : Nat → List Slot → CRes} {e : E} {m m1 m2 : List Slot} {r : R} {t : T} {xs : List T} (h : evE cal e m = .ok r m1) (he : esc m1 r.opd = some (t, m2)) (hi : itemsT t = some xs) : evSrc cal (.it e) m = .ok xs m2 := by
  rw [evSrc, h]
  simp only [Res.bind, he, hi]
theorem ev_comp {cal : Nat → List Slot → CRes} {own : List Nat} {p : Pt} {s : Src} {cs : Es} {e : E} {m m1 m2 : List Slot} {xs acc : List T} (h : evSrc cal s m = .ok xs m1) (hn : noOw m1 own = true) (hc : compGo own p (fun m => evAll cal cs m) (fun m => evE cal e m) xs [] (wipeM m1 own) = .ok acc m2) :
    evE cal (.comp own p s cs e) m = .ok (.ow (.lst acc)) (restM m1 m2 own) := by
  rw [evE, h]
  simp only [Res.bind, if_pos hn, hc, Res.calm]
/-! own calls -/
theorem ev_call1 {cal : Nat → List Slot → CRes} {f : Nat} {a : E} {m m1 : List Slot} {r : R} {t u : T} {o : Slot} (h : evE cal a m = .ok r m1) (hr : r.opd = .t t) (hc : cal f [.fz t] = .ok (.fz u) [o]) : evE cal (.call f [false] (.cons a .nil)) m = .ok (.fz u) m1 := by
  rw [evE, evDs, h]
  simp [Res.bind, evDs, hr, callR, pass, esc, hc, back]
theorem ev_call2 {cal : Nat → List Slot → CRes} {f : Nat} {a b : E} {m m1 m2 : List Slot} {r r' : R} {t t' u : T} {o o' : Slot} (h : evE cal a m = .ok r m1) (hr : r.opd = .t t) (h' : evE cal b m1 = .ok r' m2) (hr' : r'.opd = .t t') (hc : cal f [.fz t, .fz t'] = .ok (.fz u) [o, o']) : evE cal (.call f [false, false] (.cons a (.cons b .nil))) m = .ok (.fz u) m2 := by
  rw [evE, evDs, h]
  simp only [Res.bind]
  rw [evDs, h']
  simp [Res.bind, evDs, hr, hr', callR, pass, esc, hc, back]
theorem ev_call3 {cal : Nat → List Slot → CRes} {f : Nat} {a b d : E} {m m1 m2 m3 : List Slot} {r r' r2 : R} {t t' t2 u : T} {o o' o2 : Slot} (h : evE cal a m = .ok r m1) (hr : r.opd = .t t) (h' : evE cal b m1 = .ok r' m2) (hr' : r'.opd = .t t') (h2 : evE cal d m2 = .ok r2 m3) (hr2 : r2.opd = .t t2) (hc : cal f [.fz t, .fz t', .fz t2] = .ok (.fz u) [o, o', o2]) :
    evE cal (.call f [false, false, false] (.cons a (.cons b (.cons d .nil)))) m = .ok (.fz u) m3 := by
  rw [evE, evDs, h]
  simp only [Res.bind]
  rw [evDs, h']
  simp only [Res.bind]
  rw [evDs, h2]
  simp [Res.bind, evDs, hr, hr', hr2, callR, pass, esc, hc, back]
/-- flat values, compared -/
def sameT : T → T → Bool
  | .non, .non => true
  | .bl a, .bl b => a == b
  | .int a, .int b => a == b
  | .str a, .str b => a == b
  | _, _ => false
theorem same_flat {Γ : Nat → Option Def} {L k f s : Nat} (hf : Γ f = some (dSame s)) {x y : T} (hx : flatT x = true) (hy : flatT y = true) : callF Γ L (k + 1) f [.fz x, .fz y] = .ok (.fz (.bl (sameT x y))) [.no, .no] := by
  have hb : ∃ m, evSs (callF Γ L k) L (dSame s).body ([.fz x, .fz y] ++ List.replicate ((dSame s).ns - (dSame s).np) .no) = .rt (.fz (.bl (sameT x y))) m := by
    cases x <;> first | (cases hx; done) | skip
    all_goals (cases y <;> first | (cases hy; done) | skip)
    all_goals exact ⟨_, rfl⟩
  obtain ⟨m, hb⟩ := hb
  rw [run_fz (args := [.fz x, .fz y]) hf rfl hb]
  rcases m with _ | ⟨a, _ | ⟨b, m⟩⟩ <;> rfl
theorem ev_an1 {cal : Nat → List Slot → CRes} {a b : E} {m m1 : List Slot} (h : evE cal a m = .ok (.fz (.bl true)) m1) : evE cal (.an a b) m = evE cal b m1 := by rw [evE, h]; rfl
theorem ev_an0 {cal : Nat → List Slot → CRes} {a b : E} {m m1 : List Slot} (h : evE cal a m = .ok (.fz (.bl false)) m1) : evE cal (.an a b) m = .ok (.fz (.bl false)) m1 := by rw [evE, h]; rfl
theorem ev_or1 {cal : Nat → List Slot → CRes} {a b : E} {m m1 : List Slot} (h : evE cal a m = .ok (.fz (.bl true)) m1) : evE cal (.or a b) m = .ok (.fz (.bl true)) m1 := by rw [evE, h]; rfl
theorem ev_or0 {cal : Nat → List Slot → CRes} {a b : E} {m m1 : List Slot} (h : evE cal a m = .ok (.fz (.bl false)) m1) : evE cal (.or a b) m = evE cal b m1 := by rw [evE, h]; rfl
theorem ev_nt {cal : Nat → List Slot → CRes} {a : E} {m m1 : List Slot} {b : Bool} (h : evE cal a m = .ok (.fz (.bl b)) m1) : evE cal (.nt a) m = .ok (.fz (.bl (!b))) m1 := by rw [evE, h]; rfl
theorem ev_op1 {cal : Nat → List Slot → CRes} {f : Op} {a : E} {m m1 : List Slot} {t : T} {r : R} (h : evE cal a m = .ok (.fz t) m1) (hr : opF f [t] = some r) : evE cal (.op f (.cons a .nil)) m = .ok r m1 := by
  rw [evE, evDs, h]; simp [Res.bind, evDs, opR, ders, der, R.opd, hr]
theorem ev_op2 {cal : Nat → List Slot → CRes} {f : Op} {a b : E} {m m1 m2 : List Slot} {t u : T} {r : R} (h : evE cal a m = .ok (.fz t) m1) (h' : evE cal b m1 = .ok (.fz u) m2) (hr : opF f [t, u] = some r) : evE cal (.op f (.cons a (.cons b .nil))) m = .ok r m2 := by
  rw [evE, evDs, h]
  simp only [Res.bind]
  rw [evDs, h']
  simp [Res.bind, evDs, opR, ders, der, R.opd, hr]
theorem ev_var {cal : Nat → List Slot → CRes} {i : Nat} {m : List Slot} {t : T} (h : m[i]? = some (.fz t)) : evE cal (.var i) m = .ok (.fz t) m := by rw [evE, h]
theorem ev_c {cal : Nat → List Slot → CRes} {m : List Slot} {t : T} : evE cal (.c t) m = .ok (.fz t) m := by rw [evE]
theorem st_ret_fz {cal : Nat → List Slot → CRes} {L : Nat} {e : E} {m m1 : List Slot} {t : T} (h : evE cal e m = .ok (.fz t) m1) : evS cal L (.ret e) m = .rt (.fz t) m1 := by rw [evS, h]; rfl
theorem st_if1 {cal : Nat → List Slot → CRes} {L : Nat} {c : E} {a b : Ss} {m m1 : List Slot} (h : evE cal c m = .ok (.fz (.bl true)) m1) : evS cal L (.ife c a b) m = evSs cal L a m1 := by rw [evS, h]; rfl
theorem st_if0 {cal : Nat → List Slot → CRes} {L : Nat} {c : E} {a b : Ss} {m m1 : List Slot} (h : evE cal c m = .ok (.fz (.bl false)) m1) : evS cal L (.ife c a b) m = evSs cal L b m1 := by rw [evS, h]; rfl
theorem st_set_fz {cal : Nat → List Slot → CRes} {L : Nat} {i : Nat} {e : E} {m m1 : List Slot} {t : T} (h : evE cal e m = .ok (.fz t) m1) (hi : i < m1.length) : evS cal L (.set i e) m = .nx (m1.set i (.fz t)) := by rw [evS, h]; exact if_pos hi
theorem st_set_ow {cal : Nat → List Slot → CRes} {L : Nat} {i : Nat} {e : E} {m m1 : List Slot} {o : O} (h : evE cal e m = .ok (.ow o) m1) (hi : i < m1.length) : evS cal L (.set i e) m = .nx (m1.set i (.ow o)) := by rw [evS, h]; exact if_pos hi
/-- lists of flat values, compared -/
theorem same_list {Γ : Nat → Option Def} {L k f s : Nat} (hf : Γ f = some (dSame s)) (hs : Γ s = some (dSame s)) {xs ys : List T} (hx : xs.all flatT = true) (hy : ys.all flatT = true) (hl : xs.length = ys.length) (hz : xs.length ≤ sizeLine) :
    callF Γ L (k + 2) f [.fz (.lst xs), .fz (.lst ys)] = .ok (.fz (.bl ((xs.zip ys).all fun p => sameT p.1 p.2))) [.no, .no] := by
  let g : T → T := fun z => match z with
    | .tup [a, b] => .bl (sameT a b)
    | z => z
  have hg : (zipT xs ys).map g = ((xs.zip ys).map fun p => T.bl (sameT p.1 p.2)) := by
    clear hz hx hy
    induction xs generalizing ys with
    | nil => simp [zipT]
    | cons x xs ih =>
      cases ys with
      | nil => simp [zipT]
      | cons y ys => simp only [zipT, List.map_cons, List.zip_cons_cons, ih (by simpa using hl)]; rfl
  have hlen : (zipT xs ys).length ≤ sizeLine := by
    have := congrArg List.length hg
    rw [List.length_map, List.length_map, List.length_zip] at this
    omega
  have hmem : ∀ z ∈ zipT xs ys, ∃ a b, z = .tup [a, b] ∧ flatT a = true ∧ flatT b = true := by
    clear hg hlen hz
    induction xs generalizing ys with
    | nil => simp [zipT]
    | cons x xs ih =>
      cases ys with
      | nil => simp [zipT]
      | cons y ys =>
        intro z hz
        simp only [List.all_cons, Bool.and_eq_true] at hx hy
        simp only [zipT, List.mem_cons] at hz
        rcases hz with rfl | hz
        · exact ⟨x, y, rfl, hx.1, hy.1⟩
        · exact ih hx.2 hy.2 (by simpa using hl) z hz
  have hc := comp_map (own := [3, 4]) (p := .tup (.cons (.nm 3) (.cons (.nm 4) .nil))) (cond := fun m => evAll (callF Γ L (k + 1)) .nil m) (elt := fun m => evE (callF Γ L (k + 1)) (sameE s) m) (m0 := [.fz (.lst xs), .fz (.lst ys), .no, .no, .no]) g (zipT xs ys) [] (fun z hz => by
    obtain ⟨a, b, rfl, ha, hb⟩ := hmem z hz
    refine ⟨[.fz (.lst xs), .fz (.lst ys), .no, .fz a, .fz b], .fz (.bl (sameT a b)), by simp [bindP, bindPs, wipeM], by rw [evAll], ?_, rfl, by simp [wipeM]⟩
    simp [sameE, evE, evDs, Res.bind, R.opd, callR, pass, esc, back, same_flat (k := k) hs ha hb]) (by simpa using hlen)
  rw [List.nil_append, hg] at hc
  have hb2 : bools ((xs.zip ys).map fun p => T.bl (sameT p.1 p.2)) = some ((xs.zip ys).map fun p => sameT p.1 p.2) := by
    generalize xs.zip ys = l
    induction l with
    | nil => rfl
    | cons p l ih => simp only [List.map_cons, bools, ih, Option.map_some]
  have hb : ∃ m, evSs (callF Γ L (k + 1)) L (dSame s).body ([.fz (.lst xs), .fz (.lst ys)] ++ List.replicate ((dSame s).ns - (dSame s).np) .no) = .rt (.fz (.bl ((xs.zip ys).all fun p => sameT p.1 p.2))) m := by
    refine ⟨[.fz (.lst xs), .fz (.lst ys), .no, .no, .no], ?_⟩
    unfold dSame same0 same1 same2 same3 same4 same5 same6
    simp [evSs, evS, evE, evDs, evSrc, Res.bind, ofR, R.opd, opR, ders, der, opF, op2, op1, O.frz, esc, escs, isnF, isNon, fB, isi1F, isiF, Ty.has, eqF, scalT, flatT, eqT, lenF, fI, hl, loT, noOw, wipeM, hc, Res.calm, restM, allF, hb2, outR, List.all_map]
  obtain ⟨m, hb⟩ := hb
  rw [run_fz (args := [.fz (.lst xs), .fz (.lst ys)]) hf rfl hb]
  rcases m with _ | ⟨a, _ | ⟨b, m⟩⟩ <;> rfl
end Mi
set_option maxHeartbeats 2000000
namespace MiP
open PySem PySem.Spec PyProof.Rows
section
variable {prog : Program} {w : World} {M : Model} {A : Around} {E : Value → Shared → Prop} {s : Shared} {K : PySem.W.Frag} {x C f : Addr} {ox : Obj} {od : Option Obj} {v b : Value}
theorem own_bin {op : Operator} {Q : Value → Shared → Prop} (X : K.In s.heap) (I : PySem.W.InstAt s.heap x ox C od) (hb : PySem.W.Looks (model prog w) s.heap (typeOf b) (.ref C)) (hc : PySem.W.selfFirst K C = true)
    (hs : PySem.W.findIn K (.ref C) (PySem.dunder op.info.2) = some (some (.ref f))) (hf : PySem.W.isFn K (.ref f) = true)
    (h : wpAny (model prog w) A (call (.ref f) [.ref x, b]) (PySem.W.CmpBack Q) E s) : wpAny (model prog w) A (binaryOp op (.ref x) b) Q E s := by
  obtain ⟨cd, hcd, hm⟩ : ∃ cd, PySem.W.clsIn K C = some cd ∧ (cd.mro.head? == some (.ref C)) = true := by
    unfold PySem.W.selfFirst at hc
    cases q : PySem.W.clsIn K C with
    | none => rw [q] at hc; cases hc
    | some cd => rw [q] at hc; exact ⟨cd, rfl, hc⟩
  obtain ⟨rest, hm⟩ : ∃ rest, cd.mro = .ref C :: rest := by
    cases q : cd.mro with
    | nil => rw [q] at hm; cases hm
    | cons a r => rw [q] at hm; exact ⟨r, by rw [List.head?_cons] at hm; cases (beq_iff_eq.mp hm); rfl⟩
  unfold binaryOp
  refine wpAny_holding (wpAny_bind ?_)
  unfold binaryOp1
  refine wpAny_bind (I.type.here (wpAny_bind (hb.here (wpAny_bind ((PySem.W.fills_K X hcd hm hs).here ?_)))))
  simp only [beq_self_eq_true, if_true]
  refine wpAny_bind (wpAny_pure ?_)
  simp only [Bool.and_false, Bool.false_eq_true, if_false, Bool.false_and]
  refine wpAny_bind (wpAny_pure ?_)
  simp only [Bool.false_eq_true, if_false]
  refine wpAny_bind (m := tryMethod (.ref x) _ b) ?_
  unfold tryMethod
  refine wpAny_bind (PySem.W.special_fn X I hs (beq_iff_eq.mp hf) (wpAny_mono h (fun v s' hv => ?_) fun _ _ e => e))
  cases v <;> first | exact hv.elim | exact wpAny_pure (wpAny_pure (wpAny_pure hv))
theorem own_cont {Q : Bool → Shared → Prop} (X : K.In s.heap) (I : PySem.W.InstAt s.heap x ox C od) (hs : PySem.W.findIn K (.ref C) "__contains__" = some (some (.ref f))) (hf : PySem.W.isFn K (.ref f) = true)
    (h : wpAny M A (call (.ref f) [.ref x, v]) (fun r s' => ∃ k, r = .bool k ∧ Q k s') E s) : wpAny M A (contains (.ref x) v) Q E s := by
  unfold contains
  refine wpAny_holding (wpAny_bind (wpAny_bind (I.type.here ((PySem.W.looks_findIn X hs).here ?_))))
  rw [if_neg (by simp)]
  refine wpAny_bind (PySem.W.unlessNone_K X I hs hf (wpAny_mono h (fun r s' hr => ?_) fun _ _ z => z))
  obtain ⟨k, rfl, q⟩ := hr
  first
    | exact wpAny_truthy_bool q
    | exact wpAny_pure q
theorem own_in {Q : Value → Shared → Prop} (X : K.In s.heap) (I : PySem.W.InstAt s.heap x ox C od) (hs : PySem.W.findIn K (.ref C) "__contains__" = some (some (.ref f))) (hf : PySem.W.isFn K (.ref f) = true)
    (h : wpAny M A (call (.ref f) [.ref x, v]) (fun r s' => ∃ k, r = .bool k ∧ Q (.bool k) s') E s) : wpAny M A (compareOp .In v (.ref x)) Q E s :=
  wpAny_bind (own_cont X I hs hf (wpAny_mono h (fun _ _ ⟨k, e, q⟩ => ⟨k, e, wpAny_pure q⟩) fun _ _ z => z))
theorem own_notIn {Q : Value → Shared → Prop} (X : K.In s.heap) (I : PySem.W.InstAt s.heap x ox C od) (hs : PySem.W.findIn K (.ref C) "__contains__" = some (some (.ref f))) (hf : PySem.W.isFn K (.ref f) = true)
    (h : wpAny M A (call (.ref f) [.ref x, v]) (fun r s' => ∃ k, r = .bool k ∧ Q (.bool (!k)) s') E s) : wpAny M A (compareOp .NotIn v (.ref x)) Q E s :=
  wpAny_bind (own_cont X I hs hf (wpAny_mono h (fun _ _ ⟨k, e, q⟩ => ⟨k, e, wpAny_pure q⟩) fun _ _ z => z))
theorem own_inv {Q : Value → Shared → Prop} (X : K.In s.heap) (I : PySem.W.InstAt s.heap x ox C od) (hs : PySem.W.findIn K (.ref C) "__invert__" = some (some (.ref f))) (hf : PySem.W.isFn K (.ref f) = true)
    (h : wpAny M A (call (.ref f) [.ref x]) Q E s) : wpAny M A (unaryOp .Invert (.ref x)) Q E s := by
  unfold unaryOp
  refine wpAny_holding ?_
  exact wpAny_bind (PySem.W.special_fn X I hs (beq_iff_eq.mp hf) (wpAny_mono h (fun _ _ z => wpAny_pure z) fun _ _ z => z))
theorem own_neg {Q : Value → Shared → Prop} (X : K.In s.heap) (I : PySem.W.InstAt s.heap x ox C od) (hs : PySem.W.findIn K (.ref C) "__neg__" = some (some (.ref f))) (hf : PySem.W.isFn K (.ref f) = true)
    (h : wpAny M A (call (.ref f) [.ref x]) Q E s) : wpAny M A (unaryOp .USub (.ref x)) Q E s := by
  unfold unaryOp
  refine wpAny_holding ?_
  exact wpAny_bind (PySem.W.special_fn X I hs (beq_iff_eq.mp hf) (wpAny_mono h (fun _ _ z => wpAny_pure z) fun _ _ z => z))
end
end MiP
namespace Mi
open PySem PySem.Spec PyProof.Rows L2
theorem relV_cb {v : V} {r : Value} {P : Value → Shared → Prop} {s : Shared} (h : RelV v r) (p : P r s) : PySem.W.CmpBack P r s := by
  cases r <;> try exact p
  case notImplemented =>
    cases v <;> first | (obtain ⟨t, e⟩ := h; exact nomatch e) | cases h
section
variable {X : Cx} {k : Nat} {f C : Addr} {fd : FuncData} {ps : List Str} {sp : Sp}
def rBin (C : Addr) (sp : Sp) : R2 := fun x y H Q => ∃ a dx fs b dy gs, x = .ref a ∧ y = .ref b ∧ H a = some (.ins C dx fs) ∧ H b = some (.ins C dy gs) ∧ sp [x, y] H Q EF
theorem op_own {op : Operator} (hc : PySem.W.selfFirst X.K C = true) (hm : Meth X.K C (PySem.dunder op.info.2) f) (F : FnOk X.prog X.w X.K X.mg X.base (L2.CX X.prog X.w) k f fd ps sp) (hr : Room k X.A) (hb : Binds X.K fd ps []) : OpR X (binaryOp op) (rBin C sp) := by
  intro pins s σ H x y v u Q I rx ry h
  obtain ⟨a, dx, fs, b, dy, gs, rfl, rfl, ea, eb, q⟩ := h
  have rx' := rx
  have ry' := ry
  cases rx
  cases ry
  obtain ⟨mA, O, _⟩ := ins_get I.hok ea
  obtain ⟨od, J, _⟩ := O.look
  obtain ⟨mB, O2, _⟩ := ins_get I.hok eb
  obtain ⟨od2, J2, _⟩ := O2.look
  exact MiP.own_bin I.kIn J J2.type hc hm.at_ hm.fn (thn (run_fn (dvs := []) (ds := []) F hr hb .nil passEF I (.cons rx' (.cons ry' .nil)) (by rw [List.append_nil]; exact q)) fun r s' hh => by
    obtain ⟨v', H', I', rv, q'⟩ := hh
    exact relV_cb rv ⟨v', H', I', rv, q'⟩)
def rInn (C : Addr) (sp : Sp) (neg : Bool) : R2 := fun x y H Q => ∃ a dx fs, y = .ref a ∧ H a = some (.ins C dx fs) ∧ sp [y, x] H (fun v H' => ∃ b, v = .bl b ∧ Q (.bl (if neg = true then !b else b)) H') EF
theorem op_inn (hm : Meth X.K C "__contains__" f) (F : FnOk X.prog X.w X.K X.mg X.base (L2.CX X.prog X.w) k f fd ps sp) (hr : Room k X.A) (hb : Binds X.K fd ps []) : OpR X (compareOp .In) (rInn C sp false) := by
  intro pins s σ H x y v u Q I rx ry h
  obtain ⟨a, dx, fs, rfl, ea, q⟩ := h
  have ry' := ry
  cases ry
  obtain ⟨mA, O, _⟩ := ins_get I.hok ea
  obtain ⟨od, J, _⟩ := O.look
  refine MiP.own_in I.kIn J hm.at_ hm.fn (thn (run_fn (dvs := []) (ds := []) F hr hb .nil passEF I (.cons ry' (.cons rx .nil)) (by rw [List.append_nil]; exact q)) fun r s' hh => ?_)
  obtain ⟨v', H', I', rv, b, e, q'⟩ := hh
  subst e
  cases rv
  exact ⟨b, rfl, .bl b, H', I', rfl, q'⟩
theorem op_notinn (hm : Meth X.K C "__contains__" f) (F : FnOk X.prog X.w X.K X.mg X.base (L2.CX X.prog X.w) k f fd ps sp) (hr : Room k X.A) (hb : Binds X.K fd ps []) : OpR X (compareOp .NotIn) (rInn C sp true) := by
  intro pins s σ H x y v u Q I rx ry h
  obtain ⟨a, dx, fs, rfl, ea, q⟩ := h
  have ry' := ry
  cases ry
  obtain ⟨mA, O, _⟩ := ins_get I.hok ea
  obtain ⟨od, J, _⟩ := O.look
  refine MiP.own_notIn I.kIn J hm.at_ hm.fn (thn (run_fn (dvs := []) (ds := []) F hr hb .nil passEF I (.cons ry' (.cons rx .nil)) (by rw [List.append_nil]; exact q)) fun r s' hh => ?_)
  obtain ⟨v', H', I', rv, b, e, q'⟩ := hh
  subst e
  cases rv
  exact ⟨b, rfl, .bl (!b), H', I', rfl, q'⟩
def rUno (C : Addr) (sp : Sp) : V → Hp → VK → Prop := fun x H Q => ∃ a dx fs, x = .ref a ∧ H a = some (.ins C dx fs) ∧ sp [x] H Q EF
theorem op_inv (hm : Meth X.K C "__invert__" f) (F : FnOk X.prog X.w X.K X.mg X.base (L2.CX X.prog X.w) k f fd ps sp) (hr : Room k X.A) (hb : Binds X.K fd ps []) : UnR X (unaryOp .Invert) (rUno C sp) := by
  intro pins s σ H x v Q I rx h
  obtain ⟨a, dx, fs, rfl, ea, q⟩ := h
  have rx' := rx
  cases rx
  obtain ⟨mA, O, _⟩ := ins_get I.hok ea
  obtain ⟨od, J, _⟩ := O.look
  exact MiP.own_inv I.kIn J hm.at_ hm.fn (run_fn (dvs := []) (ds := []) F hr hb .nil passEF I (.cons rx' .nil) (by rw [List.append_nil]; exact q))
theorem op_negO (hm : Meth X.K C "__neg__" f) (F : FnOk X.prog X.w X.K X.mg X.base (L2.CX X.prog X.w) k f fd ps sp) (hr : Room k X.A) (hb : Binds X.K fd ps []) : UnR X (unaryOp .USub) (rUno C sp) := by
  intro pins s σ H x v Q I rx h
  obtain ⟨a, dx, fs, rfl, ea, q⟩ := h
  have rx' := rx
  cases rx
  obtain ⟨mA, O, _⟩ := ins_get I.hok ea
  obtain ⟨od, J, _⟩ := O.look
  exact MiP.own_neg I.kIn J hm.at_ hm.fn (run_fn (dvs := []) (ds := []) F hr hb .nil passEF I (.cons rx' .nil) (by rw [List.append_nil]; exact q))
end
section
variable {C : Ct} {X : Cx} {cal : Nat → List Slot → CRes} {L : Nat}
theorem n_bop {ex ea eb : Expr} {c f : Nat} {a b : E} (hp : ∀ ta tb, PE X ea ta → PE X eb tb → PE X ex (tOp (rBin (C.G.cls c) (spM C.G cal f)) ta tb)) (ha : PE X ea (rdE C (evE cal a))) (hb : PE X eb (rdE C (evE cal b))) : PE X ex (rdE C (evE cal (.bop c f a b))) := PE.imp (hp _ _ (pe_opd ha) (pe_opd hb)) fun σ H Q ⟨w, m, e, P, q⟩ => by
  rw [evE, Res.sat_bind] at q
  refine ⟨w, m, e, P, ?_⟩
  rw [opdF, Res.sat_bind]
  refine Res.sat_mono q fun ra m1 q1 w1 v1 S1 x1 r1 => ?_
  rw [Res.sat_bind] at q1
  refine ⟨w1, m1, rfl, P.step S1 x1, ?_⟩
  rw [opdF, Res.sat_bind]
  refine Res.sat_mono q1 fun rb m2 q2 w2 v2 S2 x2 r2 => ?_
  split at q2
  · rename_i c1 fs c2 gs hd1 hd2
    split at q2
    · rename_i hcc
      obtain ⟨rfl, rfl⟩ := hcc
      obtain ⟨p, dx, us, rfl, h1, h2⟩ := (S2.der (r1.mono x2.mo) hd1).ins
      obtain ⟨p', dx', us', rfl, h1', h2'⟩ := (S2.der r2 hd2).ins
      exact ⟨p, dx, us, p', dx', us', rfl, rfl, h1, h1', call_quiet ((P.step S1 x1).step S2 x2) (.cons (r1.mono x2.mo) (.cons r2 .nil)) (Res.sat_mono q2 fun r m3 q3 w3 v3 S3 x3 r3 => q3 w3 v3 S3 (x1.trans (x2.trans x3)) r3)⟩
    · exact q2.elim
  · exact q2.elim
theorem n_uop {ex ea : Expr} {c f : Nat} {a : E} (hp : ∀ ta, PE X ea ta → PE X ex (tUn (rUno (C.G.cls c) (spM C.G cal f)) ta)) (ha : PE X ea (rdE C (evE cal a))) : PE X ex (rdE C (evE cal (.uop c f a))) := PE.imp (hp _ (pe_opd ha)) fun σ H Q ⟨w, m, e, P, q⟩ => by
  rw [evE, Res.sat_bind] at q
  refine ⟨w, m, e, P, ?_⟩
  rw [opdF, Res.sat_bind]
  refine Res.sat_mono q fun ra m1 q1 w1 v1 S1 x1 r1 => ?_
  split at q1
  · rename_i c1 fs hd1
    split at q1
    · rename_i hcc
      subst hcc
      obtain ⟨p, dx, us, rfl, h1, h2⟩ := (S1.der r1 hd1).ins
      exact ⟨p, dx, us, rfl, h1, call_quiet (P.step S1 x1) (.cons r1 .nil) (Res.sat_mono q1 fun r m3 q3 w3 v3 S3 x3 r3 => q3 w3 v3 S3 (x1.trans x3) r3)⟩
    · exact q1.elim
  · exact q1.elim
theorem rd_inn {neg : Bool} {c f : Nat} {a b : E} {σ : St} {H : Hp} {Q : VK} (h : rdE C (evE cal (.inn neg c f a b)) σ H Q) : tOp (rInn (C.G.cls c) (spM C.G cal f) neg) (rdD C (opdF (evE cal a))) (rdD C (opdF (evE cal b))) σ H Q := by
  obtain ⟨w, m, e, P, q⟩ := h
  rw [evE, Res.sat_bind] at q
  refine ⟨w, m, e, P, ?_⟩
  rw [opdF, Res.sat_bind]
  refine Res.sat_mono q fun ra m1 q1 w1 v1 S1 x1 r1 => ?_
  rw [Res.sat_bind] at q1
  refine ⟨w1, m1, rfl, P.step S1 x1, ?_⟩
  rw [opdF, Res.sat_bind]
  refine Res.sat_mono q1 fun rb m2 q2 w2 v2 S2 x2 r2 => ?_
  split at q2
  · rename_i c1 fs hd1
    split at q2
    · rename_i hcc
      subst hcc
      obtain ⟨p, dx, us, rfl, h1, h2⟩ := (S2.der r2 hd1).ins
      rw [Res.sat_bind] at q2
      refine ⟨p, dx, us, rfl, h1, call_quiet ((P.step S1 x1).step S2 x2) (.cons r2 (.cons (r1.mono x2.mo) .nil)) (Res.sat_mono q2 fun r m3 q3 w3 v3 S3 x3 r3 => ?_)⟩
      cases r with
      | ow o => exact q3.elim
      | bo k => exact q3.elim
      | fz t =>
        cases t <;> try (exact q3.elim)
        case bl k =>
          cases r3
          exact ⟨k, rfl, q3 w3 _ S3 (x1.trans (x2.trans x3)) (.bl _)⟩
    · exact q2.elim
  · exact q2.elim
theorem n_inn {ex ea eb : Expr} {neg : Bool} {c f : Nat} {a b : E} (hp : ∀ ta tb, PE X ea ta → PE X eb tb → PE X ex (tOp (rInn (C.G.cls c) (spM C.G cal f) neg) ta tb)) (ha : PE X ea (rdE C (evE cal a))) (hb : PE X eb (rdE C (evE cal b))) : PE X ex (rdE C (evE cal (.inn neg c f a b))) := PE.imp (hp _ _ (pe_opd ha) (pe_opd hb)) fun σ H Q q => rd_inn q
theorem t_inn {ex ea eb : Expr} {neg : Bool} {c f : Nat} {a b : E} (hp : ∀ ta tb, PE X ea ta → PE X eb tb → PT X ex (tTest (tOp (rInn (C.G.cls c) (spM C.G cal f) neg) ta tb))) (ha : PE X ea (rdE C (evE cal a))) (hb : PE X eb (rdE C (evE cal b))) : PT X ex (rdB C (evE cal (.inn neg c f a b))) := PT.imp (hp _ _ (pe_opd ha) (pe_opd hb)) fun σ H Q q => rd_inn (rd_bool q)
theorem n_dic0 {ex : Expr} (hp : PE X ex tDNewK) : PE X ex (rdE C (evE cal .dic0)) := PE.imp hp fun σ H Q ⟨w, m, e, P, q⟩ => by
  rw [evE] at q
  intro p hp
  rw [← e] at hp ⊢
  exact After.new (o := .dic []) q P.sr hp (.dic upd_same .nil)
/-- isinstance of an own class: every kind of value has its answer -/
structure KitC (G : Gm) (c : Nat) (cs ns : List Nat) : Prop where
  ty : ∀ x ∈ ["NoneType", "bool", "int", "str", "list", "tuple", "dict"], PySem.W.kitOne G.K (.type x) (.ref (G.cls c)) = some false
  yes : ∀ c' ∈ cs, PySem.W.kitOne G.K (.ref (G.cls c')) (.ref (G.cls c)) = some true ∧ ClX G.K (G.cls c')
  no : ∀ c' ∈ ns, PySem.W.kitOne G.K (.ref (G.cls c')) (.ref (G.cls c)) = some false ∧ ClX G.K (G.cls c')
theorem n_isc {ex ea : Expr} {c : Nat} {cs ns : List Nat} {a : E} (kc : KitC C.G c cs ns) (hp : ∀ ta, PE X ea ta → PE X ex (tUn (fun x H Q => rIsi C.G.K [x, .ref (C.G.cls c)] H Q) ta)) (ha : PE X ea (rdE C (evE cal a))) : PE X ex (rdE C (evE cal (.isc cs ns a))) := PE.imp (hp _ (pe_opd ha)) fun σ H Q ⟨w, m, e, P, q⟩ => by
  rw [evE, Res.sat_bind] at q
  refine ⟨w, m, e, P, ?_⟩
  rw [opdF, Res.sat_bind]
  refine Res.sat_mono q fun ra m1 q1 w1 v1 S1 x1 r1 => ?_
  split at q1
  · rename_i c' fs hd
    have r := S1.der r1 hd
    obtain ⟨p, dx, us, rfl, h1, h2⟩ := r.ins
    split at q1
    · rename_i hy
      obtain ⟨k1, cl⟩ := kc.yes c' hy
      exact ⟨_, _, _, _, _, rfl, .own _, .base (.ins h1 cl.cl cl.ha cl.hn cl.htk cl.hm), k1, q1 w1 _ S1 x1 (.bl _)⟩
    · split at q1
      · rename_i hy
        obtain ⟨k1, cl⟩ := kc.no c' hy
        exact ⟨_, _, _, _, _, rfl, .own _, .base (.ins h1 cl.cl cl.ha cl.hn cl.htk cl.hm), k1, q1 w1 _ S1 x1 (.bl _)⟩
      · exact q1.elim
  · rename_i t hi hd
    have r := S1.der r1 hd
    have nt : ∀ c fs, t ≠ .ins c fs := fun c fs z => hi c fs z
    refine ⟨_, _, _, _, _, rfl, .own _, r.ty nt, kc.ty _ ?_, q1 w1 _ S1 x1 (.bl _)⟩
    cases t <;> first | exact absurd rfl (nt _ _) | simp [tyT]
  · exact q1.elim
end
end Mi
set_option maxHeartbeats 2000000
namespace Mi
open PySem PySem.Spec PyProof.Rows L2
section
variable {C : Ct} {X : Cx} {cal : Nat → List Slot → CRes}
theorem rd_dcm {own : List Nat} {p : Pt} {s : Src} {cs : Es} {ke e : E} {g : TG} (hg : GP C.G p g) (hsub : ∀ j ∈ p.sl, j ∈ own) {σ : St} {H : Hp} {Q : VK} (h : rdE C (evE cal (.dcm own p s cs ke e)) σ H Q) :
    tDc (rdS C (evSrc cal s)) g (rdB C.inn (evAll cal cs)) (rdE C.inn (evE cal ke)) (rdE C.inn (evE cal e)) own σ H Q := by
  obtain ⟨w, m, eH, P, q⟩ := h
  rw [evE, Res.sat_bind] at q
  refine ⟨w, m, eH, P, Res.sat_mono q fun xs m1 q1 w1 J S1 x1 it => ?_⟩
  split at q1
  · rename_i no
    intro D hD
    rw [Res.sat_bind] at q1
    have q1 := Res.sat_calm q1
    have nf1 : ¬ w1.F D := fun f => by
      obtain ⟨u, z⟩ := S1.trk D f
      rw [hD] at z; cases z
    refine ⟨fun i n H => i + n = xs.length ∧ ∃ wq mc acc vs, wq.H = H ∧ SR C.G wq mc (wipe σ own) ∧ Ex w1 wq ∧ ¬ wq.F D ∧ ¬ wq.L D ∧ wq.H D = some (.dK vs) ∧ RFk C.G wq acc vs ∧
      (dcGo own p (fun m => evAll cal cs m) (fun m => evE cal ke m) (fun m => evE cal e m) (xs.drop i) acc mc).sat (fun acc m2 => (Res.ok (R.ow (.dic acc)) (restM m1 m2 own)).sat (fun r m' => ∀ w' v, SR C.G w' m' σ → Ex w w' → RR C.G w' m' σ r v → Q v w'.H) C.EM) fun _ _ => False, ?_, ?_⟩
    · refine ⟨xs.length, by omega, ?_⟩
      have S0 := S1.wipe own
      have nlD : ∃ w1' : Wd, w1'.H = w1.H ∧ SR C.G w1' (wipeM m1 own) (wipe σ own) ∧ Ex w1 w1' ∧ ¬ w1'.F D ∧ ¬ w1'.L D := by
        refine ⟨⟨w1.F, fun a => w1.L a ∧ a ≠ D, w1.H⟩, rfl, ?_, ⟨fun _ h => h, fun _ _ => .refl _, fun a u h1 h2 h3 => ⟨h1, h2, fun z => h3 z.1⟩⟩, nf1, fun z => z.2 rfl⟩
        refine ⟨S0.len, fun j s h => ?_, S0.inj, fun a l f => S0.sep a l.1 f, S0.trk⟩
        have q := S0.sl j s h
        cases s with
        | no => trivial
        | fz t => obtain ⟨x, a, b⟩ := q; exact ⟨x, a, RF.mono (w := w1) (w' := ⟨w1.F, fun a => w1.L a ∧ a ≠ D, w1.H⟩) (mo_same rfl rfl) b⟩
        | ow o =>
          obtain ⟨a, e1, r, l⟩ := q
          refine ⟨a, e1, r.mono (mo_same rfl rfl) rfl, l, fun z => ?_⟩
          obtain ⟨u, hu⟩ := r.trk
          rw [z, hD] at hu; cases hu
      obtain ⟨w1', e1', S1', x1', nf', nl'⟩ := nlD
      refine ⟨w1'.wr D (.dK []), wipeM m1 own, [], [], by show upd w1'.H D _ = _; rw [e1'], S1'.poke nf' nl', x1'.poke hD nf', nf', nl', upd_same, .nil, ?_⟩
      rw [List.drop_zero]
      exact q1
    · rintro i n H ⟨hin, wc, mc, acc, vs, rfl, S, xc, nf, nl, hDv, rs, q2⟩
      cases hdr : xs.drop i with
      | nil =>
        have hi : i = xs.length := by
          have := congrArg List.length hdr
          rw [List.length_drop] at this
          simp at this
          omega
        subst hi
        rw [hdr] at q2
        have q2 : ∀ w' v, SR C.G w' (restM m1 mc own) σ → Ex w w' → RR C.G w' (restM m1 mc own) σ (.ow (.dic acc)) v → Q v w'.H := q2
        refine .inl ⟨it.stop wc xc.mo, ?_⟩
        have S2 : SR C.G wc (restM m1 mc own) σ := SR.rest S1 xc.mo S (wipe_length ..) (fun j hj => wipe_out hj) no
        refine q2 (wc.ad D) (.ref D) (S2.adopt nf) (x1.trans (xc.adopt hD)) ⟨D, rfl, .dic hDv (RFk.mono (w := wc) (w' := wc.ad D) (mo_same rfl rfl) rs), .inr rfl, fun j o' hj z => ?_⟩
        obtain ⟨a, e1, _, l⟩ := S2.sl j _ hj
        rw [z] at e1
        cases e1
        exact nl l
      | cons x rest =>
        have hx : xs[i]? = some x := by
          have := congrArg (fun l => l[0]?) hdr
          simpa using this
        have hlt : i < xs.length := (List.getElem?_eq_some_iff.mp hx).1
        have hrest : xs.drop (i + 1) = rest := by
          have := congrArg List.tail hdr
          simpa using this
        rw [hdr] at q2
        unfold dcGo at q2
        obtain ⟨hgo, hyl⟩ := it.go i x wc xc.mo hx
        refine .inr ⟨hgo, fun H' => ∃ wq mc acc vs, wq.H = H' ∧ SR C.G wq mc (wipe σ own) ∧ Ex w1 wq ∧ ¬ wq.F D ∧ ¬ wq.L D ∧ wq.H D = some (.dK vs) ∧ RFk C.G wq acc vs ∧
          (dcGo own p (fun m => evAll cal cs m) (fun m => evE cal ke m) (fun m => evE cal e m) rest acc mc).sat (fun acc m2 => (Res.ok (R.ow (.dic acc)) (restM m1 m2 own)).sat (fun r m' => ∀ w' v, SR C.G w' m' σ → Ex w w' → RR C.G w' m' σ r v → Q v w'.H) C.EM) fun _ _ => False,
          fun H' nx => ⟨n - 1, by omega, by omega, by rw [hrest]; exact nx⟩, fun v H' y => ?_⟩
        obtain ⟨w2, e2, S2, x2, r2, _⟩ := hyl v H' (wipeM mc own) (wipe σ own) (S.wipeM own) y
        cases hb : bindP (wipeM mc own) p x with
        | none => rw [hb] at q2; exact q2.elim
        | some m3 =>
          rw [hb] at q2
          simp only at q2
          rw [Res.sat_bind] at q2
          rw [← e2]
          refine hg w2 (wipeM mc own) m3 (wipe σ own) x v _ S2 r2 hb fun σ3 S3 f3 l3 => ⟨wipe_eq (by rw [l3, wipe_length]) fun j hj => by rw [f3 j fun z => hj (hsub j z), wipe_out hj], ?_⟩
          have w3eq : wipe σ3 own = wipe σ own := wipe_eq (by rw [l3, wipe_length]) fun j hj => by rw [f3 j fun z => hj (hsub j z), wipe_out hj]
          obtain ⟨d1, d2, d3⟩ := x2.ot D _ hDv nf nl
          refine ⟨w2, m3, rfl, ⟨S3, (P.ex.trans x1).trans (xc.trans x2), fun j z => nomatch z⟩, Res.sat_mono q2 fun r m4 q4 => ?_⟩
          cases r with
          | ow o => exact q4.elim
          | bo k => exact q4.elim
          | fz t =>
            cases t <;> try (exact q4.elim)
            case bl b =>
              refine ⟨b, rfl, fun w4 S4 x4 => ?_⟩
              obtain ⟨g1, g2, g3⟩ := x4.ot D _ d1 d2 d3
              cases b with
              | false =>
                refine ⟨w4, wipeM m4 own, acc, vs, rfl, ?_, xc.trans (x2.trans x4), g2, g3, g1, RFk.mono (x2.trans x4).mo rs, q4⟩
                have := S4.wipe own
                rwa [w3eq] at this
              | true =>
                simp only at q4
                rw [Res.sat_bind] at q4
                refine ⟨w4, m4, rfl, ⟨S4, (P.ex.trans x1).trans (xc.trans (x2.trans x4)), fun j z => nomatch z⟩, Res.sat_mono q4 fun rk mk qk wk vk Sk xk rrk => ?_⟩
                cases rk with
                | ow o => exact qk.elim
                | bo k => exact qk.elim
                | fz kt =>
                  cases hkt : keyT kt with
                  | none => simp only [hkt] at qk; exact qk.elim
                  | some key =>
                    simp only [hkt] at qk
                    rw [Res.sat_bind] at qk
                    have evk : vk = kV key := key_v hkt (.fz rrk)
                    obtain ⟨z1, z2, z3⟩ := xk.ot D _ g1 g2 g3
                    refine ⟨wk, mk, rfl, ⟨Sk, (P.ex.trans x1).trans (xc.trans (x2.trans (x4.trans xk))), fun j z => nomatch z⟩, Res.sat_mono qk fun r5 m5 q5 w5 v5 S5 x5 rr5 => ?_⟩
                    obtain ⟨k1, k2, k3⟩ := x5.ot D _ z1 z2 z3
                    refine ⟨vs, key, evk, k1, ?_⟩
                    cases hes : esc m5 r5.opd with
                    | none => rw [hes] at q5; exact q5.elim
                    | some pr =>
                      obtain ⟨t6, m6⟩ := pr
                      rw [hes] at q5
                      simp only at q5
                      split at q5
                      · rename_i hlen
                        obtain ⟨w6, e6, S6, x6, r6⟩ := S5.keep rr5 hes
                        obtain ⟨y1, y2, y3⟩ := x6.ot D _ k1 k2 k3
                        have xx := x2.trans (x4.trans (xk.trans (x5.trans x6)))
                        refine ⟨by rw [← rs.length]; exact hlen, w6.wr D (.dK (putK vs key v5)), wipeM m6 own, putT acc key t6, putK vs key v5, by show upd w6.H D _ = _; rw [e6], ?_, (xc.trans xx).poke hD y2, y2, y3, upd_same, ?_, q5⟩
                        · have := (S6.wipe own).poke (u := .dK (putK vs key v5)) y2 y3
                          rwa [w3eq] at this
                        · exact RFk.mono (Mo.poke y2) ((RFk.mono xx.mo rs).put r6)
                      · exact q5.elim
  · exact q1.elim
end
section
variable {C : Ct} {X : Cx} {k : Nat} {cal : Nat → List Slot → CRes} {L : Nat} {pos p1 p2 : Pos}
theorem x_dcm (c : XC C X k) {kx vx tg iter : Expr} {ifs : List Expr} {scope : Scope} {own : List (Str × Nat)} {ow : List Nat} {p : Pt} {s : Src} {cs : Es} {ke e : E} {g : TG} (gp : GP C.G p g) (ok : BlkOk X.N X.env.scope scope own) (hi : PI X tg iter (rdS C (evSrc cal s)))
    (hg : ∀ (s : Shared) (H : Hp) (D : Addr) (cl : List (Str × Addr)) (fp : List Addr), PG (X.blk s H scope (compEnvC scope cl D X.env) fp) tg g)
    (ht : ∀ (s : Shared) (H : Hp) (D : Addr) (cl : List (Str × Addr)) (fp : List Addr), XC C.inn (X.blk s H scope (compEnvC scope cl D X.env) fp) k → PTs (X.blk s H scope (compEnvC scope cl D X.env) fp) ifs (rdB C.inn (evAll cal cs)))
    (hk : ∀ (s : Shared) (H : Hp) (D : Addr) (cl : List (Str × Addr)) (fp : List Addr), XC C.inn (X.blk s H scope (compEnvC scope cl D X.env) fp) k → PE (X.blk s H scope (compEnvC scope cl D X.env) fp) kx (rdE C.inn (evE cal ke)))
    (he : ∀ (s : Shared) (H : Hp) (D : Addr) (cl : List (Str × Addr)) (fp : List Addr), XC C.inn (X.blk s H scope (compEnvC scope cl D X.env) fp) k → PE (X.blk s H scope (compEnvC scope cl D X.env) fp) vx (rdE C.inn (evE cal e)))
    (how : own.map (·.2) = ow := by rfl) (hsub : ∀ j ∈ p.sl, j ∈ ow := by decide) (hs : ∀ x, foldedSetIterable iter X.env x = pure x := by intro _; rfl) :
    PE X (.DictComp kx vx [⟨tg, iter, ifs, 0⟩] scope pos) (rdE C (evE cal (.dcm ow p s cs ke e))) := by
  subst how
  exact PE.imp (pe_dc c.calm c.nd hi ok hg (fun s H D cl fp => ht s H D cl fp c.blk) (fun s H D cl fp => hk s H D cl fp c.blk) (fun s H D cl fp => he s H D cl fp c.blk) hs) fun _ _ _ q => rd_dcm gp hsub q
/-! ### self.a, self.b = e -/
def gFld (K : PySem.W.Frag) (to : TE) (f : Str) : TG := fun v σ H Q => to σ H fun x H1 => ∃ a C dx fs, x = .ref a ∧ H1 a = some (.ins C dx fs) ∧ Cls K C ∧ NoAttr K C f ∧ fs.length < 1000 ∧ Q σ (upd H1 a (.ins C dx (putF f v fs)))
theorem pg_fld {o : Expr} {f : Str} {to : TE} (ho : PE X o to) (ha : ∀ v, assign (.Attribute o f pos) X.env v = (do
      let ov ← holding [v] (eval o X.env)
      standAt pos.atName
      holding [v, ov] (setAttr ov f v)
      release [v, ov] []) := by intro _; rfl) : PG X (.Attribute o f pos) (gFld X.K to f) := by
  refine ⟨fun pins s σ H v u Q I r h => ?_⟩
  rw [ha]
  refine wpAny_bind (wpAny_holding (thn (ho.run pins s σ H _ I h) fun ov s1 ⟨x, H1, I1, r1, a, C, dx, fs, e, ea, c, n, l, q⟩ => ?_))
  subst e
  obtain rfl : ov = Value.ref a := r1
  refine wpAny_bind (wpAny_standAt (wpAny_bind (wpAny_holding (setattr_ok I1 ea c n l r fun s3 I3 => ?_))))
  exact wpAny_release ⟨σ, _, I3, q⟩
def gsF (K : PySem.W.Frag) (i : Nat) : List Str → TGs
  | [] => gNil
  | f :: r => gCons (gFld K (tVar i) f) (gsF K i r)
theorem RFf.puts {G : Gm} {w : Wd} {fs : List Str} : ∀ {ts : List T} {vs : List V} {gs : List (Str × T)} {us : List (Str × V)}, RFs G w ts vs → ts.length = fs.length → RFf G w gs us → RFf G w (putSs (fs.zip ts) gs) ((fs.zip vs).foldl (fun g p => putF p.1 p.2 g) us) := by
  induction fs with
  | nil => intro ts vs gs us r l q; exact q
  | cons f fs ih =>
    intro ts vs gs us r l q
    cases r with
    | nil => cases l
    | cons a b =>
      simp only [List.zip_cons_cons]
      unfold putSs
      rw [List.foldl_cons, List.foldl_cons]
      exact ih b (by simpa using l) (RFf.put a q)
theorem putF_len (f : Str) (v : V) : ∀ fs : List (Str × V), (putF f v fs).length ≤ fs.length + 1
  | [] => Nat.le_refl _
  | (g, x) :: r => by
    unfold putF
    split
    · simp
    · have := putF_len f v r
      simp only [List.length_cons]; omega
theorem gsF_run {K : PySem.W.Frag} {i : Nat} {C : Addr} {fs : List Str} (hc : Cls K C) (hn : ∀ f ∈ fs, NoAttr K C f) {σ : St} {a dx : Addr} (hi : σ[i]? = some (some (.ref a))) : ∀ {vs : List V} {us : List (Str × V)} {H : Hp} {Q : St → Hp → Prop}, vs.length = fs.length → H a = some (.ins C dx us) → us.length + fs.length < 1000 →
    Q σ (upd H a (.ins C dx ((fs.zip vs).foldl (fun g p => putF p.1 p.2 g) us))) → gsF K i fs vs σ H Q := by
  induction fs with
  | nil =>
    intro vs us H Q l e _ q
    cases vs with
    | nil =>
      refine ⟨rfl, ?_⟩
      have : upd H a (.ins C dx us) = H := by
        funext b
        by_cases hb : b = a
        · subst hb; rw [upd_same, e]
        · rw [upd_ne hb]
      rw [← this]
      exact q
    | cons _ _ => cases l
  | cons f fs ih =>
    intro vs us H Q l e lt q
    cases vs with
    | nil => cases l
    | cons v vs =>
      refine ⟨v, vs, rfl, _, hi, a, C, dx, us, rfl, e, hc, hn f (List.mem_cons_self ..), by simp only [List.length_cons] at lt; omega, ?_⟩
      refine ih (fun f hf => hn f (List.mem_cons_of_mem _ hf)) (by simpa using l) upd_same (by have := putF_len f v us; simp only [List.length_cons] at lt; omega) ?_
      rw [upd_upd]
      rw [List.zip_cons_cons, List.foldl_cons] at q
      exact q
theorem st_stp {st : Stmt} {i c n : Nat} {fs : List Str} {e : E} (hnl : n = fs.length) (hc : Cls C.G.K (C.G.cls c)) (hn : ∀ f ∈ fs, NoAttr C.G.K (C.G.cls c) f) (h : PS X st (tAsg (rdD C (opdF (evE cal e))) (gTup C.G.K n (gsF C.G.K i fs)))) : PS X st (rdSt C (evS cal L (.stp i c fs e))) := PS.imp h fun D σ H ⟨w, m, eH, P, q⟩ => by
  subst hnl
  rw [evS, FSat_ofR] at q
  refine ⟨w, m, eH, P, ?_⟩
  rw [opdF, Res.sat_bind]
  refine Res.sat_mono q fun r m1 q1 w1 v S1 x1 r1 => ?_
  cases h1 : esc m1 r.opd with
  | none => rw [h1] at q1; exact q1.elim
  | some pr =>
    obtain ⟨t, m2⟩ := pr
    rw [h1] at q1
    cases t <;> try (exact q1.elim)
    case tup ts =>
      simp only at q1
      obtain ⟨w2, e2, S2, x2, r2⟩ := S1.esc r1 h1
      obtain ⟨p, vs, rfl, hp, rts⟩ := r2.tup_inv
      cases h2 : m2[i]? with
      | none => rw [h2] at q1; exact q1.elim
      | some s =>
        rw [h2] at q1
        have sl := S2.sl i s h2
        cases s with
        | no => exact q1.elim
        | fz t => exact q1.elim
        | ow o =>
          cases o with
          | lst k => exact q1.elim
          | dic k => exact q1.elim
          | ins c' gs =>
            obtain ⟨a, ea, ro, la⟩ := sl
            simp only at q1
            split at q1
            · rename_i hcc
              obtain ⟨rfl, hlt, hl⟩ := hcc
              obtain ⟨dx, us, hv, rs⟩ := ro.ins_inv
              have nf := S2.sep a la
              obtain ⟨S3, x3⟩ := S2.write (u := .ins (C.G.cls c') dx ((fs.zip vs).foldl (fun g p => putF p.1 p.2 g) us)) (o' := .ins c' (putSs (fs.zip ts) gs)) h2 ea (.ins upd_same (RFf.mono (Mo.poke nf) (RFf.puts rts hl rs)))
              refine ⟨p, vs, rfl, ?_, by rw [← rts.length, hl], ?_⟩
              · rw [← e2]
                rcases hp with ⟨_, h⟩ | h
                · exact .inl (.inl h)
                · exact .inr h
              · refine gsF_run hc hn ea (by rw [← rts.length, hl]) (by rw [← e2]; exact hv) (by rw [← rs.length]; exact hlt) ?_
                rw [← e2]
                exact q1 (w2.wr a (.ins (C.G.cls c') dx _)) σ (P.step S3 (x1.trans (x2.trans x3))) (x1.trans (x2.trans x3))
            · exact q1.elim
end
end Mi
set_option maxHeartbeats 1000000
namespace Mi
open PySem PySem.Spec PyProof.Rows L2

/-! ### facts of the top, by names -/
inductive Fx where
  | glo (x : Str) | free (x : Str) | bfun (x : Str) (id : String)
  | cls (c : Str) | noat (c f : Str) | meth (c m : Str) | mkr (c : Str) | con (c f : Str) (t : T) | cval (c f : Str) (t : T) | prop (c f : Str) | ne (c : Str) | self1 (c : Str) | crd (c : Str) | cmet (c m : Str) | smet (c m : Str)
  | kty (c : Str) | kown (c' c : Str) (b : Bool) | val (p : PySem.W.Frag → Addr) (t : T)
def eqv (a b : Option (Option Value)) : Bool := decide (a = b)
def tyNames : List String := ["NoneType", "bool", "int", "str", "list", "tuple", "dict"]
def Fx.ok (K : PySem.W.Frag) : Fx → Bool
  | .glo x => (He.Fa.glo x).ok K
  | .free x => (He.Fa.free x).ok K
  | .bfun x id => eqv (PySem.W.nsIn K mainGlobals x) (some (some (.builtin id)))
  | .cls c => (He.Fa.cls c).ok K && (eqv (PySem.W.findIn K (.ref (He.ga K c)) "__class__") (some (some (.builtin "object.__class__"))) && (eqv (PySem.W.specialIn K (.builtin "object.__class__") "__get__") (some (some (.builtin "getset_descriptor.__get__"))) &&
      (decide (PySem.W.takesIn K (.builtin "object.__class__") = some true) && decide (PySem.W.mroIn K (He.ga K c) (.type "object") = some true))))
  | .noat c f => (He.Fa.noat c f).ok K
  | .meth c m => (He.Fa.meth c m).ok K
  | .mkr c => (He.Fa.mkr c).ok K
  | .con c f t => (match PySem.W.findIn K (.ref (He.ga K c)) f with
    | some (some u) => matV K t u && (eqv (PySem.W.specialIn K u "__get__") (some none) && !PySem.W.copiedNames.contains f)
    | _ => false)
  | .cval c f t => (match PySem.W.findCls K (.ref (He.ga K c)) (.type "type") f with
    | some (.val u) => matV K t u
    | _ => false)
  | .prop c f => eqv (PySem.W.findIn K (.ref (He.ga K c)) f) (some (some (.ref (He.ma K (He.ga K c) f)))) && (eqv (PySem.W.specialIn K (.ref (He.ma K (He.ga K c) f)) "__get__") (some (some (.builtin "property.__get__"))) &&
      (decide (PySem.W.takesIn K (.ref (He.ma K (He.ga K c) f)) = some true) && (match PySem.W.recIn K (He.ma K (He.ga K c) f) "property" with
        | some (.ref g :: _) => decide (g = He5.wf K (He.ga K c) "property" f)
        | _ => false)))
  | .ne c => eqv (PySem.W.findIn K (.ref (He.ga K c)) "__ne__") (some (some (.builtin "object.__ne__")))
  | .self1 c => PySem.W.selfFirst K (He.ga K c)
  | .crd c => PySem.W.readsIn K (He.ga K c) (.type "type") && eqv (PySem.W.specialIn K (.ref (He.ga K c)) "__getattribute__") (some (some (.builtin "type.__getattribute__")))
  | .cmet c m => He5.wrapB K (He.ga K c) "classmethod" "classmethod.__get__" m && PySem.W.fnIn K (He5.wf K (He.ga K c) "classmethod" m)
  | .smet c m => He5.wrapB K (He.ga K c) "staticmethod" "staticmethod.__get__" m
  | .kty c => tyNames.all fun x => decide (PySem.W.kitOne K (.type x) (.ref (He.ga K c)) = some false)
  | .kown c' c b => decide (PySem.W.kitOne K (.ref (He.ga K c')) (.ref (He.ga K c)) = some b)
  | .val p t => matV K t (.ref (p K))
section
variable {K : PySem.W.Frag} {c c' f m x : Str}
theorem eqv_ok {a b : Option (Option Value)} (h : eqv a b = true) : a = b := of_decide_eq_true h
theorem Fx.clx (h : (Fx.cls c).ok K = true) : ClX K (He.ga K c) := by
  obtain ⟨h1, h⟩ := He.ba h
  obtain ⟨h2, h⟩ := He.ba h
  obtain ⟨h3, h⟩ := He.ba h
  obtain ⟨h4, h5⟩ := He.ba h
  exact ⟨He.cls_ok h1, eqv_ok h2, eqv_ok h3, of_decide_eq_true h4, of_decide_eq_true h5⟩
theorem Fx.conT {t : T} (h : (Fx.con c f t).ok K = true) : ∃ v u, Con K (He.ga K c) f v u ∧ ∀ G : Gm, G.K = K → ∀ w, RF G w t v := by
  replace h : (match PySem.W.findIn K (.ref (He.ga K c)) f with
    | some (some u) => matV K t u && (eqv (PySem.W.specialIn K u "__get__") (some none) && !PySem.W.copiedNames.contains f)
    | _ => false) = true := h
  split at h
  · rename_i u e
    obtain ⟨h1, h⟩ := He.ba h
    obtain ⟨h2, h3⟩ := He.ba h
    obtain ⟨v, r, q⟩ := matV_ok (G := ⟨K, fun _ => default⟩) h1
    refine ⟨v, u, ⟨e, r, eqv_ok h2, by simpa using h3⟩, fun G hG w => ?_⟩
    subst hG
    obtain ⟨v', r', q'⟩ := matV_ok (G := G) h1
    have : v' = v := RelV.inj r' r
    rw [← this]
    exact q' w
  · cases h
theorem Fx.cvalT {t : T} (h : (Fx.cval c f t).ok K = true) : ∃ v u, ClX.CVal K (He.ga K c) (.type "type") f v u ∧ ∀ G : Gm, G.K = K → ∀ w, RF G w t v := by
  replace h : (match PySem.W.findCls K (.ref (He.ga K c)) (.type "type") f with
    | some (.val u) => matV K t u
    | _ => false) = true := h
  split at h
  · rename_i u e
    obtain ⟨v, r, q⟩ := matV_ok (G := ⟨K, fun _ => default⟩) h
    refine ⟨v, u, ⟨e, r⟩, fun G hG w => ?_⟩
    subst hG
    obtain ⟨v', r', q'⟩ := matV_ok (G := G) h
    have : v' = v := RelV.inj r' r
    rw [← this]
    exact q' w
  · cases h
theorem Fx.propT (h : (Fx.prop c f).ok K = true) : PropOf K (He.ga K c) f (He.ma K (He.ga K c) f) (He5.wf K (He.ga K c) "property" f) := by
  obtain ⟨h1, h⟩ := He.ba h
  obtain ⟨h2, h⟩ := He.ba h
  obtain ⟨h3, h4⟩ := He.ba h
  refine ⟨eqv_ok h1, eqv_ok h2, of_decide_eq_true h3, ?_⟩
  split at h4
  · rename_i g r e
    rw [← of_decide_eq_true h4]
    exact ⟨r, e⟩
  · cases h4
theorem Fx.cmetT {m : Str} (h : (Fx.cmet c m).ok K = true) : ClX.CMet K (He.ga K c) (.type "type") m (He.ma K (He.ga K c) m) (He5.wf K (He.ga K c) "classmethod" m) := by
  obtain ⟨h1, h2⟩ := He.ba h
  exact He5.cmet_of h1 h2
theorem Fx.smetT {m : Str} (h : (Fx.smet c m).ok K = true) : PySem.W.findCls K (.ref (He.ga K c)) (.type "type") m = some (.get (.builtin "staticmethod.__get__") (.ref (He.ma K (He.ga K c) m)) .none (.ref (He.ga K c))) ∧ ∃ rest, PySem.W.recIn K (He.ma K (He.ga K c) m) "staticmethod" = some (.ref (He5.wf K (He.ga K c) "staticmethod" m) :: rest) := He5.wrapB_ok h
theorem Fx.crdT (h : (Fx.crd c).ok K = true) : ClX.CRead K (He.ga K c) (.type "type") := by
  obtain ⟨h1, h2⟩ := He.ba h
  exact ⟨h1, eqv_ok h2⟩
theorem Fx.valT {p : PySem.W.Frag → Addr} {t : T} {G : Gm} (h : (Fx.val p t).ok G.K = true) (w : Wd) : RF G w t (.ref (p G.K)) := by
  obtain ⟨v, r, q⟩ := matV_ok (G := G) h
  have : v = .ref (p G.K) := RelV.inj r rfl
  rw [← this]
  exact q w
end
/-! ### the Hook -/
abbrev AlQ : Type := Bool × List He.FnW
def obsQ (fx : List Fx) (fn : List He5.DefA) (gk : List (Str × T)) (K : PySem.W.Frag) : AlQ := ((fx.all fun f => f.ok K) && ((fn.all fun d => d.ok K) && gk.all (globK K)), fn.map fun d => He5.fnA K (d.at_ K))
def valQ (fn : List He5.DefA) : AlQ := (true, fn.map He5.DefA.val)
def SaysQ (fx : List Fx) (fn : List He5.DefA) (gk : List (Str × T)) (K : PySem.W.Frag) : Prop := obsQ fx fn gk K = valQ fn
def obsQG (n : Nat) (fx : List Fx) (fn : List He5.DefA) (gk : List (Str × T)) (g : Addr → Option Obj) : AlQ := obsQ fx fn gk (He.frG g (He5.asA g n))
def hookQ (n : Nat) (fx : List Fx) (fn : List He5.DefA) (gk : List (Str × T)) : PySem.W.Hook where
  α := AlQ
  obs := fun s => obsQG n fx fn gk s.heap.get?
  val := fun _ => valQ fn
  says := fun _ h => ∃ K : PySem.W.Frag, K.In h ∧ SaysQ fx fn gk K
  of := fun _ _ e => ⟨_, He.frG_in, e⟩
  keeps := fun _ _ _ ⟨K, hK, c⟩ k => ⟨K, PySem.W.Frag.In.keeps hK k, c⟩
theorem obsQG_eq {n : Nat} {fx : List Fx} {fn : List He5.DefA} {gk : List (Str × T)} {g : Addr → Option Obj} {s : Shared} (h : ∀ a, g a = s.heap.get? a) : obsQG n fx fn gk g = (hookQ n fx fn gk).obs s := by
  have e : g = s.heap.get? := funext h
  rw [e] <;> rfl
section
variable {fx : List Fx} {fn : List He5.DefA} {gk : List (Str × T)} {K : PySem.W.Frag}
theorem SaysQ.all (c : SaysQ fx fn gk K) : (fx.all fun f => f.ok K) = true ∧ (fn.all fun d => d.ok K) = true ∧ gk.all (globK K) = true := by
  have h := congrArg Prod.fst c
  obtain ⟨h1, h2⟩ := He.ba h
  exact ⟨h1, He.ba h2⟩
theorem SaysQ.fact (c : SaysQ fx fn gk K) : ∀ f ∈ fx, f.ok K = true := List.all_eq_true.mp c.all.1
theorem SaysQ.g (c : SaysQ fx fn gk K) : ∀ p ∈ gk, globK K p = true := List.all_eq_true.mp c.all.2.2
theorem SaysQ.def_ (c : SaysQ fx fn gk K) (i : Nat) {d : He5.DefA} (h : fn[i]? = some d) : ∃ fd, L2.FunD K d.name d.qual d.params d.body d.scope (d.dvs K) (d.kws K) (d.at_ K) fd := by
  have e : fn.map (fun d => He5.fnA K (d.at_ K)) = fn.map He5.DefA.val := congrArg Prod.snd c
  have e2 : (fn.map fun d => He5.fnA K (d.at_ K))[i]? = (fn.map He5.DefA.val)[i]? := by rw [e]
  rw [List.getElem?_map, List.getElem?_map, h] at e2
  exact He5.DefA.funD (Option.some.inj e2) (List.all_eq_true.mp c.all.2.1 d (List.mem_of_getElem? h))
end
/-- no classmethod's def -/
def noCls (ps : List Str) : Bool := match ps with
  | p :: _ => !decide (p = ("cls" : Str))
  | [] => true
/-- the class of a qualified name -/
def qcls (z : Str) : Str := ⟨(z.cps.toList.takeWhile fun c => c != 46).toArray⟩
def spQ (G : Gm) (cal : Nat → List Slot → CRes) (f : Nat) (d : He5.DefA) (ps : List Str) : Sp := fun vs H Q E => (noCls ps = false → vs.head? = some (.ref (He.ga G.K (qcls d.qual)))) ∧ spM G cal f vs H Q E
/-! ### what a def's body leans on -/
structure GQ (tab : Nat → Option (He5.DefA × List Str)) (fx : List Fx) (gk : List (Str × T)) (cn : List Str) (P : Program) (w : World) (K : PySem.W.Frag) (mg : Str → Option Value) (base : Heap) (k : Nat) (G : Gm) (cal : Nat → List Slot → CRes) : Prop where
  fnb : ∀ (f : Nat) (d : He5.DefA) (ps : List Str), tab f = some (d, ps) → ∃ fd, L2.FunD K d.name d.qual d.params d.body d.scope (d.dvs K) (d.kws K) (d.at_ K) fd ∧ FnB P w K mg base (L2.CX P w) (2 * k) (d.at_ K) fd ps (spQ G cal f d ps)
  fxs : ∀ (i : Nat) (f : Fx), fx[i]? = some f → f.ok K = true
  gs : ∀ (i : Nat) (x : Str) (t : T), gk[i]? = some (x, t) → ∃ u v, mg x = some u ∧ RelV v u ∧ ∀ w, RF G w t v
  glo : ∀ (i : Nat) (x : Str), fx[i]? = some (.glo x) → mg x = some (.ref (He.ga K x))
  fre : ∀ (i : Nat) (x : Str), fx[i]? = some (.free x) → mg x = none
  bf : ∀ (i : Nat) (x : Str) (id : String), fx[i]? = some (.bfun x id) → mg x = some (.builtin id)
  cn : ∀ (c : Nat) (x : Str), cn[c]? = some x → G.cls c = He.ga K x
  eK : G.K = K
theorem GQ.fns {tab : Nat → Option (He5.DefA × List Str)} {fx : List Fx} {gk : List (Str × T)} {cn : List Str} {P : Program} {w : World} {K : PySem.W.Frag} {mg : Str → Option Value} {base : Heap} {k : Nat} {G : Gm} {cal : Nat → List Slot → CRes} (q : GQ tab fx gk cn P w K mg base k G cal)
    (f : Nat) (d : He5.DefA) (ps : List Str) (h : tab f = some (d, ps)) : ∃ fd, L2.FunD K d.name d.qual d.params d.body d.scope (d.dvs K) (d.kws K) (d.at_ K) fd ∧ FnOk P w K mg base (L2.CX P w) (2 * k) (d.at_ K) fd ps (spQ G cal f d ps) :=
  let ⟨fd, F, b⟩ := q.fnb f d ps h
  ⟨fd, F, b.ok⟩
/-- the class ids by names -/
def clsOf (K : PySem.W.Frag) (cn : List Str) (c : Nat) : Addr := match cn[c]? with
  | some x => He.ga K x
  | none => default
/-- a def called with n values written, its last parameters' defaults dts -/
structure Bnd (d : He5.DefA) (ps : List Str) (fx : List Fx) (n : Nat) (dts : List T) : Prop where
  nc : noCls ps = true
  b : ∀ {K : PySem.W.Frag} {f : Addr} {fd : FuncData}, L2.FunD K d.name d.qual d.params d.body d.scope (d.dvs K) (d.kws K) f fd → ∃ dvs ds, Vals dvs ds ∧ Binds K fd ps ds ∧ (∀ G : Gm, G.K = K → (∀ f ∈ fx, f.ok K = true) → ∀ w, RFs G w dts dvs)
theorem bnd_all {d : He5.DefA} {ps : List Str} {fx : List Fx} {n : Nat} (hd : d.dfl = [])
    (h : ∀ (kV doc pm : Value) (an : Option Addr) (cdv ct : Value) (us : List Value), us.length = ps.length → bindArgs (PySem.W.fnOf d.name d.qual d.params d.body d.scope .none kV doc pm an cdv ct) ⟨us, []⟩ = pure (ps.zip us)) (hnc : noCls ps = true := by rfl) : Bnd d ps fx n [] := ⟨hnc, fun {K f fd} F => by
  have e : d.dvs K = [] := by unfold He5.DefA.dvs; rw [hd]; rfl
  rw [e] at F
  exact ⟨[], [], .nil, F.bindsN h, fun _ _ _ _ => .nil⟩⟩
theorem bnd_dfl {d : He5.DefA} {ps : List Str} {fx : List Fx} {n j : Nat} {dts : List T} (hd : d.dfl ≠ []) (hn : n + (d.dfl.length - j) = ps.length) (hr : ∀ G : Gm, (∀ f ∈ fx, f.ok G.K = true) → ∀ w, RFs G w dts ((d.dvs G.K).drop j))
    (h : ∀ (T : Addr) (kV doc pm : Value) (an : Option Addr) (cdv ct : Value) (us its : List Value), us.length = n → its.length = d.dfl.length →
      ∃ k, bindArgs (PySem.W.fnOf d.name d.qual d.params d.body d.scope (.ref T) kV doc pm an cdv ct) ⟨us, []⟩ = seqItems? (.ref T) >>= k ∧ k (some its.toArray) = pure (ps.zip (us ++ its.drop j))) (hnc : noCls ps = true := by rfl) : Bnd d ps fx n dts := ⟨hnc, fun {K f fd} F => by
  have hl : (d.dvs K).length = d.dfl.length := by unfold He5.DefA.dvs; rw [List.length_map]
  have hd' : d.dvs K ≠ [] := fun z => hd (by
    have := congrArg List.length z
    rw [hl] at this
    exact List.length_eq_zero_iff.mp this)
  obtain ⟨ds, h1, h2⟩ := F.binds1 n j hd' (by rw [hl]; exact hn) (fun T kV doc pm an cdv ct us its hu hi => h T kV doc pm an cdv ct us its hu (by rw [hi, hl]))
  refine ⟨_, ds, h1, h2, fun G hG hf w => ?_⟩
  subst hG
  exact hr G hf w⟩
/-! ### consts at the end of arguments -/
def Es.app : Es → Es → Es
  | .nil, b => b
  | .cons e r, b => .cons e (r.app b)
def Es.cs : List T → Es
  | [] => .nil
  | t :: r => .cons (.c t) (Es.cs r)
theorem evDs_cs {cal : Nat → List Slot → CRes} : ∀ (ts : List T) (m : List Slot), evDs cal (Es.cs ts) m = .ok (ts.map Opd.t) m
  | [], m => by rw [Es.cs, evDs]; rfl
  | t :: r, m => by
    rw [Es.cs, evDs, evE]
    show (evDs cal (Es.cs r) m).bind _ = _
    rw [evDs_cs r m]
    rfl
theorem Res.bind_assoc {α β γ : Type} (r : Res α) (f : α → List Slot → Res β) (g : β → List Slot → Res γ) : (r.bind f).bind g = r.bind fun a m => (f a m).bind g := by cases r <;> rfl
theorem evDs_app {cal : Nat → List Slot → CRes} {ts : List T} : ∀ (es : Es) (m : List Slot), evDs cal (es.app (Es.cs ts)) m = (evDs cal es m).bind fun ds m1 => .ok (ds ++ ts.map Opd.t) m1
  | .nil, m => by
    rw [Es.app, evDs_cs, evDs]; rfl
  | .cons e r, m => by
    rw [Es.app, evDs, evDs]
    rw [Res.bind_assoc]
    congr 1
    funext x m1
    rw [evDs_app r m1, Res.bind_assoc, Res.bind_assoc]
    rfl
theorem RDs.app' {G : Gm} {w : Wd} {σ : St} {ds : List Opd} {vs : List V} {ts : List T} {us : List V} (a : RDs G w σ ds vs) (b : RFs G w ts us) : RDs G w σ (ds ++ ts.map Opd.t) (vs ++ us) := by
  induction a with
  | nil =>
    induction ts generalizing us with
    | nil => cases b; exact .nil
    | cons t r ih => cases b with | cons x y => exact .cons x (ih y)
  | cons x _ ih => exact .cons x ih
end Mi
set_option maxHeartbeats 1000000
namespace Mi
open PySem PySem.Spec PyProof.Rows L2

section
variable {tab : Nat → Option (He5.DefA × List Str)} {fx : List Fx} {gk : List (Str × T)} {cn : List Str} {C : Ct} {X : Cx} {k L : Nat} {cal : Nat → List Slot → CRes} {pos p1 p2 p3 apos : Pos}
abbrev GX (tab : Nat → Option (He5.DefA × List Str)) (fx : List Fx) (gk : List (Str × T)) (cn : List Str) (X : Cx) (k : Nat) (G : Gm) (cal : Nat → List Slot → CRes) : Prop := GQ tab fx gk cn X.prog X.w X.K X.mg X.base k G cal
theorem rdD_mono {f : List Slot → Res Opd} {σ : St} {H : Hp} {Q Q' : VK} (h : rdD C f σ H Q) (i : ∀ v H, Q v H → Q' v H) : rdD C f σ H Q' := by
  obtain ⟨w, m, e, P, q⟩ := h
  exact ⟨w, m, e, P, Res.sat_mono q fun d m1 q1 w1 v S1 x1 r1 => i _ _ (q1 w1 v S1 x1 r1)⟩
theorem nil_rd {σ : St} {H : Hp} {Q : List V → Hp → Prop} (h : rdDs C (evDs cal .nil) σ H Q) : Q [] H := by
  obtain ⟨w, m, e, P, q⟩ := h
  rw [evDs] at q
  subst e
  exact q w [] P.sr (.refl w) .nil
/-! ### the program's defs -/
theorem q_fn (e : GX tab fx gk cn X k C.G cal) {f i : Nat} {d : He5.DefA} {ps : List Str} {x : Str} (ht : tab f = some (d, ps)) (hi : fx[i]? = some (.glo x)) (hat : d.at_ = fun K => He.ga K x) (b : Bnd d ps fx ps.length []) : FnAt X k C.G cal f x ps := ⟨by
  obtain ⟨fd, F, ok⟩ := e.fns f d ps ht
  replace ok := ok.imp (sp' := spM C.G cal f) fun vs H Q E h => ⟨fun z => (by rw [b.nc] at z; cases z), h⟩
  obtain ⟨dvs, ds, h1, h2, h3⟩ := b.b F
  have r := h3 C.G e.eK (fun f hf => by obtain ⟨i, hi⟩ := List.getElem?_of_mem hf; exact e.fxs i f hi) ⟨fun _ => True, fun _ => True, fun _ => none⟩
  cases r
  cases h1
  have ha : d.at_ X.K = He.ga X.K x := by rw [hat]
  rw [ha] at F ok
  exact ⟨_, fd, e.glo i x hi, F.kp, h2, ok⟩⟩
theorem q_glob (e : GX tab fx gk cn X k C.G cal) (i : Nat) {x : Str} {t : T} (hi : gk[i]? = some (x, t)) : GlobAt X C.G x t := e.gs i x t hi
theorem q_fr (e : GX tab fx gk cn X k C.G cal) (i : Nat) {x : Str} (hi : fx[i]? = some (.free x)) : Fr X x := e.fre i x hi
/-! ### classes -/
theorem GQ.clsA (e : GX tab fx gk cn X k C.G cal) {cl ic : Nat} {nm : Str} (hcl : cn[cl]? = some nm) (hic : fx[ic]? = some (.cls nm)) : ClX X.K (C.G.cls cl) := by
  rw [e.cn cl nm hcl]
  exact Fx.clx (e.fxs ic _ hic)
theorem GQ.noat (e : GX tab fx gk cn X k C.G cal) {cl i : Nat} {nm f : Str} (hcl : cn[cl]? = some nm) (hi : fx[i]? = some (.noat nm f)) : NoAttr X.K (C.G.cls cl) f := by
  rw [e.cn cl nm hcl]
  exact He.noat_ok (e.fxs i _ hi)
theorem GQ.meth (e : GX tab fx gk cn X k C.G cal) {cl i : Nat} {nm m : Str} (hcl : cn[cl]? = some nm) (hi : fx[i]? = some (.meth nm m)) : Meth X.K (C.G.cls cl) m (He.ma X.K (He.ga X.K nm) m) := by
  rw [e.cn cl nm hcl]
  exact He.meth_ok (e.fxs i _ hi)
theorem q_fld (c : XC C X k) (e : GX tab fx gk cn X k C.G cal) {cl ic i : Nat} {nm f : Str} {o : Expr} {a : E} (hcl : cn[cl]? = some nm) (hic : fx[ic]? = some (.cls nm)) (hi : fx[i]? = some (.noat nm f)) (ha : PE X o (rdE C (evE cal a))) (hb : attributeBase o f X.env (eval o X.env) = eval o X.env := by rfl) :
    PE X (.Attribute o f pos) (rdE C (evE cal (.fld cl a f))) :=
  n_fld (fun ta h => by rw [c.K]; exact pe_fld h hb) (by rw [c.K]; exact (e.clsA hcl hic).cl) (by rw [c.K]; exact e.noat hcl hi) ha
theorem q_con (c : XC C X k) (e : GX tab fx gk cn X k C.G cal) {cl ic i : Nat} {nm f : Str} {t : T} {o : Expr} {a : E} (hcl : cn[cl]? = some nm) (hic : fx[ic]? = some (.cls nm)) (hi : fx[i]? = some (.con nm f t)) (ha : PE X o (rdE C (evE cal a))) (hb : attributeBase o f X.env (eval o X.env) = eval o X.env := by rfl) :
    PE X (.Attribute o f pos) (rdE C (evE cal (.con cl a f t))) := by
  obtain ⟨v, u, h1, h2⟩ := Fx.conT (e.fxs i _ hi)
  exact n_con (v := v) (u := u) (fun ta h => by rw [c.K]; exact pe_con h hb) (by rw [c.K]; exact (e.clsA hcl hic).cl) (by rw [c.K, e.cn cl nm hcl]; exact h1) (h2 C.G c.K) ha
theorem q_cval (c : XC C X k) (e : GX tab fx gk cn X k C.G cal) {ic i ig : Nat} {nm f : Str} {t : T} (hic : fx[ic]? = some (.crd nm)) (hi : fx[i]? = some (.cval nm f t)) (hig : fx[ig]? = some (.glo nm)) (hg : Gl X nm := by rfl) (hdb : (nm == ("__debug__" : Str)) = false := by decide)
    (hb : attributeBase (.Name nm p1) f X.env (eval (.Name nm p1) X.env) = eval (.Name nm p1) X.env := by rfl) : PE X (.Attribute (.Name nm p1) f pos) (rdE C (evE cal (.c t))) := by
  obtain ⟨v, u, h1, h2⟩ := Fx.cvalT (e.fxs i _ hi)
  exact n_cst (PE.imp (ClX.pe_cval (pe_glob (v := .ref (He.ga X.K nm)) hg (e.glo ig nm hig) rfl hdb) hb) fun σ H Q q => ⟨_, _, _, _, rfl, Fx.crdT (e.fxs ic _ hic), h1, q⟩) (h2 C.G c.K)
theorem q_prop (c : XC C X k) (e : GX tab fx gk cn X k C.G cal) {cl f ic i : Nat} {nm m : Str} {d : He5.DefA} {ps : List Str} {o : Expr} {a : E} (hcl : cn[cl]? = some nm) (hic : fx[ic]? = some (.cls nm)) (hi : fx[i]? = some (.prop nm m)) (ht : tab f = some (d, ps)) (hat : d.at_ = fun K => He5.wf K (He.ga K nm) "property" m) (b : Bnd d ps fx 1 [])
    (ha : PE X o (rdE C (evE cal a))) (hb : attributeBase o m X.env (eval o X.env) = eval o X.env := by rfl) : PE X (.Attribute o m pos) (rdE C (evE cal (.prop cl f a))) := by
  obtain ⟨fd, F, ok⟩ := e.fns f d ps ht
  replace ok := ok.imp (sp' := spM C.G cal f) fun vs H Q E h => ⟨fun z => (by rw [b.nc] at z; cases z), h⟩
  obtain ⟨dvs, ds, h1, h2, h3⟩ := b.b F
  have r := h3 C.G e.eK (fun f hf => by obtain ⟨i, hi⟩ := List.getElem?_of_mem hf; exact e.fxs i f hi) ⟨fun _ => True, fun _ => True, fun _ => none⟩
  cases r
  cases h1
  have hp := Fx.propT (e.fxs i _ hi)
  have ha' : d.at_ X.K = He5.wf X.K (He.ga X.K nm) "property" m := by rw [hat]
  rw [ha'] at F ok
  rw [← e.cn cl nm hcl] at hp ok
  exact n_prop (fun ta h => pe_prop h (e.clsA hcl hic).cl hp ok c.room h2 .nil (fun _ _ _ _ _ _ _ h => by obtain ⟨_, _, _, _, _, _, _, _, _, _, _, _, z⟩ := h; exact z.elim) hb) ha
/-- a method's call: the reading, with defaults -/
theorem n_methD {ex : Expr} {c f : Nat} {n : Str} {io : List Bool} {a : E} {es : Es} {dts : List T} {dvs : List V} (hd : ∀ w, RFs C.G w dts dvs) (hp : PE X ex (tMeth (C.G.cls c) n (spM C.G cal f) dvs EF (rdD C (opdF (evE cal a))) (rdDs C (evDs cal es)))) : PE X ex (rdE C (evE cal (.meth c f n io a (es.app (Es.cs dts))))) :=
  PE.imp hp fun σ H Q ⟨w, m, e, P, q⟩ => by
  rw [evE, Res.sat_bind] at q
  refine ⟨w, m, e, P, ?_⟩
  rw [opdF, Res.sat_bind]
  refine Res.sat_mono q fun r m1 q1 w1 v S1 x1 r1 => ?_
  split at q1
  · rename_i c' fs hd1
    split at q1
    · rename_i hcc
      obtain ⟨rfl, hl⟩ := hcc
      obtain ⟨p, dx, gs, rfl, h1, h2⟩ := (S1.der r1 hd1).ins
      refine ⟨p, dx, gs, rfl, h1, h2.lookN hl, ?_⟩
      rw [evDs_app, Res.bind_assoc, Res.sat_bind] at q1
      refine ⟨w1, m1, rfl, P.step S1 x1, Res.sat_mono q1 fun ds m2 q2 w2 vs S2 x2 r2 => ?_⟩
      exact call_quiet ((P.step S1 x1).step S2 x2) (.cons (r1.mono x2.mo) (r2.app' (hd w2))) (Res.sat_mono q2 fun r m3 k w' v S' x' rr => k w' v S' (x1.trans (x2.trans x')) rr)
    · exact q1.elim
  · exact q1.elim
theorem GQ.defA (e : GX tab fx gk cn X k C.G cal) {f n : Nat} {d : He5.DefA} {ps : List Str} {dts : List T} (ht : tab f = some (d, ps)) (b : Bnd d ps fx n dts) :
    ∃ fd dvs ds, Vals dvs ds ∧ Binds X.K fd ps ds ∧ (∀ w, RFs C.G w dts dvs) ∧ FnOk X.prog X.w X.K X.mg X.base (L2.CX X.prog X.w) (2 * k) (d.at_ X.K) fd ps (spM C.G cal f) := by
  obtain ⟨fd, F, ok⟩ := e.fns f d ps ht
  replace ok := ok.imp (sp' := spM C.G cal f) fun vs H Q E h => ⟨fun z => (by rw [b.nc] at z; cases z), h⟩
  obtain ⟨dvs, ds, h1, h2, h3⟩ := b.b F
  exact ⟨fd, dvs, ds, h1, h2, h3 C.G e.eK (fun f hf => by obtain ⟨i, hi⟩ := List.getElem?_of_mem hf; exact e.fxs i f hi), ok⟩
theorem q_meth (c : XC C X k) (e : GX tab fx gk cn X k C.G cal) {pl : Sem Bool} {cl f n ic im : Nat} {nm m : Str} {d : He5.DefA} {ps : List Str} {dts : List T} {o e1 : Expr} {es1 : List Expr} {io : List Bool} {a : E} {es : Es} (hcl : cn[cl]? = some nm) (hic : fx[ic]? = some (.cls nm)) (him : fx[im]? = some (.meth nm m)) (ht : tab f = some (d, ps))
    (hat : d.at_ = fun K => He.ma K (He.ga K nm) m) (b : Bnd d ps fx n dts) (ha : PE X o (rdE C (evE cal a))) (h : PA X (e1 :: es1) (rdDs C (evDs cal es)))
    (hst : starEach (e1 :: es1) X.env = (false, eval e1 X.env) :: starEach es1 X.env := by rfl) (hpl : (backTo pos (starEach es1 X.env)).any (·.1) = false := by rfl)
    (he : eval (.Call (.Attribute o m apos) (e1 :: es1) [] pos) X.env = (do
      let ov ← eval o X.env
      standAt apos.atName
      let (f, first) ← holding [ov] (getMethod ov m pl)
      callWith pos f first (backTo pos (starEach (e1 :: es1) X.env)) (backToKw pos (keywordEach [] X.env))) := by rfl) :
    PE X (.Call (.Attribute o m apos) (e1 :: es1) [] pos) (rdE C (evE cal (.meth cl f m io a (es.app (Es.cs dts))))) := by
  obtain ⟨fd, dvs, ds, h1, h2, h3, ok⟩ := e.defA ht b
  have ha' : d.at_ X.K = He.ma X.K (He.ga X.K nm) m := by rw [hat]
  rw [ha'] at ok
  exact n_methD h3 (pe_meth (pl := pl) (pe_opd ha) (e.clsA hcl hic).cl (e.meth hcl him) ok c.low h2 h1 passEF h hst hpl he)
theorem q_meth0 (c : XC C X k) (e : GX tab fx gk cn X k C.G cal) {pl : Sem Bool} {cl f n ic im : Nat} {nm m : Str} {d : He5.DefA} {ps : List Str} {dts : List T} {o : Expr} {io : List Bool} {a : E} (hcl : cn[cl]? = some nm) (hic : fx[ic]? = some (.cls nm)) (him : fx[im]? = some (.meth nm m)) (ht : tab f = some (d, ps))
    (hat : d.at_ = fun K => He.ma K (He.ga K nm) m) (b : Bnd d ps fx n dts) (ha : PE X o (rdE C (evE cal a)))
    (he : eval (.Call (.Attribute o m apos) [] [] pos) X.env = (do
      let ov ← eval o X.env
      standAt apos.atName
      let (f, first) ← holding [ov] (getMethod ov m pl)
      callWith pos f first (backTo pos (starEach [] X.env)) (backToKw pos (keywordEach [] X.env))) := by rfl) :
    PE X (.Call (.Attribute o m apos) [] [] pos) (rdE C (evE cal (.meth cl f m io a (Es.cs dts)))) := by
  obtain ⟨fd, dvs, ds, h1, h2, h3, ok⟩ := e.defA ht b
  have ha' : d.at_ X.K = He.ma X.K (He.ga X.K nm) m := by rw [hat]
  rw [ha'] at ok
  exact n_methD (es := .nil) h3 (PE.imp (pe_meth0 (pl := pl) (pe_opd ha) (e.clsA hcl hic).cl (e.meth hcl him) ok c.low h2 h1 passEF he) fun σ H Q q => rdD_mono q fun v H1 ⟨a, dx, fs, q1, q2, q3, q4⟩ => ⟨a, dx, fs, q1, q2, q3, nil_rd q4⟩)
/-! ### new instances -/
theorem evDs_len : ∀ (es : Es) (m : List Slot) (ds : List Opd) (m' : List Slot), evDs cal es m = .ok ds m' → ds.length = es.len
  | .nil, m, ds, m', h => by rw [evDs] at h; cases h; rfl
  | .cons e r, m, ds, m', h => by
    rw [evDs] at h
    cases h1 : evE cal e m with
    | no => rw [h1] at h; cases h
    | ex x m1 => rw [h1] at h; cases h
    | ok x m1 =>
      rw [h1] at h
      simp only [Res.bind] at h
      cases h2 : evDs cal r m1 with
      | no => rw [h2] at h; cases h
      | ex x m2 => rw [h2] at h; cases h
      | ok xs m2 =>
        rw [h2] at h
        cases h
        exact congrArg Nat.succ (evDs_len r m1 xs _ h2)
theorem rd_mkD {c f : Nat} {es : Es} {dts : List T} {dvs : List V} (hd : ∀ w, RFs C.G w dts dvs) {σ : St} {H : Hp} {Q : VK} (q : rdE C (evE cal (.mk c f [] (es.app (Es.cs dts)))) σ H Q) : tMake (C.G.cls c) (spM C.G cal f) dvs EF (rdDs C (evDs cal es)) σ H Q := by
  have q := rd_mk0 (pm := []) (pmv := fun vs => vs) (fun r => r) q
  obtain ⟨w, m, e, P, q⟩ := q
  rw [evDs_app, Res.sat_bind] at q
  refine ⟨w, m, e, P, Res.sat_mono q fun ds m1 q1 w1 vs S1 x1 r1 => ?_⟩
  exact q1 w1 (vs ++ dvs) S1 x1 (r1.app' (hd w1))
theorem n_mkD {ex : Expr} {c f : Nat} {es : Es} {dts : List T} {dvs : List V} (hd : ∀ w, RFs C.G w dts dvs) (hp : PE X ex (tMake (C.G.cls c) (spM C.G cal f) dvs EF (rdDs C (evDs cal es)))) : PE X ex (rdE C (evE cal (.mk c f [] (es.app (Es.cs dts))))) :=
  PE.imp hp fun σ H Q q => rd_mkD hd q
end
end Mi
set_option maxHeartbeats 1000000
namespace Mi
open PySem PySem.Spec PyProof.Rows L2

structure KitI (fx : List Fx) (cn : List Str) (cl : Nat) (nm : Str) (cs ns : List Nat) : Prop where
  ty : ∃ i : Nat, fx[i]? = some (.kty nm)
  yes : ∀ c' ∈ cs, ∃ (n' : Str) (i j : Nat), cn[c']? = some n' ∧ fx[i]? = some (.kown n' nm true) ∧ fx[j]? = some (.cls n')
  no : ∀ c' ∈ ns, ∃ (n' : Str) (i j : Nat), cn[c']? = some n' ∧ fx[i]? = some (.kown n' nm false) ∧ fx[j]? = some (.cls n')
section
variable {tab : Nat → Option (He5.DefA × List Str)} {fx : List Fx} {gk : List (Str × T)} {cn : List Str} {C : Ct} {X : Cx} {k L : Nat} {cal : Nat → List Slot → CRes} {pos p1 p2 p3 apos : Pos}
theorem GQ.mkr (e : GX tab fx gk cn X k C.G cal) {cl i : Nat} {nm : Str} (hcl : cn[cl]? = some nm) (hi : fx[i]? = some (.mkr nm)) : Mk X.K (C.G.cls cl) (He.ma X.K (He.ga X.K nm) "__init__") := by
  rw [e.cn cl nm hcl]
  exact He.mkr_ok (e.fxs i _ hi)
theorem GQ.gloC (e : GX tab fx gk cn X k C.G cal) {cl i : Nat} {nm : Str} (hcl : cn[cl]? = some nm) (hi : fx[i]? = some (.glo nm)) : X.mg nm = some (.ref (C.G.cls cl)) := by
  rw [e.cn cl nm hcl]
  exact e.glo i nm hi
theorem q_mk (c : XC C X k) (e : GX tab fx gk cn X k C.G cal) {cl f n ig im : Nat} {nm : Str} {d : He5.DefA} {ps : List Str} {dts : List T} {e1 : Expr} {es1 : List Expr} {es : Es} (hcl : cn[cl]? = some nm) (hig : fx[ig]? = some (.glo nm)) (him : fx[im]? = some (.mkr nm)) (ht : tab f = some (d, ps))
    (hat : d.at_ = fun K => He.ma K (He.ga K nm) "__init__") (b : Bnd d ps fx n dts) (h : PA X (e1 :: es1) (rdDs C (evDs cal es))) (hg : Gl X nm := by rfl) (hdb : (nm == ("__debug__" : Str)) = false := by decide)
    (he : starEach (e1 :: es1) X.env = (false, eval e1 X.env) :: starEach es1 X.env := by rfl) (hpl : (backTo pos (starEach es1 X.env)).any (·.1) = false := by rfl) :
    PE X (.Call (.Name nm p1) (e1 :: es1) [] pos) (rdE C (evE cal (.mk cl f [] (es.app (Es.cs dts))))) := by
  obtain ⟨fd, dvs, ds, h1, h2, h3, ok⟩ := e.defA ht b
  have ha' : d.at_ X.K = He.ma X.K (He.ga X.K nm) "__init__" := by rw [hat]
  rw [ha'] at ok
  exact n_mkD h3 (pe_make (e.mkr hcl him) ok c.room hg (e.gloC hcl hig) h2 h1 passEF h hdb he hpl)
theorem q_mk0 (c : XC C X k) (e : GX tab fx gk cn X k C.G cal) {cl f n ig im : Nat} {nm : Str} {d : He5.DefA} {ps : List Str} {dts : List T} (hcl : cn[cl]? = some nm) (hig : fx[ig]? = some (.glo nm)) (him : fx[im]? = some (.mkr nm)) (ht : tab f = some (d, ps))
    (hat : d.at_ = fun K => He.ma K (He.ga K nm) "__init__") (b : Bnd d ps fx n dts) (hg : Gl X nm := by rfl) (hdb : (nm == ("__debug__" : Str)) = false := by decide) :
    PE X (.Call (.Name nm p1) [] [] pos) (rdE C (evE cal (.mk cl f [] (Es.cs dts)))) := by
  obtain ⟨fd, dvs, ds, h1, h2, h3, ok⟩ := e.defA ht b
  have ha' : d.at_ X.K = He.ma X.K (He.ga X.K nm) "__init__" := by rw [hat]
  rw [ha'] at ok
  exact n_mkD (es := .nil) h3 (PE.imp (pe_make0 (e.mkr hcl him) ok c.room hg (e.gloC hcl hig) h2 h1 passEF hdb) fun σ H Q q => nil_rd q)
/-- by keywords alone -/
def pmV (pm : List Nat) (vs : List V) : List V := match pm with
  | [] => vs
  | pm => pm.map fun i => vs.getD i .non
theorem RFs.getD {G : Gm} {w : Wd} {ts : List T} {vs : List V} (r : RFs G w ts vs) (i : Nat) : RF G w (ts.getD i .non) (vs.getD i .non) := by
  rw [List.getD_eq_getElem?_getD, List.getD_eq_getElem?_getD]
  cases h : ts[i]? with
  | none =>
    have : vs[i]? = none := by
      have := r.length
      have := List.getElem?_eq_none_iff.mp h
      exact List.getElem?_eq_none_iff.mpr (by omega)
    rw [this]
    exact .non
  | some t =>
    obtain ⟨v, h1, h2⟩ := r.get h
    rw [h1]
    exact h2
theorem RFs.pm {G : Gm} {w : Wd} {ts : List T} {vs : List V} (pm : List Nat) (r : RFs G w ts vs) : RFs G w (pmT pm ts) (pmV pm vs) := by
  cases pm with
  | nil => exact r
  | cons i l =>
    have : ∀ l : List Nat, RFs G w (l.map fun i => ts.getD i .non) (l.map fun i => vs.getD i .non) := fun l => by
      induction l with
      | nil => exact .nil
      | cons a l ih => exact .cons (r.getD a) ih
    exact this (i :: l)
theorem RDs.len {G : Gm} {w : Wd} {σ : St} {ds : List Opd} {vs : List V} (r : RDs G w σ ds vs) : ds.length = vs.length := by
  induction r with
  | nil => rfl
  | cons _ _ ih => exact congrArg Nat.succ ih
structure KBnd (d : He5.DefA) (ps ks : List Str) (pm : List Nat) : Prop where
  nc : noCls ps = true
  b : ∀ {K : PySem.W.Frag} {f : Addr} {fd : FuncData}, L2.FunD K d.name d.qual d.params d.body d.scope (d.dvs K) (d.kws K) f fd → ∃ g gV, KBn K fd ps 1 ks g gV ∧ ∀ x zs, zs.length = ks.length → gV [x] zs = x :: pmV pm zs
theorem q_mkK (c : XC C X k) (e : GX tab fx gk cn X k C.G cal) {cl f ig im : Nat} {nm : Str} {d : He5.DefA} {ps ks : List Str} {pm : List Nat} {kws : List Keyword} {es : Es} (hcl : cn[cl]? = some nm) (hig : fx[ig]? = some (.glo nm)) (him : fx[im]? = some (.mkr nm)) (ht : tab f = some (d, ps))
    (hat : d.at_ = fun K => He.ma K (He.ga K nm) "__init__") (b : KBnd d ps ks pm) (hlen : es.len = ks.length) (h : PK X kws (rdDs C (evDs cal es))) (hg : Gl X nm := by rfl) (hdb : (nm == ("__debug__" : Str)) = false := by decide)
    (hall : (backToKw pos (keywordEach kws X.env)).all (·.1.isSome) = true := by rfl) (hks : (backToKw pos (keywordEach kws X.env)).filterMap (·.1) = ks := by rfl)
    (hpl : ((backTo pos (starEach [] X.env)).any (·.1) || (backToKw pos (keywordEach kws X.env)).any (·.1.isNone)) = false := by rfl) :
    PE X (.Call (.Name nm p1) [] kws pos) (rdE C (evE cal (.mk cl f pm es))) := by
  obtain ⟨fd, F, ok⟩ := e.fns f d ps ht
  replace ok := ok.imp (sp' := spM C.G cal f) fun vs H Q E h => ⟨fun z => (by rw [b.nc] at z; cases z), h⟩
  obtain ⟨g, gV, kb, hg2⟩ := b.b F
  have ha' : d.at_ X.K = He.ma X.K (He.ga X.K nm) "__init__" := by rw [hat]
  rw [ha'] at ok
  refine n_mk0 (pmv := pmV pm) (fun r => r.pm pm) (PE.imp (pe_makeK0 (e.mkr hcl him) ok c.room hg (e.gloC hcl hig) kb passEF h hall hks hdb hpl) fun σ H Q q => ?_)
  obtain ⟨w, m, eH, P, q⟩ := q
  refine ⟨w, m, eH, P, ?_⟩
  cases hd : evDs cal es m with
  | no => rw [hd] at q; exact q.elim
  | ex x m1 => rw [hd] at q; exact q
  | ok ds m1 =>
    rw [hd] at q
    intro w1 vs S1 x1 r1
    have hl : vs.length = ks.length := by rw [← r1.len, evDs_len es m ds m1 hd, hlen]
    refine ⟨rfl, hl, fun x dx h1 h2 h3 => ?_⟩
    rw [hg2 _ _ hl]
    exact q w1 vs S1 x1 r1 x dx h1 h2 h3
/-! ### attributes stored -/
theorem q_stf (c : XC C X k) (e : GX tab fx gk cn X k C.G cal) {cl ic i j : Nat} {nm f x : Str} {v : Expr} {a : E} (hcl : cn[cl]? = some nm) (hic : fx[ic]? = some (.cls nm)) (hi : fx[i]? = some (.noat nm f)) (ho : PE X (.Name x p1) (tVar j)) (ha : PE X v (rdE C (evE cal a)))
    (hs : swapsWith v (some (.Attribute (.Name x p1) f p2)) pos.line X.env = pure false := by rfl) : PS X (.Assign [.Attribute (.Name x p1) f p2] v pos) (rdSt C (evS cal L (.stf j cl f a))) :=
  st_stf (by rw [c.K]; exact (e.clsA hcl hic).cl) (by rw [c.K]; exact e.noat hcl hi) (by rw [c.K]; exact ps_fld ho (pe_opd ha) hs)
theorem q_stp2 (c : XC C X k) (e : GX tab fx gk cn X k C.G cal) {cl ic i i' j : Nat} {nm f f' x : Str} {v : Expr} {a : E} {kk} {p4 : Pos} (hcl : cn[cl]? = some nm) (hic : fx[ic]? = some (.cls nm)) (hi : fx[i]? = some (.noat nm f)) (hi' : fx[i']? = some (.noat nm f')) (ho : PE X (.Name x p1) (tVar j)) (ho' : PE X (.Name x p2) (tVar j)) (ha : PE X v (rdE C (evE cal a)))
    (hs : swapsWithSole [.Tuple [.Attribute (.Name x p1) f p3, .Attribute (.Name x p2) f' p4] kk apos] v pos.line X.env = pure false := by rfl) (hw : swappedStores [.Tuple [.Attribute (.Name x p1) f p3, .Attribute (.Name x p2) f' p4] kk apos] v X.env = pure none := by rfl)
    (h1 : (assignEach [.Tuple [.Attribute (.Name x p1) f p3, .Attribute (.Name x p2) f' p4] kk apos] X.env).map (·.2) = [assign (.Tuple [.Attribute (.Name x p1) f p3, .Attribute (.Name x p2) f' p4] kk apos) X.env] := by rfl) :
    PS X (.Assign [.Tuple [.Attribute (.Name x p1) f p3, .Attribute (.Name x p2) f' p4] kk apos] v pos) (rdSt C (evS cal L (.stp j cl [f, f'] a))) :=
  st_stp rfl (by rw [c.K]; exact (e.clsA hcl hic).cl) (fun g hg => by
    rw [c.K]
    rcases List.mem_cons.mp hg with rfl | hg
    · exact e.noat hcl hi
    · rw [List.mem_singleton.mp hg]; exact e.noat hcl hi') (by rw [c.K]; exact ps_asg (pe_opd ha) (pg_tup c.calm (pgs_cons (pg_fld ho) (pgs_cons (pg_fld ho') pgs_nil))) hs hw h1)
/-! ### own operators -/
theorem q_ceq (c : XC C X k) (e : GX tab fx gk cn X k C.G cal) {cl f ic im : Nat} {nm : Str} {d : He5.DefA} {ps : List Str} {o o' : Expr} {a a' : E} (hcl : cn[cl]? = some nm) (hic : fx[ic]? = some (.cls nm)) (him : fx[im]? = some (.meth nm "__eq__")) (ht : tab f = some (d, ps))
    (hat : d.at_ = fun K => He.ma K (He.ga K nm) "__eq__") (b : Bnd d ps fx 2 []) (ha : PE X o (rdE C (evE cal a))) (hb : PE X o' (rdE C (evE cal a'))) (hm : behindInMarks .Eq o' = false := by first | exact nomark _ | rfl) :
    PE X (.Compare o [.Eq] [o'] pos) (rdE C (evE cal (.ceq false cl f a a'))) := by
  obtain ⟨fd, dvs, ds, h1, h2, h3, ok⟩ := e.defA ht b
  cases h3 ⟨fun _ => True, fun _ => True, fun _ => none⟩
  cases h1
  have ha' : d.at_ X.K = He.ma X.K (He.ga X.K nm) "__eq__" := by rw [hat]
  rw [ha'] at ok
  have cx : ClX C.G.K (C.G.cls cl) := by rw [c.K]; exact e.clsA hcl hic
  exact n_ceq (r := rEqM C.G.K) (fun ta tb h h' => pe_cmpR (OpR.or (by rw [c.K]; exact op_ownEq (e.meth hcl him) ok c.low h2) (by rw [c.K]; exact or_eq c.hu)) h h' hm) cx okEq ha hb
theorem q_ceqT (c : XC C X k) (e : GX tab fx gk cn X k C.G cal) {cl f ic im : Nat} {nm : Str} {d : He5.DefA} {ps : List Str} {o o' : Expr} {a a' : E} (hcl : cn[cl]? = some nm) (hic : fx[ic]? = some (.cls nm)) (him : fx[im]? = some (.meth nm "__eq__")) (ht : tab f = some (d, ps))
    (hat : d.at_ = fun K => He.ma K (He.ga K nm) "__eq__") (b : Bnd d ps fx 2 []) (ha : PE X o (rdE C (evE cal a))) (hb : PE X o' (rdE C (evE cal a'))) (hm : behindInMarks .Eq o' = false := by first | exact nomark _ | rfl) :
    PT X (.Compare o [.Eq] [o'] pos) (rdB C (evE cal (.ceq false cl f a a'))) := by
  obtain ⟨fd, dvs, ds, h1, h2, h3, ok⟩ := e.defA ht b
  cases h3 ⟨fun _ => True, fun _ => True, fun _ => none⟩
  cases h1
  have ha' : d.at_ X.K = He.ma X.K (He.ga X.K nm) "__eq__" := by rw [hat]
  rw [ha'] at ok
  have cx : ClX C.G.K (C.G.cls cl) := by rw [c.K]; exact e.clsA hcl hic
  exact t_ceq (r := rEqM C.G.K) (fun ta tb h h' => pt_cmpR (OpR.or (by rw [c.K]; exact op_ownEq (e.meth hcl him) ok c.low h2) (by rw [c.K]; exact or_eq c.hu)) h h' hm) cx okEq ha hb
theorem q_cne (c : XC C X k) (e : GX tab fx gk cn X k C.G cal) {cl f ic im ine : Nat} {nm : Str} {d : He5.DefA} {ps : List Str} {o o' : Expr} {a a' : E} (hcl : cn[cl]? = some nm) (hic : fx[ic]? = some (.cls nm)) (him : fx[im]? = some (.meth nm "__eq__")) (hin : fx[ine]? = some (.ne nm)) (ht : tab f = some (d, ps))
    (hat : d.at_ = fun K => He.ma K (He.ga K nm) "__eq__") (b : Bnd d ps fx 2 []) (ha : PE X o (rdE C (evE cal a))) (hb : PE X o' (rdE C (evE cal a'))) (hm : behindInMarks .NotEq o' = false := by first | exact nomark _ | rfl) :
    PE X (.Compare o [.NotEq] [o'] pos) (rdE C (evE cal (.ceq true cl f a a'))) := by
  obtain ⟨fd, dvs, ds, h1, h2, h3, ok⟩ := e.defA ht b
  cases h3 ⟨fun _ => True, fun _ => True, fun _ => none⟩
  cases h1
  have ha' : d.at_ X.K = He.ma X.K (He.ga X.K nm) "__eq__" := by rw [hat]
  rw [ha'] at ok
  have cx : ClX C.G.K (C.G.cls cl) := by rw [c.K]; exact e.clsA hcl hic
  have hne : PySem.W.findIn X.K (.ref (C.G.cls cl)) "__ne__" = some (some (.builtin "object.__ne__")) := by rw [e.cn cl nm hcl]; exact eqv_ok (e.fxs ine _ hin)
  exact n_ceq (neg := true) (r := rNeM C.G.K) (fun ta tb h h' => pe_cmpR (OpR.or (by rw [c.K]; exact op_ownNe (e.meth hcl him) hne (e.clsA hcl hic).hm ok c.room h2) (by rw [c.K]; exact or_ne c.hu)) h h' hm) cx okNe ha hb
theorem q_cneT (c : XC C X k) (e : GX tab fx gk cn X k C.G cal) {cl f ic im ine : Nat} {nm : Str} {d : He5.DefA} {ps : List Str} {o o' : Expr} {a a' : E} (hcl : cn[cl]? = some nm) (hic : fx[ic]? = some (.cls nm)) (him : fx[im]? = some (.meth nm "__eq__")) (hin : fx[ine]? = some (.ne nm)) (ht : tab f = some (d, ps))
    (hat : d.at_ = fun K => He.ma K (He.ga K nm) "__eq__") (b : Bnd d ps fx 2 []) (ha : PE X o (rdE C (evE cal a))) (hb : PE X o' (rdE C (evE cal a'))) (hm : behindInMarks .NotEq o' = false := by first | exact nomark _ | rfl) :
    PT X (.Compare o [.NotEq] [o'] pos) (rdB C (evE cal (.ceq true cl f a a'))) := by
  obtain ⟨fd, dvs, ds, h1, h2, h3, ok⟩ := e.defA ht b
  cases h3 ⟨fun _ => True, fun _ => True, fun _ => none⟩
  cases h1
  have ha' : d.at_ X.K = He.ma X.K (He.ga X.K nm) "__eq__" := by rw [hat]
  rw [ha'] at ok
  have cx : ClX C.G.K (C.G.cls cl) := by rw [c.K]; exact e.clsA hcl hic
  have hne : PySem.W.findIn X.K (.ref (C.G.cls cl)) "__ne__" = some (some (.builtin "object.__ne__")) := by rw [e.cn cl nm hcl]; exact eqv_ok (e.fxs ine _ hin)
  exact t_ceq (neg := true) (r := rNeM C.G.K) (fun ta tb h h' => pt_cmpR (OpR.or (by rw [c.K]; exact op_ownNe (e.meth hcl him) hne (e.clsA hcl hic).hm ok c.room h2) (by rw [c.K]; exact or_ne c.hu)) h h' hm) cx okNe ha hb
theorem q_bop (c : XC C X k) (e : GX tab fx gk cn X k C.G cal) {op : Operator} {cl f is im : Nat} {nm m : Str} {d : He5.DefA} {ps : List Str} {o o' : Expr} {a a' : E} (hm : PySem.dunder op.info.2 = m) (hcl : cn[cl]? = some nm) (his : fx[is]? = some (.self1 nm)) (him : fx[im]? = some (.meth nm m)) (ht : tab f = some (d, ps))
    (hat : d.at_ = fun K => He.ma K (He.ga K nm) m) (b : Bnd d ps fx 2 []) (ha : PE X o (rdE C (evE cal a))) (hb : PE X o' (rdE C (evE cal a'))) : PE X (.BinOp o op o' pos) (rdE C (evE cal (.bop cl f a a'))) := by
  subst hm
  obtain ⟨fd, dvs, ds, h1, h2, h3, ok⟩ := e.defA ht b
  cases h3 ⟨fun _ => True, fun _ => True, fun _ => none⟩
  cases h1
  have ha' : d.at_ X.K = He.ma X.K (He.ga X.K nm) (PySem.dunder op.info.2) := by rw [hat]
  rw [ha'] at ok
  have hs : PySem.W.selfFirst X.K (C.G.cls cl) = true := by rw [e.cn cl nm hcl]; exact e.fxs is _ his
  exact n_bop (fun ta tb h h' => pe_op (op_own hs (e.meth hcl him) ok c.low h2) h h') ha hb
theorem q_inv (c : XC C X k) (e : GX tab fx gk cn X k C.G cal) {cl f im : Nat} {nm : Str} {d : He5.DefA} {ps : List Str} {o : Expr} {a : E} (hcl : cn[cl]? = some nm) (him : fx[im]? = some (.meth nm "__invert__")) (ht : tab f = some (d, ps))
    (hat : d.at_ = fun K => He.ma K (He.ga K nm) "__invert__") (b : Bnd d ps fx 1 []) (ha : PE X o (rdE C (evE cal a))) : PE X (.UnaryOp .Invert o pos) (rdE C (evE cal (.uop cl f a))) := by
  obtain ⟨fd, dvs, ds, h1, h2, h3, ok⟩ := e.defA ht b
  cases h3 ⟨fun _ => True, fun _ => True, fun _ => none⟩
  cases h1
  have ha' : d.at_ X.K = He.ma X.K (He.ga X.K nm) "__invert__" := by rw [hat]
  rw [ha'] at ok
  exact n_uop (fun ta h => pe_un (op_inv (e.meth hcl him) ok c.low h2) h) ha
theorem q_neg (c : XC C X k) (e : GX tab fx gk cn X k C.G cal) {cl f im : Nat} {nm : Str} {d : He5.DefA} {ps : List Str} {o : Expr} {a : E} (hcl : cn[cl]? = some nm) (him : fx[im]? = some (.meth nm "__neg__")) (ht : tab f = some (d, ps))
    (hat : d.at_ = fun K => He.ma K (He.ga K nm) "__neg__") (b : Bnd d ps fx 1 []) (ha : PE X o (rdE C (evE cal a))) : PE X (.UnaryOp .USub o pos) (rdE C (evE cal (.uop cl f a))) := by
  obtain ⟨fd, dvs, ds, h1, h2, h3, ok⟩ := e.defA ht b
  cases h3 ⟨fun _ => True, fun _ => True, fun _ => none⟩
  cases h1
  have ha' : d.at_ X.K = He.ma X.K (He.ga X.K nm) "__neg__" := by rw [hat]
  rw [ha'] at ok
  exact n_uop (fun ta h => pe_un (op_negO (e.meth hcl him) ok c.low h2) h) ha
theorem q_inn (c : XC C X k) (e : GX tab fx gk cn X k C.G cal) {cl f im : Nat} {nm : Str} {d : He5.DefA} {ps : List Str} {o o' : Expr} {a a' : E} (hcl : cn[cl]? = some nm) (him : fx[im]? = some (.meth nm "__contains__")) (ht : tab f = some (d, ps))
    (hat : d.at_ = fun K => He.ma K (He.ga K nm) "__contains__") (b : Bnd d ps fx 2 []) (ha : PE X o (rdE C (evE cal a))) (hb : PE X o' (rdE C (evE cal a'))) (hm : behindInMarks .In o' = false := by first | exact nomark _ | rfl) : PE X (.Compare o [.In] [o'] pos) (rdE C (evE cal (.inn false cl f a a'))) := by
  obtain ⟨fd, dvs, ds, h1, h2, h3, ok⟩ := e.defA ht b
  cases h3 ⟨fun _ => True, fun _ => True, fun _ => none⟩
  cases h1
  have ha' : d.at_ X.K = He.ma X.K (He.ga X.K nm) "__contains__" := by rw [hat]
  rw [ha'] at ok
  exact n_inn (fun ta tb h h' => pe_cmpR (op_inn (e.meth hcl him) ok c.low h2) h h' hm) ha hb
theorem q_innT (c : XC C X k) (e : GX tab fx gk cn X k C.G cal) {cl f im : Nat} {nm : Str} {d : He5.DefA} {ps : List Str} {o o' : Expr} {a a' : E} (hcl : cn[cl]? = some nm) (him : fx[im]? = some (.meth nm "__contains__")) (ht : tab f = some (d, ps))
    (hat : d.at_ = fun K => He.ma K (He.ga K nm) "__contains__") (b : Bnd d ps fx 2 []) (ha : PE X o (rdE C (evE cal a))) (hb : PE X o' (rdE C (evE cal a'))) (hm : behindInMarks .In o' = false := by first | exact nomark _ | rfl) : PT X (.Compare o [.In] [o'] pos) (rdB C (evE cal (.inn false cl f a a'))) := by
  obtain ⟨fd, dvs, ds, h1, h2, h3, ok⟩ := e.defA ht b
  cases h3 ⟨fun _ => True, fun _ => True, fun _ => none⟩
  cases h1
  have ha' : d.at_ X.K = He.ma X.K (He.ga X.K nm) "__contains__" := by rw [hat]
  rw [ha'] at ok
  exact t_inn (fun ta tb h h' => pt_cmpR (op_inn (e.meth hcl him) ok c.low h2) h h' hm) ha hb
theorem q_rep (c : XC C X k) (e : GX tab fx gk cn X k C.G cal) {cl f im ib : Nat} {nm : Str} {d : He5.DefA} {ps : List Str} {o : Expr} {a : E} (hcl : cn[cl]? = some nm) (him : fx[im]? = some (.meth nm "__repr__")) (hib : fx[ib]? = some (.free "repr")) (ht : tab f = some (d, ps))
    (hat : d.at_ = fun K => He.ma K (He.ga K nm) "__repr__") (b : Bnd d ps fx 1 []) (ha : PE X o (rdE C (evE cal a))) (hg : Gl X "repr" := by rfl) (hs : starEach [o] X.env = (false, eval o X.env) :: starEach [] X.env := by rfl) :
    PE X (.Call (.Name "repr" p1) [o] [] pos) (rdE C (evE cal (.spc true cl f a))) := by
  obtain ⟨fd, dvs, ds, h1, h2, h3, ok⟩ := e.defA ht b
  cases h3 ⟨fun _ => True, fun _ => True, fun _ => none⟩
  cases h1
  have ha' : d.at_ X.K = He.ma X.K (He.ga X.K nm) "__repr__" := by rw [hat]
  rw [ha'] at ok
  exact n_rep (fun ta h => PE.imp (pe_callB (cr_rep (e.meth hcl him) ok c.room h2) hg (e.fre ib _ hib) (by rfl) (pa_cons h pa_nil hs) (by decide) (by decide) hs (by rfl)) fun _ _ _ q => q) ha
theorem q_boo (c : XC C X k) (e : GX tab fx gk cn X k C.G cal) {cl f im ib : Nat} {nm : Str} {d : He5.DefA} {ps : List Str} {o : Expr} {a : E} (hcl : cn[cl]? = some nm) (him : fx[im]? = some (.meth nm "__bool__")) (hib : fx[ib]? = some (.free "bool")) (ht : tab f = some (d, ps))
    (hat : d.at_ = fun K => He.ma K (He.ga K nm) "__bool__") (b : Bnd d ps fx 1 []) (ha : PE X o (rdE C (evE cal a))) (hg : Gl X "bool" := by rfl) (hs : starEach [o] X.env = (false, eval o X.env) :: starEach [] X.env := by rfl) :
    PE X (.Call (.Name "bool" p1) [o] [] pos) (rdE C (evE cal (.spc false cl f a))) := by
  obtain ⟨fd, dvs, ds, h1, h2, h3, ok⟩ := e.defA ht b
  cases h3 ⟨fun _ => True, fun _ => True, fun _ => none⟩
  cases h1
  have ha' : d.at_ X.K = He.ma X.K (He.ga X.K nm) "__bool__" := by rw [hat]
  rw [ha'] at ok
  exact n_boo (fun ta h => PE.imp (pe_callTy (cr_boo (e.meth hcl him) ok c.room h2) hg (e.fre ib _ hib) (by rfl) (pa_cons h pa_nil hs) (by decide) (by decide) hs (by rfl)) fun _ _ _ q => q) ha
/-! ### isinstance -/
theorem q_isc (c : XC C X k) (e : GX tab fx gk cn X k C.G cal) {cl ig ib : Nat} {nm : Str} {cs ns : List Nat} {o : Expr} {a : E} (hcl : cn[cl]? = some nm) (hig : fx[ig]? = some (.glo nm)) (hib : fx[ib]? = some (.free "isinstance")) (ki : KitI fx cn cl nm cs ns) (ha : PE X o (rdE C (evE cal a))) (hg : Gl X "isinstance" := by rfl)
    (hgn : Gl X nm := by rfl) (hdb : (nm == ("__debug__" : Str)) = false := by decide) (hs : starEach [o, .Name nm p2] X.env = (false, eval o X.env) :: starEach [.Name nm p2] X.env := by rfl) : PE X (.Call (.Name "isinstance" p1) [o, .Name nm p2] [] pos) (rdE C (evE cal (.isc cs ns a))) := by
  have kc : KitC C.G cl cs ns := by
    refine ⟨fun x hx => ?_, fun c' h => ?_, fun c' h => ?_⟩
    · obtain ⟨i, hi⟩ := ki.ty
      have := List.all_eq_true.mp (show (tyNames.all fun x => decide (PySem.W.kitOne X.K (.type x) (.ref (He.ga X.K nm)) = some false)) = true from e.fxs i _ hi) x hx
      rw [c.K, e.cn cl nm hcl]
      exact of_decide_eq_true this
    · obtain ⟨n', i, j, h1, h2, h3⟩ := ki.yes c' h
      refine ⟨?_, by rw [c.K]; exact e.clsA h1 h3⟩
      rw [c.K, e.cn cl nm hcl, e.cn c' n' h1]
      exact of_decide_eq_true (e.fxs i _ h2)
    · obtain ⟨n', i, j, h1, h2, h3⟩ := ki.no c' h
      refine ⟨?_, by rw [c.K]; exact e.clsA h1 h3⟩
      rw [c.K, e.cn cl nm hcl, e.cn c' n' h1]
      exact of_decide_eq_true (e.fxs i _ h2)
  exact n_isc kc (fun ta h => PE.imp (pe_callB (r := rIsi C.G.K) (by rw [c.K]; exact call_isi) hg (e.fre ib _ hib) PyProof.Rows.boot_isinstance (pa_cons h (pa_cons (pe_glob (v := .ref (C.G.cls cl)) hgn (e.gloC hcl hig) rfl hdb) pa_nil) hs) (by decide) (by decide) hs (by rfl)) fun _ _ _ q => q) ha
theorem x_dic0 : PE X (.Dict [] [] pos) (rdE C (evE cal .dic0)) := n_dic0 pe_dnewK
end
end Mi
set_option maxHeartbeats 1000000
namespace Mi
open PySem PySem.Spec PyProof.Rows L2

/-! ### lent objects: frozen for the while of one expression, of some statements -/
def lendS (is : List Nat) (j : Nat) (s : Slot) : Slot := match s with
  | .ow o => if j ∈ is ∧ o.lendable = true then .fz o.frz else .no
  | s => s
theorem lendM_get (is : List Nat) : ∀ (k : Nat) (m : List Slot) (j : Nat), (lendM is k m)[j]? = (m[j]?).map (lendS is (k + j))
  | k, [], j => by rw [lendM]; rfl
  | k, s :: r, j => by
    have ih := fun j => lendM_get is (k + 1) r j
    cases j with
    | zero => cases s <;> (rw [lendM]; rfl)
    | succ j =>
      have := ih j
      rw [show k + 1 + j = k + (j + 1) by omega] at this
      cases s <;> (rw [lendM]; rw [List.getElem?_cons_succ, List.getElem?_cons_succ]; exact this)
theorem lendM_len (is : List Nat) : ∀ (k : Nat) (m : List Slot), (lendM is k m).length = m.length
  | k, [] => by rw [lendM]
  | k, s :: r => by cases s <;> (rw [lendM, List.length_cons, List.length_cons, lendM_len is (k + 1) r])
theorem lendM_ow {is : List Nat} {k j : Nat} {m : List Slot} {o : O} (h : (lendM is k m)[j]? = some (.ow o)) : False := by
  rw [lendM_get] at h
  cases e : m[j]? with
  | none => rw [e] at h; cases h
  | some s =>
    rw [e] at h
    cases s with
    | no => cases h
    | fz t => cases h
    | ow o' =>
      have h : (if k + j ∈ is ∧ o'.lendable = true then Slot.fz o'.frz else .no) = .ow o := Option.some.inj h
      split at h <;> cases h
def Lent (is : List Nat) (m : List Slot) (σ : St) (a : Addr) : Prop := ∃ (j : Nat) (o : O), j ∈ is ∧ o.lendable = true ∧ m[j]? = some (.ow o) ∧ σ[j]? = some (some (.ref a))
def Wd.lend (w : Wd) (is : List Nat) (m : List Slot) (σ : St) : Wd := ⟨fun a => w.F a ∨ Lent is m σ a, fun _ => False, w.H⟩
/-- back behind it -/
def Wd.thaw (w w1 : Wd) : Wd := ⟨w.F, fun a => w.L a ∨ w1.L a, w1.H⟩
section
variable {G : Gm} {w w1 : Wd} {m m1 : List Slot} {σ σ1 : St} {is : List Nat}
theorem Mo.lend : Mo w (w.lend is m σ) := ⟨fun _ h => .inl h, fun _ _ => .refl _⟩
theorem SR.lent (S : SR G w m σ) {a : Addr} {j : Nat} {o : O} (h : m[j]? = some (.ow o)) (e : σ[j]? = some (some (.ref a))) : w.L a ∧ RO G w a o := by
  obtain ⟨b, e1, r, l⟩ := S.sl j _ h
  rw [e] at e1
  cases e1
  exact ⟨l, r⟩
theorem Ex.lend (S : SR G w m σ) : Ex w (w.lend is m σ) := ⟨fun _ h => .inl h, fun _ _ => .refl _, fun a u h1 h2 h3 => ⟨h1, fun q => q.elim h2 fun ⟨j, o, _, _, e1, e2⟩ => h3 (S.lent e1 e2).1, fun q => q⟩⟩
theorem SR.lend (S : SR G w m σ) (is : List Nat) : SR G (w.lend is m σ) (lendM is 0 m) σ := by
  refine ⟨by rw [lendM_len]; exact S.len, fun j s h => ?_, fun i j o o' a h => (lendM_ow h).elim, fun a l => l.elim, fun a f => ?_⟩
  · rw [lendM_get, Nat.zero_add] at h
    cases e : m[j]? with
    | none => rw [e] at h; cases h
    | some s0 =>
      rw [e] at h
      have q := S.sl j s0 e
      cases s0 with
      | no => cases h; trivial
      | fz t => cases h; obtain ⟨x, e, r⟩ := q; exact ⟨x, e, r.mono .lend⟩
      | ow o =>
        have h : (if j ∈ is ∧ o.lendable = true then Slot.fz o.frz else .no) = s := Option.some.inj h
        obtain ⟨a, ea, r, l⟩ := q
        split at h
        · rename_i hc
          subst h
          exact ⟨_, ea, r.rf (.inr ⟨j, o, hc.1, hc.2, e, ea⟩) .lend rfl⟩
        · subst h; trivial
  · rcases f with f | ⟨j, o, _, _, e1, e2⟩
    · exact S.trk a f
    · exact (S.lent e1 e2).2.trk
theorem Mo.thaw (x : Ex (w.lend is m σ) w1) : Mo w (w.thaw w1) := ⟨fun _ h => h, fun b hb => x.kp b (.inl hb)⟩
theorem Ex.thaw (S : SR G w m σ) (x : Ex (w.lend is m σ) w1) : Ex w (w.thaw w1) := ⟨(Mo.thaw x).fz, (Mo.thaw x).kp, fun a u h1 h2 h3 => by
  obtain ⟨q1, q2, q3⟩ := x.ot a u h1 (fun q => q.elim h2 fun ⟨j, o, _, _, e1, e2⟩ => h3 (S.lent e1 e2).1) (fun q => q)
  exact ⟨q1, h2, fun q => q.elim h3 q3⟩⟩
/-- an owned object stands as it stood, and is not the other's -/
theorem lent_same (S : SR G w m σ) (x : Ex (w.lend is m σ) w1) (S1 : SR G w1 m1 σ1) {a : Addr} {j : Nat} {o : O} (h : m[j]? = some (.ow o)) (e : σ[j]? = some (some (.ref a))) : RO G (w.thaw w1) a o ∧ ¬ w1.L a := by
  obtain ⟨l, r⟩ := S.lent h e
  by_cases f : Lent is m σ a
  · have f' : (w.lend is m σ).F a := .inr f
    refine ⟨?_, fun l1 => S1.sep a l1 (x.fz a f')⟩
    obtain ⟨j', o', _, hl, h', e'⟩ := f
    have := S.inj j j' o o' a h h' e e'
    subst this
    rw [h] at h'
    cases h'
    cases r with
    | lst h1 r => exact .lst ((x.kp a f').eq h1 (fun k q => by rcases q with q | ⟨o, q⟩ <;> cases q)) (r.mono (Mo.thaw x))
    | ins h1 r => exact .ins ((x.kp a f').eq h1 (fun k q => by rcases q with q | ⟨o, q⟩ <;> cases q)) (r.mono (Mo.thaw x))
    | dic h1 r => cases hl
  · obtain ⟨u, hu⟩ := r.trk
    obtain ⟨q1, q2, q3⟩ := x.ot a u hu (fun q => q.elim (S.sep a l) f) (fun q => q)
    exact ⟨r.mono (Mo.thaw x) (q1.trans hu.symm), q3⟩
theorem SR.thaw (S : SR G w m σ) (x : Ex (w.lend is m σ) w1) (S1 : SR G w1 m1 σ1) : SR G (w.thaw w1) m σ := by
  refine ⟨S.len, fun j s h => ?_, S.inj, fun a l f => ?_, fun a f => ?_⟩
  · have q := S.sl j s h
    cases s with
    | no => trivial
    | fz t => obtain ⟨v, e, r⟩ := q; exact ⟨v, e, r.mono (Mo.thaw x)⟩
    | ow o =>
      obtain ⟨a, e, r, l⟩ := q
      exact ⟨a, e, (lent_same S x S1 h e).1, .inl l⟩
  · rcases l with l | l
    · exact S.sep a l f
    · exact S1.sep a l (x.fz a (.inl f))
  · obtain ⟨u, hu⟩ := S.trk a f
    exact (x.kp a (.inl f)).some ⟨u, hu⟩
theorem flat_rf {w w' : Wd} {t : T} {v : V} (h : flatT t = true) (r : RF G w t v) : RF G w' t v := by
  cases t <;> first | (cases h; done) | skip
  all_goals (cases r; constructor)
theorem flat_rfs {w w' : Wd} : ∀ {ts : List T} {vs : List V}, ts.all flatT = true → RFs G w ts vs → RFs G w' ts vs
  | _, _, _, .nil => .nil
  | _, _, h, .cons a b => by
    rw [List.all_cons, Bool.and_eq_true] at h
    exact .cons (flat_rf h.1 a) (flat_rfs h.2 b)
theorem flat_rfk {w w' : Wd} : ∀ {ts : List (Key × T)} {vs : List (Key × V)}, (ts.all fun kv => flatT kv.2) = true → RFk G w ts vs → RFk G w' ts vs
  | _, _, _, .nil => .nil
  | _, _, h, .cons a b => by
    rw [List.all_cons, Bool.and_eq_true] at h
    exact .cons (flat_rf h.1 a) (flat_rfk h.2 b)
theorem thin_ro {w w' : Wd} {o : O} {p : Addr} (h : thinO o = true) (e : w'.H = w.H) (r : RO G w p o) : RO G w' p o := by
  cases r with
  | lst h1 r => exact .lst (by rw [e]; exact h1) (flat_rfs h r)
  | dic h1 r => exact .dic (by rw [e]; exact h1) (flat_rfk h r)
  | ins h1 r => cases h
end
section
variable {C : Ct} {X : Cx} {k : Nat} {cal : Nat → List Slot → CRes} {L : Nat} {pos p1 p2 p3 p4 : Pos}
theorem n_lend {ex : Expr} {is : List Nat} {e : E} (h : PE X ex (rdE C (evE cal e))) : PE X ex (rdE C (evE cal (.lend is e))) := PE.imp h fun σ H Q ⟨w, m, eH, P, q⟩ => by
  rw [evE] at q
  refine ⟨w.lend is m σ, lendM is 0 m, eH, P.step (P.sr.lend is) (Ex.lend P.sr), ?_⟩
  cases hc : evE cal e (lendM is 0 m) with
  | no => rw [hc] at q; exact q.elim
  | ex x m1 => rw [hc] at q; exact q.elim
  | ok r m1 =>
    rw [hc] at q
    intro w1 v S1 x1 r1
    cases r with
    | bo i => exact q.elim
    | fz t =>
      simp only at q
      split at q
      · rename_i hf
        exact q (w.thaw w1) v (P.sr.thaw x1 S1) (Ex.thaw P.sr x1) (flat_rf hf r1)
      · exact q.elim
    | ow o =>
      simp only at q
      split at q
      · rename_i hf
        obtain ⟨p, rfl, ro, l, n⟩ := r1
        exact q (w.thaw w1) (.ref p) (P.sr.thaw x1 S1) (Ex.thaw P.sr x1) ⟨p, rfl, thin_ro (w := w1) (w' := w.thaw w1) hf rfl ro, .inr l, fun i o' h z => (lent_same P.sr x1 S1 h z).2 l⟩
      · exact q.elim
theorem t_lend {ex : Expr} {is : List Nat} {e : E} (h : PT X ex (rdB C (evE cal e))) : PT X ex (rdB C (evE cal (.lend is e))) := PT.imp h fun σ H Q ⟨w, m, eH, P, q⟩ => by
  rw [evE] at q
  refine ⟨w.lend is m σ, lendM is 0 m, eH, P.step (P.sr.lend is) (Ex.lend P.sr), ?_⟩
  cases hc : evE cal e (lendM is 0 m) with
  | no => rw [hc] at q; exact q.elim
  | ex x m1 => rw [hc] at q; exact q.elim
  | ok r m1 =>
    rw [hc] at q
    cases r with
    | bo i => exact q.elim
    | fz t =>
      simp only at q
      split at q
      · obtain ⟨b, hb, q⟩ := q
        exact ⟨b, hb, fun w1 S1 x1 => q (w.thaw w1) (P.sr.thaw x1 S1) (Ex.thaw P.sr x1)⟩
      · exact q.elim
    | ow o =>
      simp only at q
      split at q
      · obtain ⟨b, hb, q⟩ := q
        cases hb
      · exact q.elim
/-! ### two new lists, kept -/
def Wd.hide (w : Wd) (p : Addr) : Wd := ⟨w.F, fun a => w.L a ∧ a ≠ p, w.H⟩
def Wd.show_ (w : Wd) (p : Addr) : Wd := ⟨w.F, fun a => w.L a ∨ a = p, w.H⟩
theorem SR.hide {G : Gm} {w : Wd} {m : List Slot} {σ : St} {p : Addr} (S : SR G w m σ) (n : Off m σ p) : SR G (w.hide p) m σ := by
  refine ⟨S.len, fun j s h => ?_, S.inj, fun a l => S.sep a l.1, S.trk⟩
  have q := S.sl j s h
  cases s with
  | no => trivial
  | fz t => obtain ⟨v, e, r⟩ := q; exact ⟨v, e, r.mono (mo_same (w := w) (w' := w.hide p) rfl rfl)⟩
  | ow o =>
    obtain ⟨a, e, r, l⟩ := q
    exact ⟨a, e, r.mono (mo_same (w := w) (w' := w.hide p) rfl rfl) rfl, l, fun z => n j o h (z ▸ e)⟩
theorem Ex.hide {w : Wd} {p : Addr} (l : w.L p) : Ex w (w.hide p) := ⟨fun _ h => h, fun _ _ => .refl _, fun a u h1 h2 h3 => ⟨h1, h2, fun q => h3 q.1⟩⟩
theorem SR.show_ {G : Gm} {w : Wd} {m : List Slot} {σ : St} {p : Addr} (S : SR G w m σ) (nf : ¬ w.F p) : SR G (w.show_ p) m σ := by
  refine ⟨S.len, fun j s h => ?_, S.inj, fun a l f => ?_, S.trk⟩
  · have q := S.sl j s h
    cases s with
    | no => trivial
    | fz t => obtain ⟨v, e, r⟩ := q; exact ⟨v, e, r.mono (mo_same (w := w) (w' := w.show_ p) rfl rfl)⟩
    | ow o =>
      obtain ⟨a, e, r, l⟩ := q
      exact ⟨a, e, r.mono (mo_same (w := w) (w' := w.show_ p) rfl rfl) rfl, .inl l⟩
  · rcases l with l | rfl
    · exact S.sep a l f
    · exact nf f
theorem w_paro (c : XC C X k) {i j : Nat} {x y : Str} {a b : Expr} {ea eb : E} {kt k2} (nfx : C.fx i = false ∧ C.fx j = false) (ha : PE X a (rdE C (evE cal ea))) (hb : PE X b (rdE C (evE cal eb))) (hw : swappedStores [.Tuple [.Name x p1, .Name y p2] kt p3] (.Tuple [a, b] k2 p4) X.env = pure (some [x, y]) := by rfl)
    (hi : X.N[i]? = some x := by rfl) (hj : X.N[j]? = some y := by rfl) (hij : i ≠ j := by decide) (hx : X.env.scope.names.lookup x = some .local := by rfl) (hy : X.env.scope.names.lookup y = some .local := by rfl)
    (h1 : starEach [a, b] X.env = (false, eval a X.env) :: starEach [b] X.env := by rfl) (h2 : starEach [b] X.env = (false, eval b X.env) :: starEach [] X.env := by rfl)
    (hs : swapsWithSole [.Tuple [.Name x p1, .Name y p2] kt p3] (.Tuple [a, b] k2 p4) pos.line X.env = pure false := by rfl) : PS X (.Assign [.Tuple [.Name x p1, .Name y p2] kt p3] (.Tuple [a, b] k2 p4) pos) (rdSt C (evS cal L (.paro i j ea eb))) :=
  PS.imp (ps_par c.calm c.nd hi hj hij hx hy (pa_cons ha (pa_cons hb pa_nil h2) h1) hw hs) fun D σ H ⟨w, m, eH, P, q⟩ => by
  rw [evS, FSat_ofR] at q
  refine ⟨w, m, eH, P, Res.sat_mono q fun ra m1 q1 w1 v1 S1 x1 r1 => ?_⟩
  cases ra with
  | fz t => exact q1.elim
  | bo i => exact q1.elim
  | ow o1 =>
    obtain ⟨p1, rfl, ro1, l1, n1⟩ := r1
    rw [FSat_ofR] at q1
    refine ⟨w1.hide p1, m1, rfl, P.step (S1.hide n1) (x1.trans (Ex.hide l1)), Res.sat_mono q1 fun rb m2 q2 w2 v2 S2 x2 r2 => ?_⟩
    cases rb with
    | fz t => exact q2.elim
    | bo i => exact q2.elim
    | ow o2 =>
      obtain ⟨p2, rfl, ro2, l2, n2⟩ := r2
      simp only at q2
      split at q2
      · rename_i hlt
        refine ⟨_, _, rfl, ?_⟩
        obtain ⟨u, hu⟩ := ro1.trk
        obtain ⟨e1, nf, nl⟩ := x2.ot p1 u hu (S1.sep p1 l1) (fun z => z.2 rfl)
        have S3 : SR C.G (w2.show_ p1) m2 σ := S2.show_ nf
        have mo1 : Mo w1 (w2.show_ p1) := ⟨x2.fz, x2.kp⟩
        have ro1' : RO C.G (w2.show_ p1) p1 o1 := ro1.mono mo1 (e1.trans hu.symm)
        have n1' : ∀ (i' : Nat) (o : O), m2[i']? = some (.ow o) → σ[i']? ≠ some (some (.ref p1)) := fun i' o h z => by
          obtain ⟨a, ea, _, la⟩ := S2.sl i' _ h
          rw [z] at ea
          cases ea
          exact nl la
        have S4 := S3.setOw (i := i) ro1' (.inr rfl) n1'
        have hne : p1 ≠ p2 := fun z => nl (z ▸ l2)
        have S5 := S4.setOw (i := j) (o := o2) (p := p2) (ro2.mono (mo_same (w := w2) (w' := w2.show_ p1) rfl rfl) rfl) (.inl l2) (fun i' o h z => by
          by_cases hi' : i' = i
          · subst hi'
            have lt : i' < σ.length := by rw [← S2.len]; exact hlt.1
            rw [List.getElem?_set_self lt] at z
            cases z
            exact hne rfl
          · rw [List.getElem?_set_ne (Ne.symm hi')] at h z
            exact n2 i' o h z)
        have x3 : Ex w1 (w2.show_ p1) := ⟨x2.fz, x2.kp, fun a u h1 h2 h3 => by
          obtain ⟨q1, q2, q3⟩ := x2.ot a u h1 h2 (fun z => h3 z.1)
          exact ⟨q1, q2, fun z => z.elim q3 fun z => h3 (z ▸ l1)⟩⟩
        refine q2 (w2.show_ p1) _ ⟨S5, P.ex.trans (x1.trans x3), fun k hk => ?_⟩ (x1.trans x3)
        rw [List.getElem?_set_ne, List.getElem?_set_ne, P.fix k hk]
        · intro e; rw [e, hk] at nfx; exact nomatch nfx.1
        · intro e; rw [e, hk] at nfx; exact nomatch nfx.2
      · exact q2.elim
theorem flat_vT' {G : Gm} {w : Wd} {t : T} (h : flatT t = true) : RF G w t (vT t) := by
  cases t <;> first | (cases h; done) | exact .non | exact .bl _ | exact .int _ | exact .str _
theorem setOw_fz {m : List Slot} {σ : St} {p : Addr} {i : Nat} {t : T} {v : V} (n : ∀ (i' : Nat) (o : O), m[i']? = some (.ow o) → σ[i']? ≠ some (some (.ref p))) : ∀ (i' : Nat) (o : O), (m.set i (.fz t))[i']? = some (.ow o) → (σ.set i (some v))[i']? ≠ some (some (.ref p)) := fun i' o h z => by
  by_cases e : i' = i
  · subst e
    rw [List.getElem?_set] at h
    rw [if_pos rfl] at h
    split at h <;> cases h
  · rw [List.getElem?_set_ne (Ne.symm e)] at h z
    exact n i' o h z
theorem w_parf (c : XC C X k) {i j : Nat} {x y : Str} {a b : Expr} {ea eb : E} {kt k2} (nfx : C.fx i = false ∧ C.fx j = false) (ha : PE X a (rdE C (evE cal ea))) (hb : PE X b (rdE C (evE cal eb))) (hw : swappedStores [.Tuple [.Name x p1, .Name y p2] kt p3] (.Tuple [a, b] k2 p4) X.env = pure (some [x, y]) := by rfl)
    (hi : X.N[i]? = some x := by rfl) (hj : X.N[j]? = some y := by rfl) (hij : i ≠ j := by decide) (hx : X.env.scope.names.lookup x = some .local := by rfl) (hy : X.env.scope.names.lookup y = some .local := by rfl)
    (h1 : starEach [a, b] X.env = (false, eval a X.env) :: starEach [b] X.env := by rfl) (h2 : starEach [b] X.env = (false, eval b X.env) :: starEach [] X.env := by rfl)
    (hs : swapsWithSole [.Tuple [.Name x p1, .Name y p2] kt p3] (.Tuple [a, b] k2 p4) pos.line X.env = pure false := by rfl) : PS X (.Assign [.Tuple [.Name x p1, .Name y p2] kt p3] (.Tuple [a, b] k2 p4) pos) (rdSt C (evS cal L (.parf i j ea eb))) :=
  PS.imp (ps_par c.calm c.nd hi hj hij hx hy (pa_cons ha (pa_cons hb pa_nil h2) h1) hw hs) fun D σ H ⟨w, m, eH, P, q⟩ => by
  rw [evS, FSat_ofR] at q
  refine ⟨w, m, eH, P, Res.sat_mono q fun ra m1 q1 w1 v1 S1 x1 r1 => ?_⟩
  cases ra with
  | ow o => exact q1.elim
  | bo i => exact q1.elim
  | fz t =>
    rw [FSat_ofR] at q1
    refine ⟨w1, m1, rfl, P.step S1 x1, Res.sat_mono q1 fun rb m2 q2 w2 v2 S2 x2 r2 => ?_⟩
    cases rb with
    | fz t => exact q2.elim
    | bo i => exact q2.elim
    | ow o =>
      obtain ⟨p, rfl, ro, l, n⟩ := r2
      simp only at q2
      split at q2
      · refine ⟨_, _, rfl, ?_⟩
        have rf : RF C.G w2 t v1 := RF.mono x2.mo r1
        have S4 := (S2.setFz (i := i) rf).setOw (i := j) ro l (setOw_fz n)
        refine q2 w2 _ ⟨S4, P.ex.trans (x1.trans x2), fun k hk => ?_⟩ (x1.trans x2)
        rw [List.getElem?_set_ne, List.getElem?_set_ne, P.fix k hk]
        · intro e; rw [e, hk] at nfx; exact nomatch nfx.1
        · intro e; rw [e, hk] at nfx; exact nomatch nfx.2
      · exact q2.elim
theorem w_par3 (c : XC C X k) {i j l : Nat} {x y z : Str} {a b d : Expr} {ea eb : E} {t : T} {kt k2} {p5 : Pos} (nfx : C.fx i = false ∧ C.fx j = false ∧ C.fx l = false) (ha : PE X a (rdE C (evE cal ea))) (hb : PE X b (rdE C (evE cal eb))) (hd : PE X d (tC (vT t)))
    (hw : swappedStores [.Tuple [.Name x p1, .Name y p2, .Name z p5] kt p3] (.Tuple [a, b, d] k2 p4) X.env = pure (some [x, y, z]) := by rfl)
    (hi : X.N[i]? = some x := by rfl) (hj : X.N[j]? = some y := by rfl) (hl : X.N[l]? = some z := by rfl) (hij : i ≠ j := by decide) (hil : i ≠ l := by decide) (hjl : j ≠ l := by decide) (hx : X.env.scope.names.lookup x = some .local := by rfl) (hy : X.env.scope.names.lookup y = some .local := by rfl) (hz : X.env.scope.names.lookup z = some .local := by rfl)
    (h1 : starEach [a, b, d] X.env = (false, eval a X.env) :: starEach [b, d] X.env := by rfl) (h2 : starEach [b, d] X.env = (false, eval b X.env) :: starEach [d] X.env := by rfl) (h3 : starEach [d] X.env = (false, eval d X.env) :: starEach [] X.env := by rfl)
    (hs : swapsWithSole [.Tuple [.Name x p1, .Name y p2, .Name z p5] kt p3] (.Tuple [a, b, d] k2 p4) pos.line X.env = pure false := by rfl) : PS X (.Assign [.Tuple [.Name x p1, .Name y p2, .Name z p5] kt p3] (.Tuple [a, b, d] k2 p4) pos) (rdSt C (evS cal L (.par3 i j l ea eb t))) :=
  PS.imp (ps_par3 c.calm c.nd hi hj hl hij hil hjl hx hy hz (pa_cons ha (pa_cons hb (pa_cons hd pa_nil h3) h2) h1) hw hs) fun D σ H ⟨w, m, eH, P, q⟩ => by
  rw [evS, FSat_ofR] at q
  refine ⟨w, m, eH, P, Res.sat_mono q fun ra m1 q1 w1 v1 S1 x1 r1 => ?_⟩
  cases ra with
  | ow o => exact q1.elim
  | bo i => exact q1.elim
  | fz u =>
    rw [FSat_ofR] at q1
    refine ⟨w1, m1, rfl, P.step S1 x1, Res.sat_mono q1 fun rb m2 q2 w2 v2 S2 x2 r2 => ?_⟩
    cases rb with
    | fz t => exact q2.elim
    | bo i => exact q2.elim
    | ow o =>
      obtain ⟨p, rfl, ro, lp, n⟩ := r2
      simp only at q2
      split at q2
      · rename_i hlt
        refine ⟨_, _, _, rfl, ?_⟩
        have rf : RF C.G w2 u v1 := RF.mono x2.mo r1
        have rt : RF C.G w2 t (vT t) := flat_vT' hlt.2.2
        have S4 := ((S2.setFz (i := i) rf).setOw (i := j) ro lp (setOw_fz n)).setFz (i := l) rt
        refine q2 w2 _ ⟨S4, P.ex.trans (x1.trans x2), fun k hk => ?_⟩ (x1.trans x2)
        rw [List.getElem?_set_ne, List.getElem?_set_ne, List.getElem?_set_ne, P.fix k hk]
        · intro e; rw [e, hk] at nfx; exact nomatch nfx.1
        · intro e; rw [e, hk] at nfx; exact nomatch nfx.2.1
        · intro e; rw [e, hk] at nfx; exact nomatch nfx.2.2
      · exact q2.elim
/-! ### statements that look, and change nothing -/
def Ct.scp (C : Ct) (A : List Nat) (w0 : Wd) (s0 : St) : Ct := ⟨C.G, w0, s0, fun j => !A.contains j, fun _ _ => False⟩
theorem XC.scp (c : XC C X k) {A : List Nat} {w0 : Wd} {s0 : St} : XC (C.scp A w0 s0) X k := ⟨c.K, c.nd, c.calm, c.room, fun u s' ⟨a, B, sI, pins, σ, H, cls, d, e, I, nb, up, sky, na, os, ag, w⟩ => by
  obtain ⟨_, _, _, _, _, _, z⟩ := w
  exact z.elim⟩
inductive Blk (C : Ct) (X : Cx) (cal : Nat → List Slot → CRes) (L : Nat) : List Stmt → Ss → Prop
  | nil : Blk C X cal L [] .nil
  | cons {st : Stmt} {s : S} {b : List Stmt} {r : Ss} : PS X st (rdSt C (evS cal L s)) → Blk C X cal L b r → Blk C X cal L (st :: b) (.cons s r)
theorem Blk.app {C : Ct} {rest : List Stmt} {t : TS} (hr : PSs X rest t) : ∀ {b : List Stmt} {ss : Ss}, Blk C X cal L b ss → PSs X (b ++ rest) (fun D σ H => rdSt C (evSs cal L ss) { D with nx := t D } σ H)
  | _, _, .nil => PSs.imp hr fun D σ H ⟨w, m, e, P, q⟩ => by
    rw [evSs] at q
    have := q w σ P (.refl w)
    rwa [e] at this
  | _, _, .cons (s := s) h hb => PSs.imp (pss_cons h (Blk.app hr hb)) fun D σ H ⟨w, m, e, P, q⟩ => by
    rw [evSs] at q
    refine ⟨w, m, e, P, ?_⟩
    cases h1 : evS cal L s m with
    | nx m1 => rw [h1] at q; exact fun w1 σ1 P1 x1 => ⟨w1, m1, rfl, P1, FSat.weak q x1⟩
    | rt r m1 => rw [h1] at q; exact q
    | bk m1 => rw [h1] at q; exact q
    | ct m1 => rw [h1] at q; exact q
    | ex x m1 => rw [h1] at q; exact q
    | no => rw [h1] at q; exact q
theorem wipe_get : ∀ (A : List Nat) (m : List Slot) (j : Nat) (s : Slot), (wipeM m A)[j]? = some s → s = .no ∨ (j ∉ A ∧ m[j]? = some s)
  | [], m, j, s, h => .inr ⟨by simp, h⟩
  | v :: vs, m, j, s, h => by
    rw [wipeM] at h
    by_cases e : j = v
    · subst e
      have lt := (List.getElem?_eq_some_iff.mp h).1
      rw [List.length_set] at lt
      rw [List.getElem?_set_self lt] at h
      cases h
      exact .inl rfl
    · rw [List.getElem?_set_ne (Ne.symm e)] at h
      rcases wipe_get vs m j s h with h | ⟨h1, h2⟩
      · exact .inl h
      · exact .inr ⟨by simp [e, h1], h2⟩
theorem wipe_len : ∀ (A : List Nat) (m : List Slot), (wipeM m A).length = m.length
  | [], m => rfl
  | v :: vs, m => by rw [wipeM, List.length_set, wipe_len vs m]
theorem st_scp {b rest : List Stmt} {is A : List Nat} {ss r : Ss} (hA : ∀ j ∈ A, C.fx j = false) (h : ∀ w0 s0, Blk (C.scp A w0 s0) X cal L b ss) (hr : PSs X rest (rdSt C (evSs cal L r))) : PSs X (b ++ rest) (rdSt C (evSs cal L (.cons (.scp is A ss) r))) := by
  have key : PSs X (b ++ rest) (fun D σ H => ∃ w0 s0, rdSt (C.scp A w0 s0) (evSs cal L ss) { D with nx := rdSt C (evSs cal L r) D } σ H) :=
    ⟨fun pins s σ H D I ⟨w0, s0, q⟩ => (Blk.app hr (h w0 s0)).run pins s σ H D I q⟩
  refine PSs.imp key fun D σ H ⟨w, m, eH, P, q⟩ => ?_
  rw [evSs, evS] at q
  refine ⟨w.lend is m σ, σ, w.lend is m σ, lendM is 0 m, eH, ⟨P.sr.lend is, .refl _, fun _ _ => rfl⟩, ?_⟩
  cases hc : evSs cal L ss (lendM is 0 m) with
  | no => rw [hc] at q; exact q.elim
  | ex x m1 => rw [hc] at q; exact q.elim
  | rt x m1 => rw [hc] at q; exact q.elim
  | bk m1 => rw [hc] at q; exact q.elim
  | ct m1 => rw [hc] at q; exact q.elim
  | nx m1 =>
    rw [hc] at q
    by_cases hlen : m1.length = m.length
    · have q : FSat C w D (evSs cal L r (wipeM m A)) := by
        dsimp only at q
        rw [if_pos hlen] at q
        exact q
      intro w1 σ1 P1 x1
      have S0 := P.sr.thaw x1 P1.sr
      have off : ∀ j, j ∉ A → σ1[j]? = σ[j]? := fun j hj => P1.fix j (by show (!A.contains j) = true; simpa using hj)
      have lenσ : m.length = σ1.length := by rw [← hlen]; exact P1.sr.len
      have S2 : SR C.G (w.thaw w1) (wipeM m A) σ1 := by
        refine ⟨by rw [wipe_len]; exact lenσ, fun j s h => ?_, fun i j o o' a h1 h2 e1 e2 => ?_, S0.sep, S0.trk⟩
        · rcases wipe_get A m j s h with rfl | ⟨hj, h⟩
          · trivial
          · rw [off j hj]; exact S0.sl j s h
        · rcases wipe_get A m i _ h1 with z | ⟨hi, h1⟩
          · cases z
          · rcases wipe_get A m j _ h2 with z | ⟨hj, h2⟩
            · cases z
            · rw [off i hi] at e1
              rw [off j hj] at e2
              exact S0.inj i j o o' a h1 h2 e1 e2
      exact ⟨w.thaw w1, wipeM m A, rfl, ⟨S2, P.ex.trans (Ex.thaw P.sr x1), fun j hj => by
        rw [off j fun z => by rw [hA j z] at hj; cases hj]
        exact P.fix j hj⟩, FSat.weak q (Ex.thaw P.sr x1)⟩
    · dsimp only at q
      rw [if_neg hlen] at q
      exact (q : False).elim
theorem nfa {io : List Bool} {A : List Nat} (h : C.fx = fxOf io) (e : (A.all fun j => !fxOf io j) = true := by rfl) : ∀ j ∈ A, C.fx j = false := fun j hj => by
  rw [h]
  have := List.all_eq_true.mp e j hj
  simpa using this
theorem st_scp2 {s1 s2 : Stmt} {rest : List Stmt} {is A : List Nat} {e1 e2 : S} {r : Ss} (hA : ∀ j ∈ A, C.fx j = false) (h1 : ∀ w0 s0, PS X s1 (rdSt (C.scp A w0 s0) (evS cal L e1))) (h2 : ∀ w0 s0, PS X s2 (rdSt (C.scp A w0 s0) (evS cal L e2))) (hr : PSs X rest (rdSt C (evSs cal L r))) :
    PSs X (s1 :: s2 :: rest) (rdSt C (evSs cal L (.cons (.scp is A (.cons e1 (.cons e2 .nil))) r))) := st_scp (b := [s1, s2]) hA (fun w0 s0 => .cons (h1 w0 s0) (.cons (h2 w0 s0) .nil)) hr
/-! ### a new instance out of owned objects -/
theorem n_mki {ex : Expr} {c f : Nat} {io : List Bool} {es : Es} (hp : PE X ex (tMkP (C.G.cls c) (spM C.G cal f) (fun vs => vs) EF (rdDs C (evDs cal es)))) : PE X ex (rdE C (evE cal (.mki c f io es))) :=
  PE.imp hp fun σ H Q ⟨w, m, e, P, q⟩ => by
  rw [evE, Res.sat_bind] at q
  refine ⟨w, m, e, P, Res.sat_mono q fun ds m1 q1 w1 vs S1 x1 r1 x dx hx hdx hne => ?_⟩
  cases h1 : pass m1 io ds with
  | none => rw [h1] at q1; exact q1.elim
  | some pr0 =>
    obtain ⟨args, m2⟩ := pr0
    rw [h1] at q1
    simp only at q1
    obtain ⟨w2, e2, x2, S2, pr, _, _⟩ := SR.pass S1 r1 h1
    have hx2 : w2.H x = none := by rw [e2]; exact hx
    have hdx2 : w2.H dx = none := by rw [e2]; exact hdx
    cases hcal : cal f (.ow (.ins c []) :: args) with
    | no => rw [hcal] at q1; exact q1.elim
    | ex y outs => rw [hcal] at q1; exact q1.elim
    | ok r0 outs0 =>
      rw [hcal] at q1
      obtain ⟨o, outs, rfl, rfl, q2⟩ : ∃ o outs, r0 = .fz .non ∧ outs0 = .ow o :: outs ∧ ∃ m3, back m2 io ds outs = some m3 ∧ ∀ w' v, SR C.G w' m3 σ → Ex w w' → RR C.G w' m3 σ (.ow o) v → Q v w'.H := by
        split at q1
        · rename_i o outs hcc
          cases hcc
          cases hb : back m2 io ds outs with
          | none => rw [hb] at q1; exact q1.elim
          | some m3 => rw [hb] at q1; exact ⟨o, outs, rfl, rfl, m3, hb, q1⟩
        · exact q1.elim
      clear q1
      obtain ⟨m3, hb, q1⟩ := q2
      let wA : Wd := ⟨w2.F, w2.L, upd w2.H dx (.own x)⟩
      have moA : Mo w2 wA := ⟨fun _ z => z, fun a fa => by
        obtain ⟨u, hu⟩ := S2.trk a fa
        exact .inl (hu.trans (upd_trk hdx2 hu).symm)⟩
      have exA : Ex w2 wA := ⟨moA.fz, moA.kp, fun a u g1 g2 g3 => ⟨upd_trk hdx2 g1, g2, g3⟩⟩
      have SA : SR C.G wA m2 σ := S2.grow moA (fun a l => ⟨l, fun ⟨u, hu⟩ => (upd_trk hdx2 hu).trans hu.symm⟩) S2.sep fun a fa => by
        obtain ⟨u, hu⟩ := S2.trk a fa
        exact ⟨u, upd_trk hdx2 hu⟩
      have hxA : wA.H x = none := (upd_ne (fun z => hne z.symm)).trans hx2
      have S5 : SR C.G (wA.new x (.ins (C.G.cls c) dx [])) m2 σ := SA.new hxA
      have x5 : Ex w2 (wA.new x (.ins (C.G.cls c) dx [])) := exA.trans (Ex.new SA.trk hxA)
      have same5 : ∀ {a : Addr} {u : HO}, w2.H a = some u → (wA.new x (.ins (C.G.cls c) dx [])).H a = w2.H a := fun {a u} hu => by
        show upd (upd w2.H dx (.own x)) x _ a = _
        rw [upd_ne (ne_of_none hu hx2), upd_ne (ne_of_none hu hdx2)]
      have xoff : Off m2 σ x := fun j o' hj z => by
        obtain ⟨a, ea, ro, _⟩ := S2.sl j _ hj
        rw [z] at ea
        cases ea
        obtain ⟨u, hu⟩ := ro.trk
        rw [hx2] at hu
        cases hu
      have xarg : ∀ (k : Nat) (o' : O), args[k]? = some (.ow o') → vs[k]? ≠ some (.ref x) := fun k o' hk z => by
        obtain ⟨a, ea, ro, _⟩ := pr.sl k _ hk
        rw [z] at ea
        cases ea
        obtain ⟨u, hu⟩ := ro.trk
        rw [hx2] at hu
        cases hu
      have pq : PQ C.G (wA.new x (.ins (C.G.cls c) dx [])) m2 σ (.ow (.ins c []) :: args) (.ref x :: vs) := by
        refine ⟨by simp [pr.len], fun k s hk => ?_, fun k l o1 o2 a h1 h2 z1 z2 => ?_, fun k o1 a hk z => ?_⟩
        · cases k with
          | zero =>
            cases hk
            exact ⟨x, rfl, .ins upd_same .nil, .inr rfl⟩
          | succ k =>
            rw [List.getElem?_cons_succ] at hk ⊢
            have q := pr.sl k s hk
            cases s with
            | no => trivial
            | fz t => obtain ⟨v, e, r⟩ := q; exact ⟨v, e, r.mono x5.mo⟩
            | ow o' =>
              obtain ⟨a, ea, ro, la⟩ := q
              obtain ⟨u, hu⟩ := ro.trk
              exact ⟨a, ea, ro.mono x5.mo (same5 hu), .inl la⟩
        · cases k with
          | zero =>
            cases l with
            | zero => rfl
            | succ l =>
              rw [List.getElem?_cons_succ] at h2 z2
              cases z1
              exact absurd z2 (xarg l o2 h2)
          | succ k =>
            cases l with
            | zero =>
              rw [List.getElem?_cons_succ] at h1 z1
              cases z2
              exact absurd z1 (xarg k o1 h1)
            | succ l =>
              rw [List.getElem?_cons_succ] at h1 z1 h2 z2
              rw [pr.inj k l o1 o2 a h1 h2 z1 z2]
        · cases k with
          | zero => cases z; exact xoff
          | succ k =>
            rw [List.getElem?_cons_succ] at hk z
            exact pr.off k o1 a hk z
      have hH : (callW (wA.new x (.ins (C.G.cls c) dx [])) (.ow (.ins c []) :: args) (.ref x :: vs)).H = upd (upd w1.H dx (.own x)) x (.ins (C.G.cls c) dx []) := by
        show upd (upd w2.H dx (.own x)) x _ = _
        rw [e2]
      refine ⟨_, _, hH, pq.call S5, ?_⟩
      rw [hcal]
      intro w' v S' x' rr
      have S3 := call_back pq S5 x' S'
      have x3 := call_ex pq x'
      obtain ⟨a, ea, ro, la⟩ := S'.sl 0 _ rfl
      have ea' : a = x := by
        have : (some (some (V.ref x)) : Option (Option V)) = some (some (.ref a)) := ea
        cases this
        rfl
      subst ea'
      refine ⟨by cases rr; rfl, ?_⟩
      have mo5 : Mo w' (backW (wA.new a (.ins (C.G.cls c) dx [])) w' (.ow (.ins c []) :: args) (.ref a :: vs)) := mo_same rfl rfl
      obtain ⟨S4, off4⟩ := SR.back (outs := outs) S3 (r1.mono (x2.trans (x5.trans x3)).mo) (fun k s e => by
          have := S'.sl (k + 1) s (by rw [List.getElem?_cons_succ]; exact e)
          rw [List.map_cons, List.getElem?_cons_succ, List.getElem?_map] at this
          exact this.mono mo5 fun o a hs hv => ⟨rfl, .inr (by
            subst hs
            obtain ⟨b, e1, _, l⟩ := this
            rw [hv] at e1
            cases e1
            exact l)⟩)
        (fun k l o o' a e1 e2 z1 z2 => Nat.succ.inj (S'.inj (k + 1) (l + 1) o o' a (by rw [List.getElem?_cons_succ]; exact e1) (by rw [List.getElem?_cons_succ]; exact e2) (by rw [List.map_cons, List.getElem?_cons_succ]; exact getM.mpr z1) (by rw [List.map_cons, List.getElem?_cons_succ]; exact getM.mpr z2)))
        (fun k o a e z => by
          obtain ⟨b, e1, _, l⟩ := S'.sl (k + 1) _ (by rw [List.getElem?_cons_succ]; exact e)
          rw [List.map_cons, List.getElem?_cons_succ, getM.mpr z] at e1
          cases e1
          exact call_off pq S5 x' l) hb
      refine q1 (backW (wA.new a (.ins (C.G.cls c) dx [])) w' (.ow (.ins c []) :: args) (.ref a :: vs)) (.ref a) S4 (x1.trans (x2.trans (x5.trans x3))) ⟨a, rfl, ro.mono mo5 rfl, .inr la, off4 a (call_off pq S5 x' la) fun k o' e z => ?_⟩
      have := S'.inj 0 (k + 1) o o' a rfl (by rw [List.getElem?_cons_succ]; exact e) rfl (by rw [List.map_cons, List.getElem?_cons_succ]; exact getM.mpr z)
      cases this
section
variable {tab : Nat → Option (He5.DefA × List Str)} {fx : List Fx} {gk : List (Str × T)} {cn : List Str}
theorem q_mki (c : XC C X k) (e : GX tab fx gk cn X k C.G cal) {cl f n ig im : Nat} {nm : Str} {d : He5.DefA} {ps : List Str} {io : List Bool} {e1 : Expr} {es1 : List Expr} {es : Es} (hcl : cn[cl]? = some nm) (hig : fx[ig]? = some (.glo nm)) (him : fx[im]? = some (.mkr nm)) (ht : tab f = some (d, ps))
    (hat : d.at_ = fun K => He.ma K (He.ga K nm) "__init__") (b : Bnd d ps fx n []) (h : PA X (e1 :: es1) (rdDs C (evDs cal es))) (hg : Gl X nm := by rfl) (hdb : (nm == ("__debug__" : Str)) = false := by decide)
    (he : starEach (e1 :: es1) X.env = (false, eval e1 X.env) :: starEach es1 X.env := by rfl) (hpl : (backTo pos (starEach es1 X.env)).any (·.1) = false := by rfl) :
    PE X (.Call (.Name nm p1) (e1 :: es1) [] pos) (rdE C (evE cal (.mki cl f io es))) := by
  obtain ⟨fd, dvs, ds, h1, h2, h3, ok⟩ := e.defA ht b
  cases h3 ⟨fun _ => True, fun _ => True, fun _ => none⟩
  have ha' : d.at_ X.K = He.ma X.K (He.ga X.K nm) "__init__" := by rw [hat]
  rw [ha'] at ok
  refine n_mki (PE.imp (pe_make (e.mkr hcl him) ok c.room hg (e.gloC hcl hig) h2 h1 passEF h hdb he hpl) fun σ H Q ⟨w, m, eH, P, q⟩ => ⟨w, m, eH, P, Res.sat_mono q fun ds m1 q1 w1 vs S1 x1 r1 => ?_⟩)
  have z := q1 w1 vs S1 x1 r1
  intro x dx h1 h2 h3
  rw [List.append_nil]
  exact z x dx h1 h2 h3
end
end
end Mi
set_option maxHeartbeats 1000000
namespace Mi
open PySem PySem.Spec PyProof.Rows L2

/-! ### plain tools -/
theorem wipe_getP : ∀ (A : List Nat) (m : List Slot) (j : Nat), j ∉ A → (wipeM m A)[j]? = m[j]?
  | [], m, j, _ => rfl
  | v :: vs, m, j, h => by
    rw [wipeM, List.getElem?_set_ne (fun e => h (by simp [e])), wipe_getP vs m j fun z => h (by simp [z])]
theorem wipe_lenP : ∀ (A : List Nat) (m : List Slot), (wipeM m A).length = m.length
  | [], m => rfl
  | v :: vs, m => by rw [wipeM, List.length_set, wipe_lenP vs m]
theorem rest_len : ∀ (A : List Nat) (m0 m : List Slot), (restM m0 m A).length = m.length
  | [], m0, m => rfl
  | v :: vs, m0, m => by rw [restM, List.length_set, rest_len vs m0 m]
theorem rest_get : ∀ (A : List Nat) (m0 m : List Slot) (j : Nat), (restM m0 m A)[j]? = if j ∈ A ∧ j < m.length then some (m0[j]?.getD .no) else m[j]?
  | [], m0, m, j => by simp [restM]
  | v :: vs, m0, m, j => by
    rw [restM]
    by_cases e : v = j
    · subst e
      by_cases lt : v < m.length
      · rw [List.getElem?_set_self (by rw [rest_len]; exact lt), if_pos ⟨by simp, lt⟩]
      · rw [List.getElem?_eq_none (by rw [List.length_set, rest_len]; omega), if_neg (fun z => lt z.2), List.getElem?_eq_none (by omega)]
    · rw [List.getElem?_set_ne e, rest_get vs m0 m j]
      have : (j ∈ v :: vs) ↔ (j ∈ vs) := by
        simp only [List.mem_cons]
        exact ⟨fun z => z.elim (fun z => absurd z.symm e) id, .inr⟩
      simp only [this]
theorem rest_wipe {m : List Slot} {A : List Nat} (h : noOw m A = true) : restM m (wipeM m A) A = m := by
  apply List.ext_getElem?
  intro j
  rw [rest_get, wipe_lenP]
  by_cases hj : j ∈ A
  · have := List.all_eq_true.mp h j hj
    cases e : m[j]? with
    | none => rw [e] at this; cases this
    | some s =>
      have lt := (List.getElem?_eq_some_iff.mp e).1
      rw [if_pos ⟨hj, lt⟩]
      rfl
  · rw [if_neg (fun z => hj z.1), wipe_getP A m j hj]
theorem compP {own : List Nat} {p : Pt} {cond elt : List Slot → Res R} {m0 : List Slot} (P : T → Bool) (g : T → T) : ∀ (xs acc : List T), (∀ x ∈ xs, ∃ m1, bindP (wipeM m0 own) p x = some m1 ∧ wipeM m1 own = m0 ∧ cond m1 = .ok (.fz (.bl (P x))) m1 ∧ (P x = true → ∃ r, elt m1 = .ok r m1 ∧ esc m1 r.opd = some (g x, m1))) →
    acc.length + xs.length ≤ sizeLine → compGo own p cond elt xs acc m0 = .ok (acc ++ (xs.filter P).map g) m0
  | [], acc, _, _ => by rw [compGo]; simp
  | x :: xs, acc, h, hl => by
    obtain ⟨m1, h1, h5, h2, h3⟩ := h x List.mem_cons_self
    simp only [List.length_cons] at hl
    unfold compGo
    cases hp : P x with
    | true =>
      obtain ⟨r, h3, h4⟩ := h3 hp
      rw [hp] at h2
      simp only [h1, h2, Res.bind, h3, h4, h5]
      rw [if_pos (by omega), compP P g xs (acc ++ [g x]) (fun y hy => h y (List.mem_cons_of_mem _ hy)) (by simp; omega), List.append_assoc, List.filter_cons, hp]
      rfl
    | false =>
      rw [hp] at h2
      simp only [h1, h2, Res.bind, h5]
      rw [compP P g xs acc (fun y hy => h y (List.mem_cons_of_mem _ hy)) (by omega), List.filter_cons, hp]
      rfl
theorem ev_compP {cal : Nat → List Slot → CRes} {own : List Nat} {p : Pt} {s : Src} {cs : Es} {e : E} {m : List Slot} {xs : List T} (P : T → Bool) (g : T → T) (hs : evSrc cal s m = .ok xs m) (hn : noOw m own = true) (hw : wipeM (wipeM m own) own = wipeM m own)
    (h : ∀ x ∈ xs, ∃ m1, bindP (wipeM m own) p x = some m1 ∧ wipeM m1 own = wipeM m own ∧ evAll cal cs m1 = .ok (.fz (.bl (P x))) m1 ∧ (P x = true → ∃ r, evE cal e m1 = .ok r m1 ∧ esc m1 r.opd = some (g x, m1))) (hl : xs.length ≤ sizeLine) :
    evE cal (.comp own p s cs e) m = .ok (.ow (.lst ((xs.filter P).map g))) m := by
  have hc := compP (own := own) (p := p) (cond := fun m => evAll cal cs m) (elt := fun m => evE cal e m) (m0 := wipeM m own) P g xs [] (fun x hx => by rw [hw]; exact h x hx) (by simpa using hl)
  rw [evE, hs]
  simp only [Res.bind, if_pos hn, hc, Res.calm, rest_wipe hn, List.nil_append]
/-! whole numbers -/
abbrev tI (xs : List Int) : List T := xs.map T.int
theorem tI_nil : tI [] = [] := rfl
theorem tI_cons {a : Int} {r : List Int} : tI (a :: r) = .int a :: tI r := rfl
theorem ev_compI {cal : Nat → List Slot → CRes} {own : List Nat} {p : Pt} {s : Src} {cs : Es} {e : E} {m : List Slot} {xs : List Int} (P : Int → Bool) (g : Int → T) (hs : evSrc cal s m = .ok (tI xs) m) (hn : noOw m own = true) (hw : wipeM (wipeM m own) own = wipeM m own)
    (h : ∀ x ∈ xs, ∃ m1, bindP (wipeM m own) p (.int x) = some m1 ∧ wipeM m1 own = wipeM m own ∧ evAll cal cs m1 = .ok (.fz (.bl (P x))) m1 ∧ (P x = true → ∃ r, evE cal e m1 = .ok r m1 ∧ esc m1 r.opd = some (g x, m1))) (hl : xs.length ≤ sizeLine) :
    evE cal (.comp own p s cs e) m = .ok (.ow (.lst ((xs.filter P).map g))) m := by
  have := ev_compP (xs := tI xs) (fun t => match t with | .int x => P x | _ => false) (fun t => match t with | .int x => g x | t => t) hs hn hw (fun x hx => by
    obtain ⟨y, hy, rfl⟩ := List.mem_map.mp hx
    exact h y hy) (by simpa using hl)
  rw [this]
  congr 3
  clear this h hs hl
  induction xs with
  | nil => rfl
  | cons a r ih =>
    cases hp : P a with
    | true =>
      rw [List.filter_cons_of_pos hp, List.map_cons, tI_cons, List.filter_cons_of_pos (by simpa using hp), List.map_cons, ih]
    | false => rw [List.filter_cons_of_neg (by simp [hp]), tI_cons, List.filter_cons_of_neg (by simp [hp]), ih]
theorem flat_tI (xs : List Int) : (tI xs).all flatT = true := by simp [flatT]
theorem any_tI (x : Int) (xs : List Int) : ((tI xs).any fun y => eqT y (.int x)) = decide (x ∈ xs) := by
  induction xs with
  | nil => rfl
  | cons a r ih =>
    rw [tI_cons, List.any_cons, ih]
    show (a == x || decide (x ∈ r)) = _
    by_cases h : a = x
    · subst h; simp
    · have : (a == x) = false := by simpa using h
      rw [this, Bool.false_or]
      simp [List.mem_cons, Ne.symm h]
theorem in_tI (k : Bool → Bool) (x : Int) (xs : List Int) : inF k (.int x) (.lst (tI xs)) = fB (k (decide (x ∈ xs))) := by
  show (if flatT (.int x) = true ∧ (tI xs).all flatT = true then fB (k ((tI xs).any fun y => eqT y (.int x))) else none) = _
  rw [if_pos ⟨rfl, flat_tI xs⟩, any_tI]
abbrev dI (xs : List Int) : List (Key × T) := xs.map fun x => (.inl x, .bl true)
theorem dI_cons {a : Int} {r : List Int} : dI (a :: r) = (.inl a, .bl true) :: dI r := rfl
theorem any_dI (x : Int) (xs : List Int) : ((dI xs).any fun kv => decide (kv.1 = .inl x)) = decide (x ∈ xs) := by
  induction xs with
  | nil => rfl
  | cons a r ih =>
    rw [dI_cons, List.any_cons, ih]
    by_cases h : a = x
    · subst h; simp
    · have : decide ((Sum.inl a : Key) = .inl x) = false := by simpa using h
      rw [this, Bool.false_or]
      simp [List.mem_cons, Ne.symm h]
theorem in_dI (k : Bool → Bool) (x : Int) (xs : List Int) : inF k (.int x) (.dic (dI xs)) = fB (k (decide (x ∈ xs))) := by
  show (keyT (.int x)).bind (fun q => fB (k ((dI xs).any fun kv => decide (kv.1 = q)))) = _
  show fB (k ((dI xs).any fun kv => decide (kv.1 = .inl x))) = _
  rw [any_dI]
/-- {x: True for x in xs} -/
theorem dcI {own : List Nat} {p : Pt} {cond ke ve : List Slot → Res R} {m0 : List Slot} : ∀ (xs acc : List Int), (∀ x ∈ xs, ∃ m1, bindP (wipeM m0 own) p (.int x) = some m1 ∧ wipeM m1 own = m0 ∧ cond m1 = .ok (.fz (.bl true)) m1 ∧ ke m1 = .ok (.fz (.int x)) m1 ∧ ve m1 = .ok (.fz (.bl true)) m1) →
    (acc ++ xs).Nodup → acc.length + xs.length ≤ sizeLine → dcGo own p cond ke ve (tI xs) (dI acc) m0 = .ok (dI (acc ++ xs)) m0
  | [], acc, _, _, _ => by rw [tI_nil, dcGo, List.append_nil]
  | x :: xs, acc, h, hn, hl => by
    obtain ⟨m1, h1, h5, h2, h3, h4⟩ := h x List.mem_cons_self
    simp only [List.length_cons] at hl
    have hx : x ∉ acc := fun z => by
      have := List.nodup_append.mp hn
      exact this.2.2 x z x (by simp) rfl
    rw [tI_cons]
    unfold dcGo
    simp only [h1, h2, Res.bind, h3, h4, h5, keyT, R.opd, esc]
    have hput : putT (dI acc) (.inl x) (.bl true) = dI (acc ++ [x]) := by
      unfold putT
      rw [any_dI, if_neg (by simpa using hx)]
      simp
    rw [if_pos (by simp; omega), hput, dcI xs (acc ++ [x]) (fun y hy => h y (List.mem_cons_of_mem _ hy)) (by simpa using hn) (by simp; omega)]
    simp
theorem ev_dcI {cal : Nat → List Slot → CRes} {own : List Nat} {p : Pt} {s : Src} {cs : Es} {ke ve : E} {m : List Slot} {xs : List Int} (hs : evSrc cal s m = .ok (tI xs) m) (hn : noOw m own = true) (hw : wipeM (wipeM m own) own = wipeM m own)
    (h : ∀ x ∈ xs, ∃ m1, bindP (wipeM m own) p (.int x) = some m1 ∧ wipeM m1 own = wipeM m own ∧ evAll cal cs m1 = .ok (.fz (.bl true)) m1 ∧ evE cal ke m1 = .ok (.fz (.int x)) m1 ∧ evE cal ve m1 = .ok (.fz (.bl true)) m1) (hd : xs.Nodup) (hl : xs.length ≤ sizeLine) :
    evE cal (.dcm own p s cs ke ve) m = .ok (.ow (.dic (dI xs))) m := by
  have hc := dcI (own := own) (p := p) (cond := fun m => evAll cal cs m) (ke := fun m => evE cal ke m) (ve := fun m => evE cal ve m) (m0 := wipeM m own) xs [] (fun x hx => by rw [hw]; exact h x hx) (by simpa using hd) (by simpa using hl)
  rw [evE, hs]
  simp only [Res.bind, if_pos hn]
  have e : dI ([] : List Int) = [] := rfl
  rw [e] at hc
  simp only [hc, Res.calm, rest_wipe hn, List.nil_append]
theorem filt_true {α : Type} (xs : List α) : (xs.filter fun _ => true) = xs := List.filter_eq_self.mpr fun _ _ => rfl
/-- ranges -/
def rngI (lo hi : Int) : List Int := (List.range (hi - lo).toNat).map fun (k : Nat) => lo + (k : Int)
theorem rangeT_eq (lo hi : Int) : rangeT lo hi = tI (rngI lo hi) := by unfold rangeT rngI tI; rw [List.map_map]; rfl
theorem mem_rngI {lo hi x : Int} : x ∈ rngI lo hi ↔ lo ≤ x ∧ x < hi := by
  unfold rngI
  refine List.mem_map.trans ?_
  constructor
  · rintro ⟨k, hk, rfl⟩
    have := List.mem_range.mp hk
    omega
  · intro ⟨h1, h2⟩
    exact ⟨(x - lo).toNat, List.mem_range.mpr (by omega), by omega⟩
theorem len_rngI (lo hi : Int) : (rngI lo hi).length = (hi - lo).toNat := by simp [rngI]
theorem asc_rngI (lo hi : Int) : (rngI lo hi).Pairwise (· < ·) := by
  unfold rngI
  rw [List.pairwise_map]
  exact List.pairwise_lt_range.imp fun h => by omega
theorem rngI_succ {lo hi : Int} (h : lo ≤ hi) : rngI lo (hi + 1) = rngI lo hi ++ [hi] := by
  unfold rngI
  rw [show (hi + 1 - lo).toNat = (hi - lo).toNat + 1 by omega, List.range_succ, List.map_append]
  simp only [List.map_cons, List.map_nil]
  rw [show lo + ((hi - lo).toNat : Int) = hi by omega]
theorem nodup_asc {xs : List Int} (h : xs.Pairwise (· < ·)) : xs.Nodup := h.imp fun h => by omega
theorem bools_map {α : Type} (f : α → Bool) : ∀ xs : List α, bools (xs.map fun x => T.bl (f x)) = some (xs.map f)
  | [] => rfl
  | a :: r => by simp only [List.map_cons, bools, bools_map f r, Option.map_some]
theorem all_map {α : Type} (f : α → Bool) (xs : List α) : allF (.lst (xs.map fun x => T.bl (f x))) = fB (xs.all f) := by
  show (bools (xs.map fun x => T.bl (f x))).bind (fun bs => fB (bs.all id)) = _
  rw [bools_map]
  show fB ((xs.map f).all id) = _
  rw [List.all_map]
  rfl
/-! ### equality of lists, of dicts -/
theorem pyTs_tI : ∀ xs : List Int, pyTs (tI xs) = some (xs.map PyData.int)
  | [] => rfl
  | a :: r => by rw [tI_cons, pyTs, pyTs_tI r]; rfl
theorem lay_tI : ∀ xs : List Int, PyData.canLayAll0 (xs.map PyData.int) = true
  | [] => rfl
  | a :: r => by rw [List.map_cons, PyData.canLayAll0, lay_tI r]; rfl
theorem depth_tI : ∀ xs : List Int, PyData.depthAll (xs.map PyData.int) = 0
  | [] => rfl
  | a :: r => by rw [List.map_cons, PyData.depthAll, depth_tI r]; rfl
theorem eqv_tI : ∀ xs ys : List Int, PyData.eqvAll (xs.map PyData.int) (ys.map PyData.int) = decide (xs = ys)
  | [], [] => rfl
  | [], _ :: _ => by simp [PyData.eqvAll]
  | _ :: _, [] => by simp [PyData.eqvAll]
  | x :: xs, y :: ys => by
    rw [List.map_cons, List.map_cons, PyData.eqvAll, eqv_tI xs ys]
    show (PyData.eqv (.int x) (.int y) && _) = _
    have : PyData.eqv (.int x) (.int y) = decide (x = y) := by
      simp only [PyData.eqv]
      by_cases h : x = y <;> simp [h]
    rw [this, ← Bool.decide_and]
    exact decide_eq_decide.mpr (by rw [List.cons.injEq])
theorem shaped_tI (xs : List Int) : SeqAt.shaped (.list (xs.map PyData.int)) = true := by
  show (PyData.canLay0 (.list _) && decide (PyData.depth (.list _) ≤ 64)) = true
  rw [PyData.canLay0, lay_tI, PyData.depth, depth_tI]
  rfl
theorem eq_tI (k : Bool → Bool) (xs ys : List Int) : eqF (.lst (tI xs)) (.lst (tI ys)) k = fB (k (decide (xs = ys))) := by
  show (match pyT (.lst (tI xs)), pyT (.lst (tI ys)) with
    | some d, some e => if SeqAt.shaped d = true ∧ SeqAt.shaped e = true then fB (k (PyData.eqv d e)) else none
    | _, _ => _) = _
  have h : ∀ xs, pyT (.lst (tI xs)) = some (.list (xs.map PyData.int)) := fun xs => by rw [pyT, pyTs_tI]; rfl
  rw [h xs, h ys]
  simp only
  rw [if_pos ⟨shaped_tI xs, shaped_tI ys⟩, PyData.eqv, eqv_tI]
theorem eq_nil (k : Bool → Bool) (xs : List Int) : eqF (.lst (tI xs)) (.lst []) k = fB (k (decide (xs = []))) := eq_tI k xs []
theorem val_dI (x : Int) : ∀ ys : List Int, valT (dI ys) (.inl x) = if x ∈ ys then some (.bl true) else none
  | [] => rfl
  | a :: r => by
    have ih := val_dI x r
    unfold valT at ih ⊢
    rw [dI_cons, List.find?_cons]
    by_cases h : a = x
    · subst h; simp
    · have : decide ((Sum.inl a : Key) = .inl x) = false := by simpa using h
      simp only [this]
      rw [ih]
      simp [List.mem_cons, Ne.symm h]
theorem hits_dI (ys : List Int) : ∀ xs : List Int, hitsT (dI ys) (dI xs) = some (decide (∀ x ∈ xs, x ∈ ys))
  | [] => by simp [hitsT]
  | a :: r => by
    rw [dI_cons, hitsT, val_dI, hits_dI ys r]
    by_cases h : a ∈ ys
    · rw [if_pos h]
      simp [sameK, Mi.eqT, h]
    · rw [if_neg h]
      simp [h]
theorem asc_sub : ∀ (ys xs : List Int), xs.Pairwise (· < ·) → ys.Pairwise (· < ·) → (∀ x ∈ xs, x ∈ ys) → xs.Sublist ys
  | [], xs, _, _, h => by
    cases xs with
    | nil => exact .slnil
    | cons a r => exact absurd (h a (by simp)) (by simp)
  | y :: ys, xs, hx, hy, h => by
    cases xs with
    | nil => exact List.nil_sublist _
    | cons a r =>
      rw [List.pairwise_cons] at hx hy
      by_cases e : a = y
      · subst e
        refine .cons₂ _ (asc_sub ys r hx.2 hy.2 fun x hx' => ?_)
        have := hx.1 x hx'
        rcases List.mem_cons.mp (h x (by simp [hx'])) with z | z
        · omega
        · exact z
      · have ha : a ∈ ys := by
          rcases List.mem_cons.mp (h a (by simp)) with z | z
          · exact absurd z e
          · exact z
        have hya := hy.1 a ha
        refine .cons _ (asc_sub ys (a :: r) (List.pairwise_cons.mpr hx) hy.2 fun x hx' => ?_)
        rcases List.mem_cons.mp (h x hx') with z | z
        · rcases List.mem_cons.mp hx' with z' | z'
          · omega
          · have := hx.1 x z'; omega
        · exact z
theorem eq_dI (k : Bool → Bool) {xs ys : List Int} (hx : xs.Pairwise (· < ·)) (hy : ys.Pairwise (· < ·)) : eqF (.dic (dI xs)) (.dic (dI ys)) k = fB (k (decide (xs = ys))) := by
  show eqD k (dI xs) (dI ys) = _
  unfold eqD
  rw [hits_dI, List.length_map, List.length_map]
  by_cases h : xs.length = ys.length
  · rw [if_pos h]
    simp only
    congr 2
    refine decide_eq_decide.mpr ⟨fun q => (asc_sub ys xs hx hy q).eq_of_length h, fun q => by rw [q]; exact fun x h => h⟩
  · rw [if_neg h, decide_eq_false (fun z => h (by rw [z]))]
/-! ### texts -/
def istr (i : Int) : PySem.Str := toString i
abbrev tS (xs : List PySem.Str) : List T := xs.map T.str
theorem strs_tS : ∀ xs : List PySem.Str, strsT (tS xs) = some xs
  | [] => rfl
  | a :: r => by show (strsT (tS r)).map _ = _; rw [strs_tS r]; rfl
def JoinOk (xs : List PySem.Str) : Prop := (xs.map (·.length)).sum + xs.length * 1 ≤ 16777216
theorem join_sp {xs : List PySem.Str} (h : JoinOk xs) : joinF (.str " ") (.lst (tS xs)) = fS (Txt.join " " xs) := by
  show (strsT (tS xs)).bind (fun ys => if (ys.map (·.length)).sum + ys.length * PySem.Str.length " " ≤ 16777216 then fS (Txt.join " " ys) else none) = _
  rw [strs_tS]
  exact if_pos h
theorem join_eq (sep : PySem.Str) (l : List PySem.Str) : Txt.join sep l = PySem.Str.join sep l := by
  cases l with
  | nil => rfl
  | cons a r => exact PySem.StrLaws.glued_eq_join sep (a :: r)
theorem len_join0 (sep : PySem.Str) : ∀ l : List PySem.Str, (PySem.Str.join sep l).length ≤ (l.map (·.length)).sum + l.length * sep.length
  | [] => Nat.zero_le _
  | [x] => by show x.length ≤ _; simp
  | x :: y :: r => by
    have ih := len_join0 sep (y :: r)
    show (x ++ sep ++ PySem.Str.join sep (y :: r)).length ≤ _
    rw [PySem.Str.length_append, PySem.Str.length_append]
    simp only [List.map_cons, List.sum_cons, List.length_cons] at ih ⊢
    have : (r.length + 1 + 1) * sep.length = (r.length + 1) * sep.length + sep.length := by rw [Nat.add_mul (r.length + 1), Nat.one_mul]
    omega
theorem len_join (sep : PySem.Str) (l : List PySem.Str) : (Txt.join sep l).length ≤ (l.map (·.length)).sum + l.length * sep.length := by rw [join_eq]; exact len_join0 sep l
def Small (i : Int) : Prop := i.natAbs.log2 < 1920
theorem str_int {i : Int} (h : Small i) : strF (.int i) = some (.fz (.str (istr i))) := if_pos h
theorem comp_str {cal : Nat → List Slot → CRes} {j : Nat} {s : Src} {e : E} {m : List Slot} {xs : List Int} (he : e = .op .str (.cons (.var j) .nil)) (hs : evSrc cal s m = .ok (tI xs) m) (hj : m[j]? = some .no) (h : ∀ x ∈ xs, Small x) (hl : xs.length ≤ sizeLine) : evE cal (.comp [j] (.nm j) s .nil e) m = .ok (.ow (.lst (tS (xs.map istr)))) m := by
  have lt := (List.getElem?_eq_some_iff.mp hj).1
  have hw : wipeM m [j] = m := by
    show m.set j .no = m
    refine List.ext_getElem? fun i => ?_
    by_cases e : j = i
    · subst e; rw [List.getElem?_set_self lt, hj]
    · rw [List.getElem?_set_ne e]
  have := ev_compI (cal := cal) (own := [j]) (p := .nm j) (s := s) (cs := .nil) (e := e) (m := m) (xs := xs) (fun _ => true) (fun x => T.str (istr x)) hs (by simp [noOw, hj]) (by rw [hw, hw]) (fun x hx => by
    refine ⟨m.set j (.fz (.int x)), by rw [hw]; simp [bindP, lt], ?_, by rw [evAll], fun _ => ⟨.fz (.str (istr x)), ?_, rfl⟩⟩
    · rw [hw]; show (m.set j (.fz (.int x))).set j .no = m; rw [List.set_set]; exact hw
    · rw [he, evE, evDs, ev_var (List.getElem?_set_self lt)]
      simp [Res.bind, evDs, R.opd, opR, ders, der, opF, op1, str_int (h x hx)]) hl
  rw [this, filt_true]
  unfold tS
  rw [List.map_map]
  rfl
/-! ### equal things are the same -/
inductive Pl : Nat → T → Prop
  | flat {n : Nat} {t : T} : flatT t = true → Pl n t
  | lst {n : Nat} {xs : List T} : (∀ x ∈ xs, Pl n x) → xs.length ≤ sizeLine → Pl (n + 1) (.lst xs)
theorem sameT_refl {t : T} (h : flatT t = true) : sameT t t = true := by
  cases t <;> first | (cases h; done) | simp [sameT]
theorem same_refl {Γ : Nat → Option Def} {L f : Nat} (hf : Γ f = some (dSame f)) : ∀ (n : Nat) (t : T) (k : Nat), Pl n t → n < k → callF Γ L k f [.fz t, .fz t] = .ok (.fz (.bl true)) [.no, .no] := by
  intro n
  induction n with
  | zero =>
    intro t k h hk
    obtain ⟨k, rfl⟩ := Nat.exists_eq_succ_of_ne_zero (show k ≠ 0 by omega)
    cases h with
    | flat h => rw [same_flat hf h h, sameT_refl h]
  | succ n ih =>
    intro t k h hk
    obtain ⟨k, rfl⟩ := Nat.exists_eq_succ_of_ne_zero (show k ≠ 0 by omega)
    cases h with
    | flat h => rw [same_flat hf h h, sameT_refl h]
    | lst h hz =>
      rename_i xs
      have hzip : zipT xs xs = xs.map fun x => .tup [x, x] := by
        clear h hz
        induction xs with
        | nil => rfl
        | cons a r ih => rw [zipT, ih]; rfl
      have hc := compP (own := [3, 4]) (p := .tup (.cons (.nm 3) (.cons (.nm 4) .nil))) (cond := fun m => evAll (callF Γ L k) .nil m) (elt := fun m => evE (callF Γ L k) (sameE f) m) (m0 := [.fz (.lst xs), .fz (.lst xs), .no, .no, .no]) (fun _ => true) (fun _ => .bl true) (zipT xs xs) [] (fun z hz => by
        rw [hzip] at hz
        obtain ⟨x, hx, rfl⟩ := List.mem_map.mp hz
        refine ⟨[.fz (.lst xs), .fz (.lst xs), .no, .fz x, .fz x], by simp [bindP, bindPs, wipeM], by simp [wipeM], by rw [evAll], fun _ => ⟨.fz (.bl true), ?_, rfl⟩⟩
        simp [sameE, evE, evDs, Res.bind, R.opd, callR, pass, esc, back, ih x k (h x hx) (by omega)]) (by rw [hzip]; simpa using hz)
      have hfl : ((zipT xs xs).filter fun _ => true).map (fun _ => T.bl true) = xs.map fun _ => T.bl true := by
        rw [hzip, List.filter_eq_self.mpr (fun _ _ => rfl), List.map_map]; rfl
      rw [hfl, List.nil_append] at hc
      have ha : allF (.lst (xs.map fun _ => T.bl true)) = fB true := by rw [all_map (fun _ => true), show (xs.all fun _ => true) = true from List.all_eq_true.mpr fun _ _ => rfl]
      have hb : ∃ m, evSs (callF Γ L k) L (dSame f).body ([.fz (.lst xs), .fz (.lst xs)] ++ List.replicate ((dSame f).ns - (dSame f).np) .no) = .rt (.fz (.bl true)) m := by
        refine ⟨[.fz (.lst xs), .fz (.lst xs), .no, .no, .no], ?_⟩
        unfold dSame same0 same1 same2 same3 same4 same5 same6
        simp [evSs, evS, evE, evDs, evSrc, Res.bind, ofR, R.opd, opR, ders, der, opF, op2, op1, O.frz, esc, escs, isnF, isNon, fB, isi1F, isiF, Ty.has, eqF, scalT, flatT, eqT, lenF, fI, loT, noOw, wipeM, hc, Res.calm, restM, ha, outR]
      obtain ⟨m, hb⟩ := hb
      rw [run_fz (args := [.fz (.lst xs), .fz (.lst xs)]) hf rfl hb]
      rcases m with _ | ⟨a, _ | ⟨b, m⟩⟩ <;> rfl
end Mi
set_option maxHeartbeats 1000000
namespace Mi
open PySem PySem.Spec PyProof.Rows L2

section
variable {C : Ct} {X : Cx} {k L : Nat} {cal : Nat → List Slot → CRes} {pos p1 p2 : Pos}
/-! ### functions of two arguments -/
theorem x_bi2 {x : Str} {id : String} {f : Op} {a b : Expr} {ea eb : E} {r : List V → Hp → VK → Prop} (hc : CallR X (.builtin id) r) (hv : bootBuiltins x = some (.builtin id)) (ok : OpOk2 C.G f fun x y H Q => r [x, y] H Q) (hm : Fr X x) (hg : Gl X x) (hn : x ≠ "__name__") (hdb : (x == ("__debug__" : Str)) = false)
    (hs : starEach [a, b] X.env = (false, eval a X.env) :: starEach [b] X.env) (hs2 : starEach [b] X.env = (false, eval b X.env) :: starEach [] X.env) (hpl : (backTo pos (starEach [b] X.env)).any (·.1) = false) (ha : PE X a (rdE C (evE cal ea))) (hb : PE X b (rdE C (evE cal eb))) : PE X (.Call (.Name x p1) [a, b] [] pos) (rdE C (evE cal (.op f (.cons ea (.cons eb .nil))))) :=
  n_op2 (fun ta tb h h' => PE.imp (pe_callB hc hg hm hv (pa_cons h (pa_cons h' pa_nil hs2) hs) hn hdb hs hpl) fun _ _ _ q => q) ok ha hb
theorem x_bf2 {x : Str} {id : String} {f : Op} {a b : Expr} {ea eb : E} {r : List V → Hp → VK → Prop} (hc : CallR X (.builtin id) r) (ok : OpOk2 C.G f fun x y H Q => r [x, y] H Q) (hm : X.mg x = some (.builtin id)) (hg : Gl X x) (hdb : (x == ("__debug__" : Str)) = false)
    (hs : starEach [a, b] X.env = (false, eval a X.env) :: starEach [b] X.env) (hs2 : starEach [b] X.env = (false, eval b X.env) :: starEach [] X.env) (hpl : (backTo pos (starEach [b] X.env)).any (·.1) = false) (ha : PE X a (rdE C (evE cal ea))) (hb : PE X b (rdE C (evE cal eb))) : PE X (.Call (.Name x p1) [a, b] [] pos) (rdE C (evE cal (.op f (.cons ea (.cons eb .nil))))) :=
  n_op2 (fun ta tb h h' => PE.imp (pe_callBfun hc hg hm (pa_cons h (pa_cons h' pa_nil hs2) hs) hdb hs hpl) fun _ _ _ q => q) ok ha hb
theorem okMin2 {G : Gm} {f : Op} {p : Int → Int → Bool} {g : Int → Int → Int} (hf : ∀ x y, opF f [x, y] = minF p x y) (hg : ∀ i j, g i j = if p i j = true then j else i) : OpOk2 G f (fun x y H Q => ∃ i j, [x, y] = [V.int i, .int j] ∧ Q (.int (g i j)) H) := fun w m σ t1 t2 v1 v2 res Q S a b h k => by
  rw [hf] at h
  cases t1 <;> try (cases h; done)
  case int i =>
    cases t2 <;> try (cases h; done)
    case int j =>
      cases a.int; cases b.int
      cases h
      exact ⟨i, j, rfl, by rw [hg]; exact k.fz S (.int _)⟩
theorem x_min2 (c : XC C X k) {a b : Expr} {ea eb : E} (hm : Fr X "min") (ha : PE X a (rdE C (evE cal ea))) (hb : PE X b (rdE C (evE cal eb))) (hg : Gl X "min" := by rfl) (hs : starEach [a, b] X.env = (false, eval a X.env) :: starEach [b] X.env := by rfl) (hs2 : starEach [b] X.env = (false, eval b X.env) :: starEach [] X.env := by rfl)
    (hpl : (backTo pos (starEach [b] X.env)).any (·.1) = false := by rfl) : PE X (.Call (.Name "min" p1) [a, b] [] pos) (rdE C (evE cal (.op .min2 (.cons ea (.cons eb .nil))))) :=
  x_bi2 (call_min2 c.calm) (by rfl) (okMin2 (p := fun i j => decide (j < i)) (fun _ _ => rfl) fun i j => by by_cases h : j < i <;> simp [h]) hm hg (by decide) (by decide) hs hs2 hpl ha hb
theorem x_max2 (c : XC C X k) {a b : Expr} {ea eb : E} (hm : Fr X "max") (ha : PE X a (rdE C (evE cal ea))) (hb : PE X b (rdE C (evE cal eb))) (hg : Gl X "max" := by rfl) (hs : starEach [a, b] X.env = (false, eval a X.env) :: starEach [b] X.env := by rfl) (hs2 : starEach [b] X.env = (false, eval b X.env) :: starEach [] X.env := by rfl)
    (hpl : (backTo pos (starEach [b] X.env)).any (·.1) = false := by rfl) : PE X (.Call (.Name "max" p1) [a, b] [] pos) (rdE C (evE cal (.op .max2 (.cons ea (.cons eb .nil))))) :=
  x_bi2 (call_max2 c.calm) (by rfl) (okMin2 (p := fun i j => decide (j > i)) (fun _ _ => rfl) fun i j => by by_cases h : j > i <;> simp [h]) hm hg (by decide) (by decide) hs hs2 hpl ha hb
def rLcm : List V → Hp → VK → Prop := fun vs H Q => ∃ a b : Int, vs = [.int a, .int b] ∧ a.natAbs < 2 ^ 64 ∧ b.natAbs < 2 ^ 64 ∧ Q (.int ((Nat.lcm a.natAbs b.natAbs : Nat) : Int)) H
theorem cr_lcm : CallR X (.builtin "math.lcm") rLcm := by
  intro pins s σ H vs us Q I r h
  obtain ⟨a, b, rfl, h1, h2, q⟩ := h
  obtain ⟨t, u, rfl⟩ := Vals.int2 r
  exact PySem.W.mc_lcm h1 h2 fun _ => ⟨.int _, H, I.tok _, ⟨_, rfl⟩, q⟩
theorem okLcm {G : Gm} : OpOk2 G .lcm (fun x y H Q => rLcm [x, y] H Q) := fun w m σ t1 t2 v1 v2 res Q S a b h k => by
  replace h : lcmF t1 t2 = some res := h
  cases t1 <;> try (cases h; done)
  case int i =>
    cases t2 <;> try (cases h; done)
    case int j =>
      cases a.int; cases b.int
      simp only [lcmF] at h
      split at h
      · rename_i hl
        cases h
        refine ⟨i, j, rfl, by omega, by omega, ?_⟩
        rw [show i.natAbs = i.toNat by omega, show j.natAbs = j.toNat by omega]
        exact k.fz S (.int _)
      · cases h
theorem okGcd {G : Gm} : OpOk2 G .gcd (fun x y H Q => rGcd [x, y] H Q) := fun w m σ t1 t2 v1 v2 res Q S a b h k => by
  replace h : gcdF t1 t2 = some res := h
  cases t1 <;> try (cases h; done)
  case int i =>
    cases t2 <;> try (cases h; done)
    case int j =>
      cases a.int; cases b.int
      cases h
      exact ⟨i, j, rfl, k.fz S (.int _)⟩
theorem x_lcm {a b : Expr} {ea eb : E} (hm : X.mg "lcm" = some (.builtin "math.lcm")) (ha : PE X a (rdE C (evE cal ea))) (hb : PE X b (rdE C (evE cal eb))) (hg : Gl X "lcm" := by rfl) (hs : starEach [a, b] X.env = (false, eval a X.env) :: starEach [b] X.env := by rfl) (hs2 : starEach [b] X.env = (false, eval b X.env) :: starEach [] X.env := by rfl)
    (hpl : (backTo pos (starEach [b] X.env)).any (·.1) = false := by rfl) : PE X (.Call (.Name "lcm" p1) [a, b] [] pos) (rdE C (evE cal (.op .lcm (.cons ea (.cons eb .nil))))) := x_bf2 cr_lcm okLcm hm hg (by decide) hs hs2 hpl ha hb
theorem x_gcd {a b : Expr} {ea eb : E} (hm : X.mg "gcd" = some (.builtin "math.gcd")) (ha : PE X a (rdE C (evE cal ea))) (hb : PE X b (rdE C (evE cal eb))) (hg : Gl X "gcd" := by rfl) (hs : starEach [a, b] X.env = (false, eval a X.env) :: starEach [b] X.env := by rfl) (hs2 : starEach [b] X.env = (false, eval b X.env) :: starEach [] X.env := by rfl)
    (hpl : (backTo pos (starEach [b] X.env)).any (·.1) = false := by rfl) : PE X (.Call (.Name "gcd" p1) [a, b] [] pos) (rdE C (evE cal (.op .gcd (.cons ea (.cons eb .nil))))) := x_bf2 cr_gcd okGcd hm hg (by decide) hs hs2 hpl ha hb
/-! ### list(range(..)) -/
theorem rfs_rg {G : Gm} {w : Wd} (a b : Int) : RFs G w (Mi.rangeT a b) (rgV a b) := by
  unfold Mi.rangeT rgV
  generalize List.range (b - a).toNat = l
  induction l with
  | nil => exact .nil
  | cons i l ih => exact .cons (.int _) ih
theorem x_lr1 (c : XC C X k) {a : Expr} {ea : E} (hm : Fr X "list") (hm2 : Fr X "range") (ha : PE X a (rdE C (evE cal ea))) (hg : Gl X "list" := by rfl) (hg2 : Gl X "range" := by rfl) (hs : starEach [.Call (.Name "range" p2) [a] [] p1] X.env = (false, eval (.Call (.Name "range" p2) [a] [] p1) X.env) :: starEach [] X.env := by rfl)
    (hs2 : starEach [a] X.env = (false, eval a X.env) :: starEach [] X.env := by rfl) {p3 : Pos} : PE X (.Call (.Name "list" p3) [.Call (.Name "range" p2) [a] [] p1] [] pos) (rdE C (evE cal (.lr (.rng1 ea)))) :=
  PE.imp (pe_listRg c.calm hg hm (prg_1 hg2 hm2 (pe_opd ha) hs2) hs) fun σ H Q ⟨w, m, e, P, q⟩ => by
  rw [evE, Res.sat_bind, evSrc, Res.sat_bind] at q
  refine ⟨w, m, e, P, ?_⟩
  rw [opdF, Res.sat_bind]
  refine Res.sat_mono q fun r m1 q1 w1 v S1 x1 r1 => ?_
  cases hd : der m1 r.opd with
  | none => rw [hd] at q1; exact q1.elim
  | some t =>
    rw [hd] at q1
    cases t <;> try (exact q1.elim)
    case int j =>
      simp only at q1
      split at q1
      · rename_i hw
        have q1 : Res.sat (if (Mi.rangeT 0 j).length ≤ sizeLine then Res.ok (R.ow (.lst (Mi.rangeT 0 j))) m1 else .no) _ C.EM := q1
        split at q1
        · rename_i hl
          have hi := (S1.der r1 hd).int
          subst hi
          have hw' := of_decide_eq_true hw
          have hlen : (j - 0).toNat ≤ 2 ^ 24 := by
            have : (Mi.rangeT 0 j).length = (j - 0).toNat := by unfold Mi.rangeT; simp
            rw [this] at hl
            exact hl
          refine ⟨j, rfl, ⟨by decide, by decide, hw'.1, hw'.2, hlen⟩, fun p hp => ?_⟩
          exact After.new (o := .lst (Mi.rangeT 0 j)) (fun w' v S' x' r' => q1 w' v S' (x1.trans x') r') S1 hp (.lst upd_same (rfs_rg 0 j))
        · exact q1.elim
      · exact q1.elim
/-! ### the truth of an instance -/
theorem tru_own {f A : Addr} {fd : FuncData} {ps : List Str} {sp : Sp} (hm : Meth X.K A "__bool__" f) (F : FnOk X.prog X.w X.K X.mg X.base (L2.CX X.prog X.w) k f fd ps sp) (hr : Room k X.A) (hb : Binds X.K fd ps []) : TruR X (fun x H Q => rBoo A sp [x] H fun v H1 => ∃ z, v = .bl z ∧ Q z H1) := by
  intro pins s σ H x v Q I rx h
  obtain ⟨a, dx, fs, e, ea, q⟩ := h
  cases e
  have rx' := rx
  cases rx
  obtain ⟨mA, O, _⟩ := ins_get I.hok ea
  obtain ⟨od, J, _⟩ := O.look
  refine MiP.own_bool I.kIn J hm.at_ hm.fn (thn (run_fn (dvs := []) (ds := []) F hr hb .nil passEF I (.cons rx' .nil) (by rw [List.append_nil]; exact q)) fun r s' hh => ?_)
  obtain ⟨v', H', I', rv, b, e, b', e', q'⟩ := hh
  subst e
  cases e'
  cases rv
  exact ⟨b, rfl, H', I', q'⟩
theorem rd_boo {c f : Nat} {a : E} {σ : St} {H : Hp} {Q : VK} (q0 : rdE C (evE cal (.spc false c f a)) σ H Q) : rdD C (opdF (evE cal a)) σ H fun x H1 => rBoo (C.G.cls c) (spM C.G cal f) [x] H1 Q := by
  obtain ⟨w, m, e, P, q⟩ := q0
  rw [evE, Res.sat_bind] at q
  refine ⟨w, m, e, P, ?_⟩
  rw [opdF, Res.sat_bind]
  refine Res.sat_mono q fun ra m1 q1 w1 v1 S1 x1 r1 => ?_
  split at q1
  · rename_i c' fs hd
    split at q1
    · rename_i hcc
      subst hcc
      obtain ⟨p, dx, gs, rfl, h1, h2⟩ := (S1.der r1 hd).ins
      rw [Res.sat_bind] at q1
      refine ⟨p, dx, gs, rfl, h1, ?_⟩
      refine call_quiet (P.step S1 x1) (.cons r1 .nil) (Res.sat_mono q1 fun r m2 q2 w2 v2 S2 x2 r2 => ?_)
      cases r with
      | ow o => exact q2.elim
      | bo k => exact q2.elim
      | fz t =>
        cases t <;> try (exact q2.elim)
        case bl z =>
          cases r2
          exact ⟨z, rfl, q2 w2 _ S2 (x1.trans x2) (.bl _)⟩
    · exact q1.elim
  · exact q1.elim
theorem pe_notR {a : Expr} {ta : TE} {r : V → Hp → (Bool → Hp → Prop) → Prop} (ha : PE X a ta) (ht : TruR X r) : PE X (.UnaryOp .Not a pos) (fun σ H Q => ta σ H fun x H1 => r x H1 fun c H2 => Q (.bl (!c)) H2) := by
  refine ⟨fun pins s σ H Q I h => ?_⟩
  refine UnaryOp_ (thn (ha.run pins s σ H _ I h) fun v s1 ⟨x, H1, I1, r1, q1⟩ => ?_)
  exact not_of (thn (ht pins s1 σ H1 x v (fun c H2 => Q (.bl (!c)) H2) I1 r1 q1) fun c s2 ⟨H2, I2, q2⟩ => ⟨.bl (!c), H2, I2, rfl, q2⟩)
section
variable {tab : Nat → Option (He5.DefA × List Str)} {fx : List Fx} {gk : List (Str × T)} {cn : List Str}
theorem GQ.tru (c : XC C X k) (e : GX tab fx gk cn X k C.G cal) {cl f im : Nat} {nm : Str} {d : He5.DefA} {ps : List Str} (hcl : cn[cl]? = some nm) (him : fx[im]? = some (.meth nm "__bool__")) (ht : tab f = some (d, ps)) (hat : d.at_ = fun K => He.ma K (He.ga K nm) "__bool__") (b : Bnd d ps fx 1 []) :
    TruR X (fun x H Q => rBoo (C.G.cls cl) (spM C.G cal f) [x] H fun v H1 => ∃ z, v = .bl z ∧ Q z H1) := by
  obtain ⟨fd, dvs, ds, h1, h2, h3, ok⟩ := e.defA ht b
  cases h3 ⟨fun _ => True, fun _ => True, fun _ => none⟩
  cases h1
  have ha' : d.at_ X.K = He.ma X.K (He.ga X.K nm) "__bool__" := by rw [hat]
  rw [ha'] at ok
  exact tru_own (e.meth hcl him) ok c.low h2
/-- a test: an instance's truth -/
theorem q_truT (c : XC C X k) (e : GX tab fx gk cn X k C.G cal) {cl f im : Nat} {nm : Str} {d : He5.DefA} {ps : List Str} {o : Expr} {a : E} (hcl : cn[cl]? = some nm) (him : fx[im]? = some (.meth nm "__bool__")) (ht : tab f = some (d, ps)) (hat : d.at_ = fun K => He.ma K (He.ga K nm) "__bool__") (b : Bnd d ps fx 1 []) (ha : PE X o (rdE C (evE cal a)))
    (he : ∀ whole, isTrue o X.env whole = (do let v ← whole; standAt o.pos; holding [v] (truthy v)) := by intro _; rfl) : PT X o (rdB C (evE cal (.spc false cl f a))) :=
  PT.imp (pt_truthR (pe_opd ha) (e.tru c hcl him ht hat b) he) fun σ H Q q => rd_boo (rd_bool q)
/-- not e, e an instance -/
theorem q_notI (c : XC C X k) (e : GX tab fx gk cn X k C.G cal) {cl f im : Nat} {nm : Str} {d : He5.DefA} {ps : List Str} {o : Expr} {a : E} (hcl : cn[cl]? = some nm) (him : fx[im]? = some (.meth nm "__bool__")) (ht : tab f = some (d, ps)) (hat : d.at_ = fun K => He.ma K (He.ga K nm) "__bool__") (b : Bnd d ps fx 1 []) (ha : PE X o (rdE C (evE cal a))) :
    PE X (.UnaryOp .Not o pos) (rdE C (evE cal (.nt (.spc false cl f a)))) :=
  PE.imp (pe_notR (pe_opd ha) (e.tru c hcl him ht hat b)) fun σ H Q ⟨w, m, eH, P, q⟩ => by
  rw [evE, Res.sat_bind] at q
  have q' : rdE C (evE cal (.spc false cl f a)) σ H (fun v H1 => ∃ z, v = .bl z ∧ Q (.bl (!z)) H1) := ⟨w, m, eH, P, Res.sat_mono q fun r m1 q1 w1 v S1 x1 r1 => by
    split at q1
    · rename_i z
      cases r1
      exact ⟨z, rfl, q1 w1 _ S1 x1 (.bl _)⟩
    · exact q1.elim⟩
  exact rd_boo q'
end
/-! ### a method's call by keywords alone -/
theorem kbindsN {K : PySem.W.Frag} {x qual : Str} {params : Arguments} {body : List Stmt} {scope : Scope} {kws : List (Str × V)} {f : Addr} {fd : FuncData} {ps : List Str} (F : L2.FunD K x qual params body scope [] kws f fd) (n : Nat) (ks : List Str) (g : {α : Type} → List α → List α → List α)
    (hrel : ∀ {vs zs : List V} {us ws : List Value}, Vals vs us → Vals zs ws → Vals (g vs zs) (g us ws))
    (h : ∀ (kV doc pm : Value) (an : Option Addr) (cdv ct : Value) (us ws : List Value), us.length = n → ws.length = ks.length → bindArgs (PySem.W.fnOf x qual params body scope .none kV doc pm an cdv ct) ⟨us, ks.zip ws⟩ = pure (ps.zip (g us ws))) : KBn K fd ps n ks (fun us ws => g us ws) (fun vs zs => g vs zs) := by
  obtain ⟨oc, od, dV, kV, doc, pm, an, cdv, ct, osl, rfl, lk, hcd, hD, hK⟩ := F.ex
  rcases hD with ⟨_, rfl⟩ | ⟨e, _⟩
  · exact ⟨fun s us ws X l1 l2 => .of_eq (h kV doc pm an cdv ct us ws l1 l2), fun r1 r2 => hrel r1 r2⟩
  · exact absurd rfl e
theorem pe_methK0 {o : Expr} {kws : List Keyword} {apos : Pos} {pl : Sem Bool} {CX : CXT} {k : Nat} {A f : Addr} {fd : FuncData} {m : Str} {ps ks : List Str} {sp : Sp} {E : XK} {ta : TE} {tk : TA} {g : List Value → List Value → List Value} {gV : List V → List V → List V} (he : PE X o ta) (c : Cls X.K A) (hm : Meth X.K A m f) (F : FnOk X.prog X.w X.K X.mg X.base CX k f fd ps sp) (hr : Room k X.A) (hb : KBn X.K fd ps 1 ks g gV) (hx : Passes CX X E) (hkw : PK X kws tk)
    (hall : (backToKw pos (keywordEach kws X.env)).all (·.1.isSome) = true) (hks : (backToKw pos (keywordEach kws X.env)).filterMap (·.1) = ks)
    (hpl : ((backTo pos (starEach [] X.env)).any (·.1) || (backToKw pos (keywordEach kws X.env)).any (·.1.isNone)) = false)
    (ht : eval (.Call (.Attribute o m apos) [] kws pos) X.env = (do
      let ov ← eval o X.env
      standAt apos.atName
      let (f, first) ← holding [ov] (getMethod ov m pl)
      callWith pos f first (backTo pos (starEach [] X.env)) (backToKw pos (keywordEach kws X.env)))) :
    PE X (.Call (.Attribute o m apos) [] kws pos) (fun σ H Q => ta σ H fun x H1 => ∃ a dx fs, x = .ref a ∧ H1 a = some (.ins A dx fs) ∧ fs.lookup m = none ∧ tk σ H1 fun zs H2 => zs.length = ks.length ∧ sp (gV [.ref a] zs) H2 Q E) := by
  refine ⟨fun pins s σ H Q I h => ?_⟩
  refine PySem.W.methodCall_KW (pl := pl) (thn (he.run pins s σ H _ I h) fun u s1 ⟨x, H1, I1, rx, a, dx, fs, ex, ea, l, q⟩ => ?_) ht
  subst ex
  obtain rfl : u = Value.ref a := rx
  refine getmeth_ok I1 ea c hm l ?_
  refine PySem.W.callWith_KW0 (first := [.ref a]) (h₀ := X.base) I.ok.mod.kin hm.kp hall ?_ hpl
  refine thn (hkw.run pos pins s1 σ H1 _ I1 q) fun ws s2 ⟨zs, H2, I2, rz, l2, q2⟩ => ⟨I2.kIn, ?_⟩
  rw [hks]
  have r1 : Vals [V.ref a] [Value.ref a] := .cons rfl .nil
  have r2 := hb.rel r1 rz
  refine wpAny_call (codeAny_mono (F.run X.A X.stack s2 H2 ⟨[.ref a], ks.zip ws⟩ (g [.ref a] ws) (gV [.ref a] zs) Q E hr I2.env0 (hb.to s2 [.ref a] ws I2.kIn rfl (rz.length.symm.trans l2)) r2 q2) fun r s' hq => ?_)
  cases r with
  | error e => exact hx pins σ H2 s2 e s' I2 hq
  | ok fl =>
    cases fl with
    | ret u => exact I2.after hq
    | next => exact False.elim hq
    | brk => exact False.elim hq
    | cont => exact False.elim hq
section
variable {tab : Nat → Option (He5.DefA × List Str)} {fx : List Fx} {gk : List (Str × T)} {cn : List Str}
theorem q_methK (c : XC C X k) (e : GX tab fx gk cn X k C.G cal) {pl : Sem Bool} {apos : Pos} {cl f ic im : Nat} {nm m : Str} {d : He5.DefA} {ps ks : List Str} {o : Expr} {kws : List Keyword} {io : List Bool} {a : E} {es : Es} (hcl : cn[cl]? = some nm) (hic : fx[ic]? = some (.cls nm)) (him : fx[im]? = some (.meth nm m)) (ht : tab f = some (d, ps))
    (hat : d.at_ = fun K => He.ma K (He.ga K nm) m) (b : KBnd d ps ks []) (hlen : es.len = ks.length) (ha : PE X o (rdE C (evE cal a))) (h : PK X kws (rdDs C (evDs cal es)))
    (hall : (backToKw pos (keywordEach kws X.env)).all (·.1.isSome) = true := by rfl) (hks : (backToKw pos (keywordEach kws X.env)).filterMap (·.1) = ks := by rfl)
    (hpl : ((backTo pos (starEach [] X.env)).any (·.1) || (backToKw pos (keywordEach kws X.env)).any (·.1.isNone)) = false := by rfl)
    (he : eval (.Call (.Attribute o m apos) [] kws pos) X.env = (do
      let ov ← eval o X.env
      standAt apos.atName
      let (f, first) ← holding [ov] (getMethod ov m pl)
      callWith pos f first (backTo pos (starEach [] X.env)) (backToKw pos (keywordEach kws X.env))) := by rfl) :
    PE X (.Call (.Attribute o m apos) [] kws pos) (rdE C (evE cal (.meth cl f m io a es))) := by
  obtain ⟨fd, F, ok⟩ := e.fns f d ps ht
  replace ok := ok.imp (sp' := spM C.G cal f) fun vs H Q E h => ⟨fun z => (by rw [b.nc] at z; cases z), h⟩
  obtain ⟨g, gV, kb, hg2⟩ := b.b F
  have ha' : d.at_ X.K = He.ma X.K (He.ga X.K nm) m := by rw [hat]
  rw [ha'] at ok
  refine PE.imp (pe_methK0 (pl := pl) (pe_opd ha) (e.clsA hcl hic).cl (e.meth hcl him) ok c.low kb passEF h hall hks hpl he) fun σ H Q ⟨w, m, eH, P, q⟩ => ?_
  rw [evE, Res.sat_bind] at q
  refine ⟨w, m, eH, P, ?_⟩
  rw [opdF, Res.sat_bind]
  refine Res.sat_mono q fun r m1 q1 w1 v S1 x1 r1 => ?_
  split at q1
  · rename_i c' fs hd
    split at q1
    · rename_i hcc
      obtain ⟨rfl, hl⟩ := hcc
      obtain ⟨p, dx, gs, rfl, h1, h2⟩ := (S1.der r1 hd).ins
      refine ⟨p, dx, gs, rfl, h1, h2.lookN hl, ?_⟩
      rw [Res.sat_bind] at q1
      refine ⟨w1, m1, rfl, P.step S1 x1, ?_⟩
      cases hds : evDs cal es m1 with
      | no => rw [hds] at q1; exact q1.elim
      | ex x m2 => rw [hds] at q1; exact q1
      | ok ds m2 =>
        rw [hds] at q1
        intro w2 vs S2 x2 r2
        have hl' : vs.length = ks.length := by rw [← r2.len, evDs_len es m1 ds m2 hds, hlen]
        refine ⟨hl', ?_⟩
        rw [hg2 _ _ hl']
        exact call_quiet ((P.step S1 x1).step S2 x2) (.cons (r1.mono x2.mo) r2) (Res.sat_mono q1 fun r m3 k w' v S' x' rr => k w' v S' (x1.trans (x2.trans x')) rr)
    · exact q1.elim
  · exact q1.elim
end
end
end Mi
set_option maxHeartbeats 1000000
namespace Mi
open PySem PySem.Spec PyProof.Rows L2

section
variable {C : Ct} {X : Cx} {k L : Nat} {cal : Nat → List Slot → CRes} {pos apos p1 p2 : Pos}
/-! ### classmethods: C.m() -/
theorem pe_cmeth0 {CX : CXT} {k : Nat} {A p g : Addr} {mc : Value} {sp : Sp} {E : XK} {o : Expr} {m : Str} {ta : TE} {pl : Sem Bool} (he : PE X o ta) (r : ClX.CRead X.K A mc) (c : ClX.CMet X.K A mc m p g) (F : FnR X.prog X.w X.K X.mg X.base CX k g sp) (hr : Room k X.A) (hx : Passes CX X E)
    (ht : eval (.Call (.Attribute o m apos) [] [] pos) X.env = (do
      let ov ← eval o X.env
      standAt apos.atName
      let (f, first) ← holding [ov] (getMethod ov m pl)
      callWith pos f first (backTo pos (starEach [] X.env)) (backToKw pos (keywordEach [] X.env)))) :
    PE X (.Call (.Attribute o m apos) [] [] pos) (fun σ H Q => ta σ H fun x H1 => x = .ref A ∧ sp [.ref A] H1 Q E) := by
  refine ⟨fun pins s σ H Q I h => ?_⟩
  refine PySem.W.methodCall_KW (pl := pl) (thn (he.run pins s σ H _ I h) fun u s1 ⟨x, H1, I1, rx, ex, q⟩ => ?_) ht
  subst ex
  obtain rfl : u = Value.ref A := rx
  refine ClX.getmethcm_ok I1 r c fun s2 I2 => ?_
  exact PySem.W.callWith_M0 ⟨ClX.pin_at I2, I2.kIn⟩ c.fi (ClX.run_cm F hr hx I2 .nil q)
/-- a def bound by position alone -/
structure BndC (d : He5.DefA) (ps : List Str) : Prop where
  b : ∀ {K : PySem.W.Frag} {f : Addr} {fd : FuncData}, L2.FunD K d.name d.qual d.params d.body d.scope (d.dvs K) (d.kws K) f fd → Binds K fd ps []
theorem bndC {d : He5.DefA} {ps : List Str} (hd : d.dfl = []) (h : ∀ (kV doc pm : Value) (an : Option Addr) (cdv ct : Value) (us : List Value), us.length = ps.length → bindArgs (PySem.W.fnOf d.name d.qual d.params d.body d.scope .none kV doc pm an cdv ct) ⟨us, []⟩ = pure (ps.zip us)) : BndC d ps := ⟨fun {K f fd} F => by
  have e : d.dvs K = [] := by unfold He5.DefA.dvs; rw [hd]; rfl
  rw [e] at F
  exact F.bindsN h⟩
section
variable {tab : Nat → Option (He5.DefA × List Str)} {fx : List Fx} {gk : List (Str × T)} {cn : List Str}
theorem q_cm0 (c : XC C X k) (e : GX tab fx gk cn X k C.G cal) {pl : Sem Bool} {cl f ig ic im : Nat} {nm m : Str} {d : He5.DefA} {ps : List Str} (hcl : cn[cl]? = some nm) (hig : fx[ig]? = some (.glo nm)) (hic : fx[ic]? = some (.crd nm)) (him : fx[im]? = some (.cmet nm m)) (ht : tab f = some (d, ps))
    (hat : d.at_ = fun K => He5.wf K (He.ga K nm) "classmethod" m) (hq : qcls d.qual = nm) (b : BndC d ps) (hg : Gl X nm := by rfl) (hdb : (nm == ("__debug__" : Str)) = false := by decide)
    (he : eval (.Call (.Attribute (.Name nm p1) m apos) [] [] pos) X.env = (do
      let ov ← eval (.Name nm p1) X.env
      standAt apos.atName
      let (f, first) ← holding [ov] (getMethod ov m pl)
      callWith pos f first (backTo pos (starEach [] X.env)) (backToKw pos (keywordEach [] X.env))) := by rfl) :
    PE X (.Call (.Attribute (.Name nm p1) m apos) [] [] pos) (rdE C (evE cal (.ccm f))) := by
  obtain ⟨fd, F, ok⟩ := e.fns f d ps ht
  have ha' : d.at_ X.K = He5.wf X.K (He.ga X.K nm) "classmethod" m := by rw [hat]
  have hb := b.b F
  rw [ha'] at ok
  refine PE.imp (pe_cmeth0 (pl := pl) (pe_glob (v := .ref (He.ga X.K nm)) hg (e.glo ig nm hig) rfl hdb) (Fx.crdT (e.fxs ic _ hic)) (Fx.cmetT (e.fxs im _ him)) (ok.raw hb .nil) c.low passEF he) fun σ H Q ⟨w, mm, eH, P, q⟩ => ?_
  rw [evE] at q
  subst eH
  refine ⟨rfl, ⟨fun _ => by rw [hq, c.K]; rfl, ?_⟩⟩
  have pq : PQ C.G w mm σ [.no] [V.ref (He.ga X.K nm)] := ⟨rfl, fun k s h => by
    cases k with
    | zero => cases h; trivial
    | succ k => simp at h, fun k l o o' a h => by
    cases k with
    | zero => cases h
    | succ k => simp at h, fun k o a h => by
    cases k with
    | zero => cases h
    | succ k => simp at h⟩
  refine ⟨callW w [.no] [V.ref (He.ga X.K nm)], [.no], rfl, pq.call P.sr, ?_⟩
  cases hc : cal f [.no] with
  | no => rw [hc] at q; exact q.elim
  | ex x outs => rw [hc] at q; exact q.elim
  | ok r outs =>
    rw [hc] at q
    intro w' v S' x' rr
    have S3 := call_back pq P.sr x' S'
    have x3 := call_ex pq x'
    have same : Mo w' (backW w w' [.no] [V.ref (He.ga X.K nm)]) := mo_same rfl rfl
    cases r with
    | bo i => exact q.elim
    | fz t => exact q (backW w w' [.no] [V.ref (He.ga X.K nm)]) v S3 x3 (RF.mono same rr)
    | ow o =>
      obtain ⟨p, rfl, ro, l, n⟩ := rr
      exact q (backW w w' [.no] [V.ref (He.ga X.K nm)]) (.ref p) S3 x3 ⟨p, rfl, ro.mono same rfl, .inr l, call_off pq P.sr x' l⟩
/-! ### cls(..) in a classmethod -/
theorem pe_makeV {CX : CXT} {k i : Nat} {A f : Addr} {fd : FuncData} {ps : List Str} {ds : List Value} {dvs : List V} {sp : Sp} {E : XK} {x : Str} {e : Expr} {es : List Expr} {t : TA} (M : Mk X.K A f) (F : FnOk X.prog X.w X.K X.mg X.base CX k f fd ps sp) (hr : Room (k + 1) X.A) (hN : X.N[i]? = some x) (hv : Vis X.env.scope x) (hb : Binds X.K fd ps ds) (hd : Vals dvs ds) (hx : Passes CX X E)
    (ha : PA X (e :: es) t) (hdb : (x == ("__debug__" : Str)) = false) (hcd : (x == ("__classdict__" : Str)) = false) (he : starEach (e :: es) X.env = (false, eval e X.env) :: starEach es X.env) (hpl : (backTo pos (starEach es X.env)).any (·.1) = false) :
    PE X (.Call (.Name x p1) (e :: es) [] pos) (fun σ H Q => σ[i]? = some (some (.ref A)) ∧ tMake A sp dvs E t σ H Q) := by
  refine ⟨fun pins s σ H Q I h => ?_⟩
  obtain ⟨hs, h⟩ := h
  refine wpAny_Call_Name_kw (thn ((pe_var (pos := p1) (i := i) hN hv hdb hcd).run pins s σ H (fun v H1 => v = .ref A ∧ H1 = H) I ⟨.ref A, hs, rfl, rfl⟩) fun u s1 ⟨v, H1, I1, r1, ev, eH⟩ => ?_)
  subst ev
  rw [eH] at I1
  cases r1
  refine PySem.W.callWith_K (h₀ := X.base) I.ok.mod.kin M.kp (thn (ha.run pos pins s1 σ H _ I1 h) fun us s2 ⟨vs, H2, I2, r, q⟩ => ⟨I2.kIn, ?_⟩) he hpl
  exact run_make M F hr hb hd hx I2 r q
theorem q_mkV (c : XC C X k) (e : GX tab fx gk cn X k C.G cal) {cl f n im : Nat} {nm x : Str} {d : He5.DefA} {ps : List Str} {dts : List T} {e1 : Expr} {es1 : List Expr} {es : Es} (hf0 : C.fx 0 = true) (hs0 : C.s0[0]? = some (some (.ref (C.G.cls cl)))) (hcl : cn[cl]? = some nm) (him : fx[im]? = some (.mkr nm)) (ht : tab f = some (d, ps))
    (hat : d.at_ = fun K => He.ma K (He.ga K nm) "__init__") (b : Bnd d ps fx n dts) (h : PA X (e1 :: es1) (rdDs C (evDs cal es))) (hN : X.N[0]? = some x := by rfl) (hv : Vis X.env.scope x := by first | exact Or.inl rfl | exact Or.inr rfl | decide) (hdb : (x == ("__debug__" : Str)) = false := by decide) (hcd : (x == ("__classdict__" : Str)) = false := by decide)
    (he : starEach (e1 :: es1) X.env = (false, eval e1 X.env) :: starEach es1 X.env := by rfl) (hpl : (backTo pos (starEach es1 X.env)).any (·.1) = false := by rfl) :
    PE X (.Call (.Name x p1) (e1 :: es1) [] pos) (rdE C (evE cal (.mk cl f [] (es.app (Es.cs dts))))) := by
  obtain ⟨fd, dvs, ds, h1, h2, h3, ok⟩ := e.defA ht b
  have ha' : d.at_ X.K = He.ma X.K (He.ga X.K nm) "__init__" := by rw [hat]
  rw [ha'] at ok
  have key := pe_makeV (p1 := p1) (pos := pos) (i := 0) (e.mkr hcl him) ok c.room hN hv h2 h1 passEF h hdb hcd he hpl
  refine PE.imp key fun σ H Q q => ⟨?_, rd_mkD h3 q⟩
  obtain ⟨w, m, eH, P, q⟩ := q
  rw [P.fix 0 hf0]
  exact hs0
end
end
end Mi
set_option maxHeartbeats 1000000
namespace Mi
open PySem PySem.Spec PyProof.Rows L2

/-! ### wishes: the evaluator, forward -/
@[irreducible] def wE (cal : Nat → List Slot → CRes) (e : E) (m : List Slot) (Q : R → List Slot → Prop) : Prop := ∃ r m', evE cal e m = .ok r m' ∧ Q r m'
@[irreducible] def wD (cal : Nat → List Slot → CRes) (es : Es) (m : List Slot) (Q : List Opd → List Slot → Prop) : Prop := ∃ r m', evDs cal es m = .ok r m' ∧ Q r m'
@[irreducible] def wS (cal : Nat → List Slot → CRes) (s : Src) (m : List Slot) (Q : List T → List Slot → Prop) : Prop := ∃ r m', evSrc cal s m = .ok r m' ∧ Q r m'
@[irreducible] def wA (cal : Nat → List Slot → CRes) (es : Es) (m : List Slot) (Q : R → List Slot → Prop) : Prop := ∃ r m', evAll cal es m = .ok r m' ∧ Q r m'
structure En where
  nx : List Slot → Prop
  rt : R → List Slot → Prop
  bk : List Slot → Prop
  ct : List Slot → Prop
abbrev En.seq (D : En) (f : List Slot → Prop) : En := ⟨f, D.rt, D.bk, D.ct⟩
def Fl.sat (D : En) : Fl → Prop
  | .nx m => D.nx m
  | .rt r m => D.rt r m
  | .bk m => D.bk m
  | .ct m => D.ct m
  | _ => False
@[irreducible] def wT (cal : Nat → List Slot → CRes) (L : Nat) (s : S) (m : List Slot) (D : En) : Prop := (evS cal L s m).sat D
@[irreducible] def wB (cal : Nat → List Slot → CRes) (L : Nat) (s : Ss) (m : List Slot) (D : En) : Prop := (evSs cal L s m).sat D
@[irreducible] def wC (cal : Nat → List Slot → CRes) (f : Nat) (args : List Slot) (Q : R → List Slot → Prop) : Prop := ∃ r outs, cal f args = .ok r outs ∧ (∀ i, r ≠ .bo i) ∧ Q r outs
/-- an operation on values -/
@[irreducible] def wO (f : Op) (ts : List T) (Q : R → Prop) : Prop := ∃ r, opF f ts = some r ∧ Q r
theorem Fl.sat_mono {D D' : En} {f : Fl} (h : f.sat D) (h1 : ∀ m, D.nx m → D'.nx m) (h2 : ∀ r m, D.rt r m → D'.rt r m) (h3 : ∀ m, D.bk m → D'.bk m) (h4 : ∀ m, D.ct m → D'.ct m) : f.sat D' := by
  cases f with
  | nx m => exact h1 _ h
  | rt r m => exact h2 _ _ h
  | bk m => exact h3 _ h
  | ct m => exact h4 _ h
  | ex x m => exact h
  | no => exact h
section
variable {cal : Nat → List Slot → CRes} {L : Nat} {m : List Slot} {Q : R → List Slot → Prop} {D : En}
theorem wE.mono {e : E} {Q' : R → List Slot → Prop} (h : wE cal e m Q) (k : ∀ r m, Q r m → Q' r m) : wE cal e m Q' := by
  (try unfold wE at *); (try unfold wD at *); (try unfold wS at *); (try unfold wA at *); (try unfold wT at *); (try unfold wB at *); (try unfold wC at *); (try unfold wO at *); (try unfold wJ at *); (try unfold wX at *)
  obtain ⟨r, m', e1, q⟩ := h
  exact ⟨r, m', e1, k _ _ q⟩
theorem wE.of {e : E} {r : R} {m' : List Slot} (h : evE cal e m = .ok r m') (q : Q r m') : wE cal e m Q := by (try unfold wE at *); (try unfold wD at *); (try unfold wS at *); (try unfold wA at *); (try unfold wT at *); (try unfold wB at *); (try unfold wC at *); (try unfold wO at *); (try unfold wJ at *); (try unfold wX at *); exact ⟨r, m', h, q⟩
theorem wC.of {f : Nat} {args outs : List Slot} {r : R} (h : cal f args = .ok r outs) (nb : ∀ i, r ≠ .bo i) (q : Q r outs) : wC cal f args Q := by (try unfold wE at *); (try unfold wD at *); (try unfold wS at *); (try unfold wA at *); (try unfold wT at *); (try unfold wB at *); (try unfold wC at *); (try unfold wO at *); (try unfold wJ at *); (try unfold wX at *); exact ⟨r, outs, h, nb, q⟩
theorem wC.fz {f : Nat} {args outs : List Slot} {t : T} (h : cal f args = .ok (.fz t) outs) (q : Q (.fz t) outs) : wC cal f args Q := by (try unfold wE at *); (try unfold wD at *); (try unfold wS at *); (try unfold wA at *); (try unfold wT at *); (try unfold wB at *); (try unfold wC at *); (try unfold wO at *); (try unfold wJ at *); (try unfold wX at *); exact ⟨_, outs, h, (fun _ z => nomatch z), q⟩
theorem wC.ow {f : Nat} {args outs : List Slot} {o : O} (h : cal f args = .ok (.ow o) outs) (q : Q (.ow o) outs) : wC cal f args Q := by (try unfold wE at *); (try unfold wD at *); (try unfold wS at *); (try unfold wA at *); (try unfold wT at *); (try unfold wB at *); (try unfold wC at *); (try unfold wO at *); (try unfold wJ at *); (try unfold wX at *); exact ⟨_, outs, h, (fun _ z => nomatch z), q⟩
theorem wC.mono {f : Nat} {args : List Slot} {Q' : R → List Slot → Prop} (h : wC cal f args Q) (k : ∀ r m, Q r m → Q' r m) : wC cal f args Q' := by
  (try unfold wE at *); (try unfold wD at *); (try unfold wS at *); (try unfold wA at *); (try unfold wT at *); (try unfold wB at *); (try unfold wC at *); (try unfold wO at *); (try unfold wJ at *); (try unfold wX at *)
  obtain ⟨r, m', e1, n, q⟩ := h
  exact ⟨r, m', e1, n, k _ _ q⟩
/-- told by an equation -/
theorem wC.eq_fz {f : Nat} {args : List Slot} {t : T} {outs : List Slot} (h : wC cal f args fun r o => r = .fz t ∧ o = outs) : cal f args = .ok (.fz t) outs := by
  (try unfold wE at *); (try unfold wD at *); (try unfold wS at *); (try unfold wA at *); (try unfold wT at *); (try unfold wB at *); (try unfold wC at *); (try unfold wO at *); (try unfold wJ at *); (try unfold wX at *)
  obtain ⟨r, o, e, _, rfl, rfl⟩ := h
  exact e
theorem wC.eq_ow {f : Nat} {args : List Slot} {t : O} {outs : List Slot} (h : wC cal f args fun r o => r = .ow t ∧ o = outs) : cal f args = .ok (.ow t) outs := by
  (try unfold wE at *); (try unfold wD at *); (try unfold wS at *); (try unfold wA at *); (try unfold wT at *); (try unfold wB at *); (try unfold wC at *); (try unfold wO at *); (try unfold wJ at *); (try unfold wX at *)
  obtain ⟨r, o, e, _, rfl, rfl⟩ := h
  exact e
theorem wO.of {f : Op} {ts : List T} {P : R → Prop} {r : R} (h : opF f ts = some r) (q : P r) : wO f ts P := by (try unfold wE at *); (try unfold wD at *); (try unfold wS at *); (try unfold wA at *); (try unfold wT at *); (try unfold wB at *); (try unfold wC at *); (try unfold wO at *); (try unfold wJ at *); (try unfold wX at *); exact ⟨r, h, q⟩
theorem wO.ff {f : Op} {ts : List T} {P : R → Prop} {t : T} (h : opF f ts = some (.fz t)) (q : P (.fz t)) : wO f ts P := by (try unfold wE at *); (try unfold wD at *); (try unfold wS at *); (try unfold wA at *); (try unfold wT at *); (try unfold wB at *); (try unfold wC at *); (try unfold wO at *); (try unfold wJ at *); (try unfold wX at *); exact ⟨_, h, q⟩
theorem wif0 {k : Bool} {A B : Prop} (h : k = false) (b : B) : (k = true → A) ∧ (k = false → B) := ⟨fun z => (by rw [h] at z; cases z), fun _ => b⟩
theorem wif1 {k : Bool} {A B : Prop} (h : k = true) (a : A) : (k = true → A) ∧ (k = false → B) := ⟨fun _ => a, fun z => (by rw [h] at z; cases z)⟩
theorem orif0 {k : Bool} {A B : Prop} (h : k = false) (b : B) : (k = true → A) ∧ (k = false → B) := wif0 h b
/-! expressions -/
theorem wp_c {t : T} (q : Q (.fz t) m) : wE cal (.c t) m Q := by (try unfold wE at *); (try unfold wD at *); (try unfold wS at *); (try unfold wA at *); (try unfold wT at *); (try unfold wB at *); (try unfold wC at *); (try unfold wO at *); (try unfold wJ at *); (try unfold wX at *); exact ⟨_, _, ev_c, q⟩
theorem wp_var {i : Nat} {t : T} (h : m[i]? = some (.fz t)) (q : Q (.fz t) m) : wE cal (.var i) m Q := by (try unfold wE at *); (try unfold wD at *); (try unfold wS at *); (try unfold wA at *); (try unfold wT at *); (try unfold wB at *); (try unfold wC at *); (try unfold wO at *); (try unfold wJ at *); (try unfold wX at *); exact ⟨_, _, ev_var h, q⟩
theorem wp_bo {i : Nat} {o : O} (h : m[i]? = some (.ow o)) (q : Q (.bo i) m) : wE cal (.var i) m Q := by (try unfold wE at *); (try unfold wD at *); (try unfold wS at *); (try unfold wA at *); (try unfold wT at *); (try unfold wB at *); (try unfold wC at *); (try unfold wO at *); (try unfold wJ at *); (try unfold wX at *); exact ⟨_, _, (by rw [evE, h]), q⟩
theorem dp_nil {Q : List Opd → List Slot → Prop} (q : Q [] m) : wD cal .nil m Q := by (try unfold wE at *); (try unfold wD at *); (try unfold wS at *); (try unfold wA at *); (try unfold wT at *); (try unfold wB at *); (try unfold wC at *); (try unfold wO at *); (try unfold wJ at *); (try unfold wX at *); exact ⟨_, _, ds_nil, q⟩
theorem dp_cons {e : E} {r : Es} {Q : List Opd → List Slot → Prop} (h : wE cal e m fun x m1 => wD cal r m1 fun xs m2 => Q (x.opd :: xs) m2) : wD cal (.cons e r) m Q := by
  (try unfold wE at *); (try unfold wD at *); (try unfold wS at *); (try unfold wA at *); (try unfold wT at *); (try unfold wB at *); (try unfold wC at *); (try unfold wO at *); (try unfold wJ at *); (try unfold wX at *)
  obtain ⟨x, m1, h1, xs, m2, h2, q⟩ := h
  exact ⟨_, _, (by rw [evDs, h1]; simp only [Res.bind, h2]), q⟩
theorem wp_op {f : Op} {es : Es} (h : wD cal es m fun ds m1 => ∃ ts, ders m1 ds = some ts ∧ wO f ts fun r => Q r m1) : wE cal (.op f es) m Q := by
  (try unfold wE at *); (try unfold wD at *); (try unfold wS at *); (try unfold wA at *); (try unfold wT at *); (try unfold wB at *); (try unfold wC at *); (try unfold wO at *); (try unfold wJ at *); (try unfold wX at *)
  obtain ⟨ds, m1, h1, ts, h2, r, h3, q⟩ := h
  exact ⟨_, _, (by rw [evE, h1]; simp only [Res.bind, opR, h2, h3]), q⟩
theorem wp_lst {es : Es} (h : wD cal es m fun ds m1 => ∃ ts m2, escs m1 ds = some (ts, m2) ∧ Nat.ble ts.length sizeLine = true ∧ Q (.ow (.lst ts)) m2) : wE cal (.lst es) m Q := by
  (try unfold wE at *); (try unfold wD at *); (try unfold wS at *); (try unfold wA at *); (try unfold wT at *); (try unfold wB at *); (try unfold wC at *); (try unfold wO at *); (try unfold wJ at *); (try unfold wX at *)
  obtain ⟨ds, m1, h1, ts, m2, h2, h3, q⟩ := h
  exact ⟨_, _, (by rw [evE, h1]; simp only [Res.bind, h2, if_pos (Nat.le_of_ble_eq_true h3)]), q⟩
theorem wp_tup {es : Es} (h : wD cal es m fun ds m1 => ∃ ts m2, escs m1 ds = some (ts, m2) ∧ Nat.ble ts.length sizeLine = true ∧ Q (.fz (.tup ts)) m2) : wE cal (.tup es) m Q := by
  (try unfold wE at *); (try unfold wD at *); (try unfold wS at *); (try unfold wA at *); (try unfold wT at *); (try unfold wB at *); (try unfold wC at *); (try unfold wO at *); (try unfold wJ at *); (try unfold wX at *)
  obtain ⟨ds, m1, h1, ts, m2, h2, h3, q⟩ := h
  exact ⟨_, _, (by rw [evE, h1]; simp only [Res.bind, h2, if_pos (Nat.le_of_ble_eq_true h3)]), q⟩
theorem wp_dic0 (q : Q (.ow (.dic [])) m) : wE cal .dic0 m Q := by (try unfold wE at *); (try unfold wD at *); (try unfold wS at *); (try unfold wA at *); (try unfold wT at *); (try unfold wB at *); (try unfold wC at *); (try unfold wO at *); (try unfold wJ at *); (try unfold wX at *); exact ⟨_, _, (by rw [evE]), q⟩
theorem wp_dsc {kvs : List (Key × T)} (h : (kvs.all fun kv => flatT kv.2) = true) (hl : Nat.ble kvs.length 15 = true) (q : Q (.ow (.dic (putsT [] kvs))) m) : wE cal (.dsc kvs) m Q := by
  unfold wE
  exact ⟨_, _, (by rw [evE, if_pos ⟨h, Nat.le_of_ble_eq_true hl⟩]), q⟩
theorem wp_dgt {a b c : E} (h : wE cal a m fun ra m1 => ∃ l, der m1 ra.opd = some (.dic l) ∧ wE cal b m1 fun rb m2 => wE cal c m2 fun rc m3 => ∃ kvs k x q, der m3 ra.opd = some (.dic kvs) ∧ der m3 rb.opd = some k ∧ der m3 rc.opd = some x ∧ flatT x = true ∧ keyT k = some q ∧ Q (.fz ((valT kvs q).getD x)) m3) : wE cal (.dgt a b c) m Q := by
  unfold wE at *
  obtain ⟨ra, m1, h1, l, h2, h⟩ := h
  obtain ⟨rb, m2, h3, h⟩ := h
  obtain ⟨rc, m3, h4, kvs, k, x, q, h5, h6, h7, h8, h9, h⟩ := h
  refine ⟨_, _, ?_, h⟩
  rw [evE, h1]
  simp only [Res.bind, h2]
  rw [h3]
  simp only
  rw [h4]
  simp only [h5, h6, h7, h8, h9, if_true]
/-- and, or: by the left one's outcome -/
theorem wp_an {a b : E} (h : wE cal a m fun r m1 => ∃ k, r = .fz (.bl k) ∧ (k = true → wE cal b m1 Q) ∧ (k = false → Q (.fz (.bl false)) m1)) : wE cal (.an a b) m Q := by
  (try unfold wE at *); (try unfold wD at *); (try unfold wS at *); (try unfold wA at *); (try unfold wT at *); (try unfold wB at *); (try unfold wC at *); (try unfold wO at *); (try unfold wJ at *); (try unfold wX at *)
  obtain ⟨r, m1, h1, k, rfl, q1, q2⟩ := h
  cases k with
  | true =>
    obtain ⟨r, m2, h2, q⟩ := q1 rfl
    exact ⟨_, _, (ev_an1 h1).trans h2, q⟩
  | false => exact ⟨_, _, ev_an0 h1, q2 rfl⟩
theorem wp_or {a b : E} (h : wE cal a m fun r m1 => ∃ k, r = .fz (.bl k) ∧ (k = true → Q (.fz (.bl true)) m1) ∧ (k = false → wE cal b m1 Q)) : wE cal (.or a b) m Q := by
  (try unfold wE at *); (try unfold wD at *); (try unfold wS at *); (try unfold wA at *); (try unfold wT at *); (try unfold wB at *); (try unfold wC at *); (try unfold wO at *); (try unfold wJ at *); (try unfold wX at *)
  obtain ⟨r, m1, h1, k, rfl, q1, q2⟩ := h
  cases k with
  | true => exact ⟨_, _, ev_or1 h1, q1 rfl⟩
  | false =>
    obtain ⟨r, m2, h2, q⟩ := q2 rfl
    exact ⟨_, _, (ev_or0 h1).trans h2, q⟩
theorem wp_an1 {a b : E} (h : wE cal a m fun r m1 => r = .fz (.bl true) ∧ wE cal b m1 Q) : wE cal (.an a b) m Q := by
  (try unfold wE at *); (try unfold wD at *); (try unfold wS at *); (try unfold wA at *); (try unfold wT at *); (try unfold wB at *); (try unfold wC at *); (try unfold wO at *); (try unfold wJ at *); (try unfold wX at *)
  obtain ⟨r, m1, h1, rfl, r, m2, h2, q⟩ := h
  exact ⟨_, _, (ev_an1 h1).trans h2, q⟩
theorem wp_or0 {a b : E} (h : wE cal a m fun r m1 => r = .fz (.bl false) ∧ wE cal b m1 Q) : wE cal (.or a b) m Q := by
  (try unfold wE at *); (try unfold wD at *); (try unfold wS at *); (try unfold wA at *); (try unfold wT at *); (try unfold wB at *); (try unfold wC at *); (try unfold wO at *); (try unfold wJ at *); (try unfold wX at *)
  obtain ⟨r, m1, h1, rfl, r, m2, h2, q⟩ := h
  exact ⟨_, _, (ev_or0 h1).trans h2, q⟩
/-- both look only: the outcome as one -/
theorem wp_anB {a b : E} (h : wE cal a m fun r m1 => ∃ k, r = .fz (.bl k) ∧ ∃ k2, (k = true → wE cal b m1 fun r2 m2 => r2 = .fz (.bl k2) ∧ m2 = m1) ∧ Q (.fz (.bl (k && k2))) m1) : wE cal (.an a b) m Q := by
  (try unfold wE at *); (try unfold wD at *); (try unfold wS at *); (try unfold wA at *); (try unfold wT at *); (try unfold wB at *); (try unfold wC at *); (try unfold wO at *); (try unfold wJ at *); (try unfold wX at *)
  obtain ⟨r, m1, h1, k, rfl, k2, q1, q2⟩ := h
  cases k with
  | true =>
    obtain ⟨r, m2, h2, rfl, rfl⟩ := q1 rfl
    exact ⟨_, _, (ev_an1 h1).trans h2, by simpa using q2⟩
  | false => exact ⟨_, _, ev_an0 h1, by simpa using q2⟩
theorem wp_orB {a b : E} (h : wE cal a m fun r m1 => ∃ k, r = .fz (.bl k) ∧ ∃ k2, (k = false → wE cal b m1 fun r2 m2 => r2 = .fz (.bl k2) ∧ m2 = m1) ∧ Q (.fz (.bl (k || k2))) m1) : wE cal (.or a b) m Q := by
  (try unfold wE at *); (try unfold wD at *); (try unfold wS at *); (try unfold wA at *); (try unfold wT at *); (try unfold wB at *); (try unfold wC at *); (try unfold wO at *); (try unfold wJ at *); (try unfold wX at *)
  obtain ⟨r, m1, h1, k, rfl, k2, q1, q2⟩ := h
  cases k with
  | false =>
    obtain ⟨r, m2, h2, rfl, rfl⟩ := q1 rfl
    exact ⟨_, _, (ev_or0 h1).trans h2, by simpa using q2⟩
  | true => exact ⟨_, _, ev_or1 h1, by simpa using q2⟩
/-- both in one line: the right one is asked in any case -/
theorem wp_anP {a b : E} (h : wE cal a m fun r m1 => ∃ k, r = .fz (.bl k) ∧ wE cal b m1 fun r2 m2 => ∃ k2, r2 = .fz (.bl k2) ∧ m2 = m1 ∧ Q (.fz (.bl (k && k2))) m1) : wE cal (.an a b) m Q := by
  (try unfold wE at *); (try unfold wD at *); (try unfold wS at *); (try unfold wA at *); (try unfold wT at *); (try unfold wB at *); (try unfold wC at *); (try unfold wO at *); (try unfold wJ at *); (try unfold wX at *)
  obtain ⟨r, m1, h1, k, rfl, r2, m2, h2, k2, rfl, rfl, q⟩ := h
  cases k with
  | true => exact ⟨_, _, (ev_an1 h1).trans h2, by simpa using q⟩
  | false => exact ⟨_, _, ev_an0 h1, by simpa using q⟩
theorem wp_orP {a b : E} (h : wE cal a m fun r m1 => ∃ k, r = .fz (.bl k) ∧ wE cal b m1 fun r2 m2 => ∃ k2, r2 = .fz (.bl k2) ∧ m2 = m1 ∧ Q (.fz (.bl (k || k2))) m1) : wE cal (.or a b) m Q := by
  (try unfold wE at *); (try unfold wD at *); (try unfold wS at *); (try unfold wA at *); (try unfold wT at *); (try unfold wB at *); (try unfold wC at *); (try unfold wO at *); (try unfold wJ at *); (try unfold wX at *)
  obtain ⟨r, m1, h1, k, rfl, r2, m2, h2, k2, rfl, rfl, q⟩ := h
  cases k with
  | false => exact ⟨_, _, (ev_or0 h1).trans h2, by simpa using q⟩
  | true => exact ⟨_, _, ev_or1 h1, by simpa using q⟩
theorem wp_nt {a : E} (h : wE cal a m fun r m1 => ∃ k, r = .fz (.bl k) ∧ Q (.fz (.bl (!k))) m1) : wE cal (.nt a) m Q := by
  (try unfold wE at *); (try unfold wD at *); (try unfold wS at *); (try unfold wA at *); (try unfold wT at *); (try unfold wB at *); (try unfold wC at *); (try unfold wO at *); (try unfold wJ at *); (try unfold wX at *)
  obtain ⟨r, m1, h1, k, rfl, q⟩ := h
  exact ⟨_, _, ev_nt h1, q⟩
theorem wp_ite {c a b : E} (h : wE cal c m fun r m1 => ∃ k, r = .fz (.bl k) ∧ (k = true → wE cal a m1 Q) ∧ (k = false → wE cal b m1 Q)) : wE cal (.ite c a b) m Q := by
  (try unfold wE at *); (try unfold wD at *); (try unfold wS at *); (try unfold wA at *); (try unfold wT at *); (try unfold wB at *); (try unfold wC at *); (try unfold wO at *); (try unfold wJ at *); (try unfold wX at *)
  obtain ⟨r, m1, h1, k, rfl, q1, q2⟩ := h
  cases k with
  | true =>
    obtain ⟨r, m2, h2, q⟩ := q1 rfl
    exact ⟨_, _, (by rw [evE, h1]; exact h2), q⟩
  | false =>
    obtain ⟨r, m2, h2, q⟩ := q2 rfl
    exact ⟨_, _, (by rw [evE, h1]; exact h2), q⟩
theorem wp_ch {f g : Op} {a b c : E} (h : wE cal a m fun ra m1 => wE cal b m1 fun rb m2 => ∃ ts, ders m2 [ra.opd, rb.opd] = some ts ∧ wO f ts fun r => ∃ k, r = .fz (.bl k) ∧ (k = true → wE cal c m2 fun rc m4 => ∃ us, ders m4 [rb.opd, rc.opd] = some us ∧ wO g us fun r => Q r m4) ∧ (k = false → Q (.fz (.bl false)) m2)) : wE cal (.ch f g a b c) m Q := by
  (try unfold wE at *); (try unfold wD at *); (try unfold wS at *); (try unfold wA at *); (try unfold wT at *); (try unfold wB at *); (try unfold wC at *); (try unfold wO at *); (try unfold wJ at *); (try unfold wX at *)
  obtain ⟨ra, m1, h1, rb, m2, h2, ts, h3, r, h4, k, rfl, q1, q2⟩ := h
  cases k with
  | true =>
    obtain ⟨rc, m4, h5, us, h6, r, h7, q⟩ := q1 rfl
    exact ⟨_, _, (by rw [evE, h1]; simp only [Res.bind]; rw [h2]; simp only [opR, h3, h4]; rw [h5]; simp only [h6, h7]), q⟩
  | false => exact ⟨_, _, (by rw [evE, h1]; simp only [Res.bind]; rw [h2]; simp only [opR, h3, h4]), q2 rfl⟩
theorem wp_slc {a b c : E} (h : wE cal a m fun ra m1 => wE cal b m1 fun rb m2 => ∃ i, der m2 rb.opd = some (.int i) ∧ wE cal c m2 fun rc m3 => ∃ j t r, der m3 rc.opd = some (.int j) ∧ der m3 ra.opd = some t ∧ slF t (some i) (some j) = some r ∧ Q r m3) : wE cal (.slc a b c) m Q := by
  (try unfold wE at *); (try unfold wD at *); (try unfold wS at *); (try unfold wA at *); (try unfold wT at *); (try unfold wB at *); (try unfold wC at *); (try unfold wO at *); (try unfold wJ at *); (try unfold wX at *)
  obtain ⟨ra, m1, h1, rb, m2, h2, i, h3, rc, m3, h4, j, t, r, h5, h6, h7, q⟩ := h
  exact ⟨_, _, (by rw [evE, h1]; simp only [Res.bind]; rw [h2]; simp only [h3]; rw [h4]; simp only [h5, h6, h7]), q⟩
theorem wp_jn {a b : E} (h : wE cal a m fun ra m1 => ∃ z, der m1 ra.opd = some (.str z) ∧ wE cal b m1 fun rb m2 => ∃ t r, der m2 rb.opd = some t ∧ joinF (.str z) t = some r ∧ Q r m2) : wE cal (.jn a b) m Q := by
  (try unfold wE at *); (try unfold wD at *); (try unfold wS at *); (try unfold wA at *); (try unfold wT at *); (try unfold wB at *); (try unfold wC at *); (try unfold wO at *); (try unfold wJ at *); (try unfold wX at *)
  obtain ⟨ra, m1, h1, z, h2, rb, m2, h3, t, r, h4, h5, q⟩ := h
  exact ⟨_, _, (by rw [evE, h1]; simp only [Res.bind, h2]; rw [h3]; simp only [h4, h5]), q⟩
theorem wp_fld {c : Nat} {e : E} {f : PySem.Str} (h : wE cal e m fun r m1 => ∃ fs t, der m1 r.opd = some (.ins c fs) ∧ fs.lookup f = some t ∧ Q (.fz t) m1) : wE cal (.fld c e f) m Q := by
  (try unfold wE at *); (try unfold wD at *); (try unfold wS at *); (try unfold wA at *); (try unfold wT at *); (try unfold wB at *); (try unfold wC at *); (try unfold wO at *); (try unfold wJ at *); (try unfold wX at *)
  obtain ⟨r, m1, h1, fs, t, h2, h3, q⟩ := h
  exact ⟨_, _, (by rw [evE, h1]; simp only [Res.bind, h2, if_true, h3]), q⟩
theorem wp_con {c : Nat} {e : E} {f : PySem.Str} {t : T} (h : wE cal e m fun r m1 => ∃ fs, der m1 r.opd = some (.ins c fs) ∧ fs.lookup f = none ∧ Q (.fz t) m1) : wE cal (.con c e f t) m Q := by
  (try unfold wE at *); (try unfold wD at *); (try unfold wS at *); (try unfold wA at *); (try unfold wT at *); (try unfold wB at *); (try unfold wC at *); (try unfold wO at *); (try unfold wJ at *); (try unfold wX at *)
  obtain ⟨r, m1, h1, fs, h2, h3, q⟩ := h
  exact ⟨_, _, (by rw [evE, h1]; simp only [Res.bind, h2, h3, and_self, if_true]), q⟩
theorem callR_ok {f : Nat} {io : List Bool} {ds : List Opd} {args m2 outs m3 : List Slot} {r : R} (h2 : pass m io ds = some (args, m2)) (h3 : cal f args = .ok r outs) (nb : ∀ i, r ≠ .bo i) (h4 : back m2 io ds outs = some m3) : callR cal f io ds m = .ok r m3 := by
  unfold callR
  simp only [h2, h3]
  cases r with
  | bo i => exact absurd rfl (nb i)
  | fz t => simp only [h4]
  | ow t => simp only [h4]
/-- a call: arguments passed, what comes back -/
@[irreducible] def wK (cal : Nat → List Slot → CRes) (f : Nat) (io : List Bool) (ds : List Opd) (m : List Slot) (Q : R → List Slot → Prop) : Prop := ∃ args m2, pass m io ds = some (args, m2) ∧ wC cal f args fun r outs => ∃ m3, back m2 io ds outs = some m3 ∧ Q r m3
theorem wk_go {f : Nat} {io : List Bool} {ds : List Opd} {args m2 : List Slot} (h : pass m io ds = some (args, m2)) (q : wC cal f args fun r outs => ∃ m3, back m2 io ds outs = some m3 ∧ Q r m3) : wK cal f io ds m Q := by
  unfold wK; exact ⟨args, m2, h, q⟩
theorem wK.run {f : Nat} {io : List Bool} {ds : List Opd} (h : wK cal f io ds m Q) : ∃ r m', callR cal f io ds m = .ok r m' ∧ Q r m' := by
  unfold wK wC at h
  obtain ⟨args, m2, h2, r, outs, h3, nb, m3, h4, q⟩ := h
  exact ⟨_, _, callR_ok h2 h3 nb h4, q⟩
theorem wp_call {f : Nat} {io : List Bool} {es : Es} (h : wD cal es m fun ds m1 => wK cal f io ds m1 Q) : wE cal (.call f io es) m Q := by
  (try unfold wE at *); (try unfold wD at *); (try unfold wS at *); (try unfold wA at *); (try unfold wT at *); (try unfold wB at *); (try unfold wC at *); (try unfold wO at *); (try unfold wJ at *); (try unfold wX at *)
  obtain ⟨ds, m1, h1, h2⟩ := h
  obtain ⟨r, m', h3, q⟩ := h2.run
  exact ⟨_, _, (by rw [evE, h1]; exact h3), q⟩
theorem wp_prop {c f : Nat} {e : E} (h : wE cal e m fun r m1 => ∃ fs, der m1 r.opd = some (.ins c fs) ∧ wK cal f [false] [r.opd] m1 Q) : wE cal (.prop c f e) m Q := by
  (try unfold wE at *); (try unfold wD at *); (try unfold wS at *); (try unfold wA at *); (try unfold wT at *); (try unfold wB at *); (try unfold wC at *); (try unfold wO at *); (try unfold wJ at *); (try unfold wX at *)
  obtain ⟨r, m1, h1, fs, h2, h3⟩ := h
  obtain ⟨r', m', h4, q⟩ := h3.run
  exact ⟨_, _, (by rw [evE, h1]; simp only [Res.bind, h2, if_true, h4, Res.calm]), q⟩
theorem wp_meth {c f : Nat} {n : PySem.Str} {io : List Bool} {e : E} {es : Es} (h : wE cal e m fun r m1 => ∃ fs, der m1 r.opd = some (.ins c fs) ∧ fs.lookup n = none ∧ wD cal es m1 fun ds m2 => wK cal f (false :: io) (r.opd :: ds) m2 Q) : wE cal (.meth c f n io e es) m Q := by
  (try unfold wE at *); (try unfold wD at *); (try unfold wS at *); (try unfold wA at *); (try unfold wT at *); (try unfold wB at *); (try unfold wC at *); (try unfold wO at *); (try unfold wJ at *); (try unfold wX at *)
  obtain ⟨r, m1, h1, fs, h2, hn, ds, m2, h3, h4⟩ := h
  obtain ⟨r', m', h5, q⟩ := h4.run
  exact ⟨_, _, (by rw [evE, h1]; simp only [Res.bind, h2, hn, and_self, if_true, h3, h5, Res.calm]), q⟩
theorem wp_mk {c f : Nat} {pm : List Nat} {es : Es} (h : wD cal es m fun ds m1 => ∃ ts m2, escs m1 ds = some (ts, m2) ∧ wC cal f (.ow (.ins c []) :: (pmT pm ts).map .fz) fun r outs => r = .fz .non ∧ ∃ o outs', outs = .ow o :: outs' ∧ Q (.ow o) m2) : wE cal (.mk c f pm es) m Q := by
  (try unfold wE at *); (try unfold wD at *); (try unfold wS at *); (try unfold wA at *); (try unfold wT at *); (try unfold wB at *); (try unfold wC at *); (try unfold wO at *); (try unfold wJ at *); (try unfold wX at *)
  obtain ⟨ds, m1, h1, ts, m2, h2, r, outs, h3, nb, rfl, o, outs', rfl, q⟩ := h
  exact ⟨_, _, (by rw [evE, h1]; simp only [Res.bind, h2, h3]), q⟩
theorem wp_bop {c f : Nat} {a b : E} (h : wE cal a m fun ra m1 => wE cal b m1 fun rb m2 => ∃ fs gs, der m2 ra.opd = some (.ins c fs) ∧ der m2 rb.opd = some (.ins c gs) ∧ wK cal f [false, false] [ra.opd, rb.opd] m2 Q) : wE cal (.bop c f a b) m Q := by
  (try unfold wE at *); (try unfold wD at *); (try unfold wS at *); (try unfold wA at *); (try unfold wT at *); (try unfold wB at *); (try unfold wC at *); (try unfold wO at *); (try unfold wJ at *); (try unfold wX at *)
  obtain ⟨ra, m1, h1, rb, m2, h2, fs, gs, h3, h4, h5⟩ := h
  obtain ⟨r', m', h6, q⟩ := h5.run
  exact ⟨_, _, (by rw [evE, h1]; simp only [Res.bind]; rw [h2]; simp only [h3, h4, and_self, if_true, h6, Res.calm]), q⟩
theorem wp_uop {c f : Nat} {a : E} (h : wE cal a m fun ra m1 => ∃ fs, der m1 ra.opd = some (.ins c fs) ∧ wK cal f [false] [ra.opd] m1 Q) : wE cal (.uop c f a) m Q := by
  (try unfold wE at *); (try unfold wD at *); (try unfold wS at *); (try unfold wA at *); (try unfold wT at *); (try unfold wB at *); (try unfold wC at *); (try unfold wO at *); (try unfold wJ at *); (try unfold wX at *)
  obtain ⟨ra, m1, h1, fs, h3, h5⟩ := h
  obtain ⟨r', m', h6, q⟩ := h5.run
  exact ⟨_, _, (by rw [evE, h1]; simp only [Res.bind, h3, if_true, h6, Res.calm]), q⟩
theorem wp_inn {neg : Bool} {c f : Nat} {a b : E} (h : wE cal a m fun ra m1 => wE cal b m1 fun rb m2 => ∃ fs, der m2 rb.opd = some (.ins c fs) ∧ wK cal f [false, false] [rb.opd, ra.opd] m2 fun r m3 => ∃ k, r = .fz (.bl k) ∧ Q (.fz (.bl (if neg = true then !k else k))) m3) : wE cal (.inn neg c f a b) m Q := by
  (try unfold wE at *); (try unfold wD at *); (try unfold wS at *); (try unfold wA at *); (try unfold wT at *); (try unfold wB at *); (try unfold wC at *); (try unfold wO at *); (try unfold wJ at *); (try unfold wX at *)
  obtain ⟨ra, m1, h1, rb, m2, h2, fs, h3, h5⟩ := h
  obtain ⟨r', m', h6, k, rfl, q⟩ := h5.run
  exact ⟨_, _, (by rw [evE, h1]; simp only [Res.bind]; rw [h2]; simp only [h3, if_true, h6, Res.calm]), q⟩
theorem wp_gti {c f : Nat} {a b : E} (h : wE cal a m fun ra m1 => wE cal b m1 fun rb m2 => ∃ fs, der m2 ra.opd = some (.ins c fs) ∧ wK cal f [false, false] [ra.opd, rb.opd] m2 Q) : wE cal (.gti c f a b) m Q := by
  (try unfold wE at *); (try unfold wD at *); (try unfold wS at *); (try unfold wA at *); (try unfold wT at *); (try unfold wB at *); (try unfold wC at *); (try unfold wO at *); (try unfold wJ at *); (try unfold wX at *)
  obtain ⟨ra, m1, h1, rb, m2, h2, fs, h3, h5⟩ := h
  obtain ⟨r', m', h6, q⟩ := h5.run
  exact ⟨_, _, (by rw [evE, h1]; simp only [Res.bind]; rw [h2]; simp only [h3, if_true, h6, Res.calm]), q⟩
theorem wp_spc {s : Bool} {c f : Nat} {a : E} (h : wE cal a m fun ra m1 => ∃ fs, der m1 ra.opd = some (.ins c fs) ∧ wK cal f [false] [ra.opd] m1 fun r m2 => (match s with | true => ∃ z, r = .fz (.str z) | false => ∃ z, r = .fz (.bl z)) ∧ Q r m2) : wE cal (.spc s c f a) m Q := by
  (try unfold wE at *); (try unfold wD at *); (try unfold wS at *); (try unfold wA at *); (try unfold wT at *); (try unfold wB at *); (try unfold wC at *); (try unfold wO at *); (try unfold wJ at *); (try unfold wX at *)
  obtain ⟨ra, m1, h1, fs, h3, h5⟩ := h
  obtain ⟨r', m', h6, hz, q⟩ := h5.run
  refine ⟨r', m', ?_, q⟩
  rw [evE, h1]
  simp only [Res.bind, h3, if_true, h6, Res.calm]
  cases s with
  | true => obtain ⟨z, rfl⟩ := hz; rfl
  | false => obtain ⟨z, rfl⟩ := hz; rfl
/-- == of own instances -/
theorem wp_ceq {neg : Bool} {c f : Nat} {a b : E} (h : wE cal a m fun ra m1 => wE cal b m1 fun rb m2 => ∃ fs, der m2 ra.opd = some (.ins c fs) ∧ besideT c (der m2 rb.opd) = true ∧ wK cal f [false, false] [ra.opd, rb.opd] m2 fun r m3 => ∃ k, r = .fz (.bl k) ∧ Q (.fz (.bl (if neg = true then !k else k))) m3) : wE cal (.ceq neg c f a b) m Q := by
  (try unfold wE at *); (try unfold wD at *); (try unfold wS at *); (try unfold wA at *); (try unfold wT at *); (try unfold wB at *); (try unfold wC at *); (try unfold wO at *); (try unfold wJ at *); (try unfold wX at *)
  obtain ⟨ra, m1, h1, rb, m2, h2, fs, h3, h4, h5⟩ := h
  obtain ⟨r', m', h6, k, rfl, q⟩ := h5.run
  exact ⟨_, _, (by rw [evE, h1]; simp only [Res.bind]; rw [h2]; simp only [h3, h4, and_self, if_true, h6, Res.calm]), q⟩
theorem wp_isc {cs ns : List Nat} {e : E} (h : wE cal e m fun r m1 => ∃ k, (match der m1 r.opd with | some (.ins c _) => if c ∈ cs then some true else if c ∈ ns then some false else none | some _ => some false | none => none) = some k ∧ Q (.fz (.bl k)) m1) : wE cal (.isc cs ns e) m Q := by
  (try unfold wE at *); (try unfold wD at *); (try unfold wS at *); (try unfold wA at *); (try unfold wT at *); (try unfold wB at *); (try unfold wC at *); (try unfold wO at *); (try unfold wJ at *); (try unfold wX at *)
  obtain ⟨r, m1, h1, k, h2, q⟩ := h
  refine ⟨_, _, ?_, q⟩
  rw [evE, h1]
  simp only [Res.bind]
  split at h2
  · rename_i c fs hd
    (try rw [hd])
    (try simp only)
    split at h2
    · rename_i hc; cases h2; rw [if_pos hc]
    · rename_i hc
      rw [if_neg hc]
      split at h2
      · rename_i hc2; cases h2; rw [if_pos hc2]
      · cases h2
  · rename_i t hn hd
    (try rw [hd])
    cases h2
    cases t <;> first | rfl | exact (hn _ _ rfl).elim
  · cases h2
theorem wp_ccm {f : Nat} (h : wC cal f [.no] fun r _ => Q r m) : wE cal (.ccm f) m Q := by
  (try unfold wE at *); (try unfold wD at *); (try unfold wS at *); (try unfold wA at *); (try unfold wT at *); (try unfold wB at *); (try unfold wC at *); (try unfold wO at *); (try unfold wJ at *); (try unfold wX at *)
  obtain ⟨r, outs, h1, nb, q⟩ := h
  refine ⟨r, m, ?_, q⟩
  rw [evE, h1]
  cases r with
  | bo i => exact absurd rfl (nb i)
  | fz t => rfl
  | ow o => rfl
theorem wp_lr {s : Src} (h : wS cal s m fun xs m1 => xs.length ≤ sizeLine ∧ Q (.ow (.lst xs)) m1) : wE cal (.lr s) m Q := by
  (try unfold wE at *); (try unfold wD at *); (try unfold wS at *); (try unfold wA at *); (try unfold wT at *); (try unfold wB at *); (try unfold wC at *); (try unfold wO at *); (try unfold wJ at *); (try unfold wX at *)
  obtain ⟨xs, m1, h1, h2, q⟩ := h
  exact ⟨_, _, (by rw [evE, h1]; simp only [Res.bind, if_pos h2]), q⟩
/-- texts one behind the other -/
@[irreducible] def wJ (cal : Nat → List Slot → CRes) (es : Es) (acc : PySem.Str) (m : List Slot) (Q : PySem.Str → List Slot → Prop) : Prop := ∃ z m', evJs cal es acc m = .ok z m' ∧ Q z m'
theorem jp_nil {acc : PySem.Str} {Q : PySem.Str → List Slot → Prop} (q : Q acc m) : wJ cal .nil acc m Q := by (try unfold wE at *); (try unfold wD at *); (try unfold wS at *); (try unfold wA at *); (try unfold wT at *); (try unfold wB at *); (try unfold wC at *); (try unfold wO at *); (try unfold wJ at *); (try unfold wX at *); exact ⟨_, _, (by rw [evJs]), q⟩
theorem jp_cons {e : E} {r : Es} {acc : PySem.Str} {Q : PySem.Str → List Slot → Prop} (h : wE cal e m fun x m1 => ∃ y, x = .fz (.str y) ∧ (acc ++ y).length ≤ sizeLine ∧ wJ cal r (acc ++ y) m1 Q) : wJ cal (.cons e r) acc m Q := by
  (try unfold wE at *); (try unfold wD at *); (try unfold wS at *); (try unfold wA at *); (try unfold wT at *); (try unfold wB at *); (try unfold wC at *); (try unfold wO at *); (try unfold wJ at *); (try unfold wX at *)
  obtain ⟨x, m1, h1, y, rfl, hl, z, m', h2, q⟩ := h
  exact ⟨_, _, (by rw [evJs, h1]; simp only [Res.bind, if_pos hl, h2]), q⟩
theorem wp_fst {es : Es} (h : wJ cal es Str.empty m fun z m1 => Q (.fz (.str z)) m1) : wE cal (.fst es) m Q := by
  (try unfold wE at *); (try unfold wD at *); (try unfold wS at *); (try unfold wA at *); (try unfold wT at *); (try unfold wB at *); (try unfold wC at *); (try unfold wO at *); (try unfold wJ at *); (try unfold wX at *)
  obtain ⟨z, m1, h1, q⟩ := h
  exact ⟨_, _, (by rw [evE, h1]; rfl), q⟩
theorem dx_nil {bs : List Bool} : evDx cal .nil bs m = .ok [] m := by rw [evDx]
/-- displays with stars -/
@[irreducible] def wX (cal : Nat → List Slot → CRes) (es : Es) (bs : List Bool) (m : List Slot) (Q : List Opd → List Slot → Prop) : Prop := ∃ ds m', evDx cal es bs m = .ok ds m' ∧ Q ds m'
theorem xp_nil {bs : List Bool} {Q : List Opd → List Slot → Prop} (q : Q [] m) : wX cal .nil bs m Q := by (try unfold wE at *); (try unfold wD at *); (try unfold wS at *); (try unfold wA at *); (try unfold wT at *); (try unfold wB at *); (try unfold wC at *); (try unfold wO at *); (try unfold wJ at *); (try unfold wX at *); exact ⟨_, _, dx_nil, q⟩
theorem xp_one {e : E} {r : Es} {bs : List Bool} {Q : List Opd → List Slot → Prop} (h : wE cal e m fun x m1 => wX cal r bs m1 fun ds m2 => Q (x.opd :: ds) m2) : wX cal (.cons e r) (false :: bs) m Q := by
  (try unfold wE at *); (try unfold wD at *); (try unfold wS at *); (try unfold wA at *); (try unfold wT at *); (try unfold wB at *); (try unfold wC at *); (try unfold wO at *); (try unfold wJ at *); (try unfold wX at *)
  obtain ⟨x, m1, h1, ds, m2, h2, q⟩ := h
  exact ⟨_, _, (by rw [evDx, h1]; simp only [Res.bind, List.headD_cons, Bool.false_eq_true, if_false, List.tail_cons, h2]), q⟩
theorem xp_star {e : E} {r : Es} {bs : List Bool} {Q : List Opd → List Slot → Prop} (h : wE cal e m fun x m1 => ∃ xs, der m1 x.opd = some (.lst xs) ∧ wX cal r bs m1 fun ds m2 => Q (xs.map Opd.t ++ ds) m2) : wX cal (.cons e r) (true :: bs) m Q := by
  (try unfold wE at *); (try unfold wD at *); (try unfold wS at *); (try unfold wA at *); (try unfold wT at *); (try unfold wB at *); (try unfold wC at *); (try unfold wO at *); (try unfold wJ at *); (try unfold wX at *)
  obtain ⟨x, m1, h1, xs, hx, ds, m2, h2, q⟩ := h
  exact ⟨_, _, (by rw [evDx, h1]; simp only [Res.bind, List.headD_cons, if_true, List.tail_cons, hx, h2]), q⟩
theorem wp_lsx {bs : List Bool} {es : Es} (h : wX cal es bs m fun ds m1 => ∃ ts m2, escs m1 ds = some (ts, m2) ∧ ts.length ≤ sizeLine ∧ Q (.ow (.lst ts)) m2) : wE cal (.lsx bs es) m Q := by
  (try unfold wE at *); (try unfold wD at *); (try unfold wS at *); (try unfold wA at *); (try unfold wT at *); (try unfold wB at *); (try unfold wC at *); (try unfold wO at *); (try unfold wJ at *); (try unfold wX at *)
  obtain ⟨ds, m1, h1, ts, m2, h2, h3, q⟩ := h
  exact ⟨_, _, (by rw [evE, h1]; simp only [Res.bind, h2, if_pos h3]), q⟩
/-! sources -/
theorem sp_it {e : E} {Q : List T → List Slot → Prop} (h : wE cal e m fun r m1 => ∃ t m2 xs, esc m1 r.opd = some (t, m2) ∧ itemsT t = some xs ∧ Q xs m2) : wS cal (.it e) m Q := by
  (try unfold wE at *); (try unfold wD at *); (try unfold wS at *); (try unfold wA at *); (try unfold wT at *); (try unfold wB at *); (try unfold wC at *); (try unfold wO at *); (try unfold wJ at *); (try unfold wX at *)
  obtain ⟨r, m1, h1, t, m2, xs, h2, h3, q⟩ := h
  exact ⟨_, _, src_it h1 h2 h3, q⟩
theorem sp_rng1 {e : E} {Q : List T → List Slot → Prop} (h : wE cal e m fun r m1 => ∃ j, der m1 r.opd = some (.int j) ∧ (-(2 ^ 62) ≤ j ∧ j < 2 ^ 62) ∧ Q (tI (rngI 0 j)) m1) : wS cal (.rng1 e) m Q := by
  (try unfold wE at *); (try unfold wD at *); (try unfold wS at *); (try unfold wA at *); (try unfold wT at *); (try unfold wB at *); (try unfold wC at *); (try unfold wO at *); (try unfold wJ at *); (try unfold wX at *)
  obtain ⟨r, m1, h1, j, h2, h3, q⟩ := h
  refine ⟨_, _, ?_, q⟩
  rw [evSrc, h1]
  simp only [Res.bind, h2, wideI, decide_eq_true h3, if_true, rangeT_eq]
theorem sp_rng2 {a b : E} {Q : List T → List Slot → Prop} (h : wE cal a m fun ra m1 => wE cal b m1 fun rb m2 => ∃ i j, ders m2 [ra.opd, rb.opd] = some [.int i, .int j] ∧ (-(2 ^ 62) ≤ i ∧ i < 2 ^ 62) ∧ (-(2 ^ 62) ≤ j ∧ j < 2 ^ 62) ∧ Q (tI (rngI i j)) m2) : wS cal (.rng2 a b) m Q := by
  (try unfold wE at *); (try unfold wD at *); (try unfold wS at *); (try unfold wA at *); (try unfold wT at *); (try unfold wB at *); (try unfold wC at *); (try unfold wO at *); (try unfold wJ at *); (try unfold wX at *)
  obtain ⟨ra, m1, h1, rb, m2, h2, i, j, h3, h4, h5, q⟩ := h
  refine ⟨_, _, ?_, q⟩
  have d1 : der m2 ra.opd = some (.int i) ∧ der m2 rb.opd = some (.int j) := by
    unfold ders at h3
    cases e1 : der m2 ra.opd with
    | none => rw [e1] at h3; cases h3
    | some t =>
      unfold ders at h3
      cases e2 : der m2 rb.opd with
      | none => rw [e1, e2] at h3; cases h3
      | some u => rw [e1, e2] at h3; cases h3; exact ⟨rfl, rfl⟩
  rw [evSrc, h1]
  simp only [Res.bind]
  rw [h2]
  simp only [d1.1, d1.2, wideI, decide_eq_true h4, decide_eq_true h5, and_self, if_true, rangeT_eq]
theorem sp_enum {e : E} {Q : List T → List Slot → Prop} (h : wE cal e m fun r m1 => ∃ t m2 xs, esc m1 r.opd = some (t, m2) ∧ loE t = some xs ∧ Q (enumT 0 xs) m2) : wS cal (.enum e) m Q := by
  (try unfold wE at *); (try unfold wD at *); (try unfold wS at *); (try unfold wA at *); (try unfold wT at *); (try unfold wB at *); (try unfold wC at *); (try unfold wO at *); (try unfold wJ at *); (try unfold wX at *)
  obtain ⟨r, m1, h1, t, m2, xs, h2, h3, q⟩ := h
  exact ⟨_, _, (by rw [evSrc, h1]; simp only [Res.bind, h2, h3]), q⟩
theorem sp_zip {a b : E} {Q : List T → List Slot → Prop} (h : wE cal a m fun ra m1 => wE cal b m1 fun rb m2 => ∃ t u m3 xs ys, escs m2 [ra.opd, rb.opd] = some ([t, u], m3) ∧ loT t = some xs ∧ loT u = some ys ∧ Q (zipT xs ys) m3) : wS cal (.zip a b) m Q := by
  (try unfold wE at *); (try unfold wD at *); (try unfold wS at *); (try unfold wA at *); (try unfold wT at *); (try unfold wB at *); (try unfold wC at *); (try unfold wO at *); (try unfold wJ at *); (try unfold wX at *)
  obtain ⟨ra, m1, h1, rb, m2, h2, t, u, m3, xs, ys, h3, h4, h5, q⟩ := h
  exact ⟨_, _, (by rw [evSrc, h1]; simp only [Res.bind]; rw [h2]; simp only [h3, h4, h5]), q⟩
/-! comprehensions -/
/-- that only looks, over things of any kind -/
theorem wp_comp {α : Type} {own : List Nat} {p : Pt} {s : Src} {cs : Es} {e : E} (h : wS cal s m fun xs m1 => ∃ (as : List α) (f : α → T) (P : α → Bool) (g : α → T), xs = as.map f ∧ noOw m1 own = true ∧ wipeM (wipeM m1 own) own = wipeM m1 own ∧
    (∀ x ∈ as, ∃ m2, bindP (wipeM m1 own) p (f x) = some m2 ∧ wipeM m2 own = wipeM m1 own ∧ (wA cal cs m2 fun r m3 => r = .fz (.bl (P x)) ∧ m3 = m2) ∧ (P x = true → wE cal e m2 fun r m3 => m3 = m2 ∧ esc m2 r.opd = some (g x, m2))) ∧
    as.length ≤ sizeLine ∧ Q (.ow (.lst ((as.filter P).map g))) m1) : wE cal (.comp own p s cs e) m Q := by
  unfold wS at h; unfold wE
  obtain ⟨xs, m1, h1, as, f, P, g, rfl, hn, hw, hx, hl, q⟩ := h
  refine ⟨_, _, ?_, q⟩
  have key : ∀ (as : List α) (acc : List T), (∀ x ∈ as, ∃ m2, bindP (wipeM (wipeM m1 own) own) p (f x) = some m2 ∧ wipeM m2 own = wipeM m1 own ∧ (wA cal cs m2 fun r m3 => r = .fz (.bl (P x)) ∧ m3 = m2) ∧ (P x = true → wE cal e m2 fun r m3 => m3 = m2 ∧ esc m2 r.opd = some (g x, m2))) → acc.length + as.length ≤ sizeLine →
      compGo own p (fun m => evAll cal cs m) (fun m => evE cal e m) (as.map f) acc (wipeM m1 own) = .ok (acc ++ (as.filter P).map g) (wipeM m1 own) := by
    intro as
    induction as with
    | nil => intro acc _ _; rw [List.map_nil, compGo]; simp
    | cons a r ih =>
      intro acc h hl
      (try unfold wE at *); (try unfold wD at *); (try unfold wS at *); (try unfold wA at *); (try unfold wT at *); (try unfold wB at *); (try unfold wC at *); (try unfold wO at *); (try unfold wJ at *); (try unfold wX at *)
      obtain ⟨m2, b1, b2, ⟨r1, m3, b3, rfl, rfl⟩, b4⟩ := h a List.mem_cons_self
      simp only [List.length_cons] at hl
      rw [List.map_cons]
      unfold compGo
      cases hp : P a with
      | true =>
        obtain ⟨r2, m4, b5, rfl, b6⟩ := b4 hp
        rw [hp] at b3
        simp only [b1, b3, Res.bind, b5, b6, b2]
        rw [if_pos (by omega), ih (acc ++ [g a]) (fun y hy => h y (List.mem_cons_of_mem _ hy)) (by simp; omega), List.filter_cons, hp]
        simp
      | false =>
        rw [hp] at b3
        simp only [b1, b3, Res.bind, b2]
        rw [ih acc (fun y hy => h y (List.mem_cons_of_mem _ hy)) (by omega), List.filter_cons, hp]
        simp
  have hc := key as [] (by rw [hw]; exact hx) (by simpa using hl)
  rw [evE, h1]
  simp only [Res.bind, if_pos hn, hc, Res.calm, rest_wipe hn, List.nil_append]
/-- with an invariant of what is left, what is made and the slots -/
theorem wp_compI {own : List Nat} {p : Pt} {s : Src} {cs : Es} {e : E} (h : wS cal s m fun xs m1 => ∃ I : List T → List T → List Slot → Prop, noOw m1 own = true ∧ I xs [] (wipeM m1 own) ∧
    (∀ x xs acc m2, I (x :: xs) acc m2 → ∃ m3, bindP (wipeM m2 own) p x = some m3 ∧ wA cal cs m3 fun r m4 => ∃ k, r = .fz (.bl k) ∧ (k = true → wE cal e m4 fun r m5 => ∃ t m6, esc m5 r.opd = some (t, m6) ∧ acc.length < sizeLine ∧ I xs (acc ++ [t]) (wipeM m6 own)) ∧ (k = false → I xs acc (wipeM m4 own))) ∧
    (∀ acc m2, I [] acc m2 → Q (.ow (.lst acc)) (restM m1 m2 own))) : wE cal (.comp own p s cs e) m Q := by
  (try unfold wE at *); (try unfold wD at *); (try unfold wS at *); (try unfold wA at *); (try unfold wT at *); (try unfold wB at *); (try unfold wC at *); (try unfold wO at *); (try unfold wJ at *); (try unfold wX at *)
  obtain ⟨xs, m1, h1, I, hn, h0, hs, hd⟩ := h
  have key : ∀ (xs acc : List T) (m2 : List Slot), I xs acc m2 → ∃ acc' m3, compGo own p (fun m => evAll cal cs m) (fun m => evE cal e m) xs acc m2 = .ok acc' m3 ∧ I [] acc' m3 := by
    intro xs
    induction xs with
    | nil => intro acc m2 i; exact ⟨acc, m2, by rw [compGo], i⟩
    | cons x r ih =>
      intro acc m2 i
      obtain ⟨m3, b1, r1, m4, b2, k, rfl, b3, b4⟩ := hs x r acc m2 i
      cases k with
      | true =>
        obtain ⟨r2, m5, b5, t, m6, b6, b7, b8⟩ := b3 rfl
        obtain ⟨acc', m7, b9, b10⟩ := ih _ _ b8
        refine ⟨acc', m7, ?_, b10⟩
        unfold compGo
        simp only [b1, b2, Res.bind, b5, b6, if_pos b7]
        exact b9
      | false =>
        obtain ⟨acc', m7, b9, b10⟩ := ih _ _ (b4 rfl)
        refine ⟨acc', m7, ?_, b10⟩
        unfold compGo
        simp only [b1, b2, Res.bind]
        exact b9
  obtain ⟨acc', m3, b1, b2⟩ := key xs [] _ h0
  refine ⟨_, _, ?_, hd _ _ b2⟩
  rw [evE, h1]
  simp only [Res.bind, if_pos hn, b1, Res.calm]
theorem ap_nil (q : Q (.fz (.bl true)) m) : wA cal .nil m Q := by (try unfold wE at *); (try unfold wD at *); (try unfold wS at *); (try unfold wA at *); (try unfold wT at *); (try unfold wB at *); (try unfold wC at *); (try unfold wO at *); (try unfold wJ at *); (try unfold wX at *); exact ⟨_, _, (by rw [evAll]), q⟩
theorem ap_one {e : E} (h : wE cal e m fun r m1 => ∃ k, r = .fz (.bl k) ∧ Q (.fz (.bl k)) m1) : wA cal (.cons e .nil) m Q := by
  (try unfold wE at *); (try unfold wD at *); (try unfold wS at *); (try unfold wA at *); (try unfold wT at *); (try unfold wB at *); (try unfold wC at *); (try unfold wO at *); (try unfold wJ at *); (try unfold wX at *)
  obtain ⟨r, m1, h1, k, rfl, q⟩ := h
  cases k with
  | true => exact ⟨_, _, (by rw [evAll, h1]; simp only [Res.bind, evAll]), q⟩
  | false => exact ⟨_, _, (by rw [evAll, h1]; rfl), q⟩
/-- dicts made by a comprehension, that only looks -/
theorem wp_dcm {α : Type} {own : List Nat} {p : Pt} {s : Src} {cs : Es} {ke e : E} (h : wS cal s m fun xs m1 => ∃ (as : List α) (f : α → T) (P : α → Bool) (kk : α → Key) (g : α → T), xs = as.map f ∧ noOw m1 own = true ∧ wipeM (wipeM m1 own) own = wipeM m1 own ∧
    (∀ x ∈ as, ∃ m2, bindP (wipeM m1 own) p (f x) = some m2 ∧ wipeM m2 own = wipeM m1 own ∧ (wA cal cs m2 fun r m3 => r = .fz (.bl (P x)) ∧ m3 = m2) ∧ (P x = true → (wE cal ke m2 fun r m3 => m3 = m2 ∧ ∃ t, r = .fz t ∧ keyT t = some (kk x)) ∧ wE cal e m2 fun r m3 => m3 = m2 ∧ esc m2 r.opd = some (g x, m2))) ∧
    as.length ≤ sizeLine ∧ Q (.ow (.dic (putsT [] ((as.filter P).map fun x => (kk x, g x))))) m1) : wE cal (.dcm own p s cs ke e) m Q := by
  unfold wS at h; unfold wE
  obtain ⟨xs, m1, h1, as, f, P, kk, g, rfl, hn, hw, hx, hl, q⟩ := h
  refine ⟨_, _, ?_, q⟩
  have plen : ∀ (a : List (Key × T)) (k : Key) (v : T), (putT a k v).length ≤ a.length + 1 := fun a k v => by
    unfold putT
    split
    · rw [List.length_map]; omega
    · rw [List.length_append]; simp
  have key : ∀ (as : List α) (acc : List (Key × T)), (∀ x ∈ as, ∃ m2, bindP (wipeM (wipeM m1 own) own) p (f x) = some m2 ∧ wipeM m2 own = wipeM m1 own ∧ (wA cal cs m2 fun r m3 => r = .fz (.bl (P x)) ∧ m3 = m2) ∧ (P x = true → (wE cal ke m2 fun r m3 => m3 = m2 ∧ ∃ t, r = .fz t ∧ keyT t = some (kk x)) ∧ wE cal e m2 fun r m3 => m3 = m2 ∧ esc m2 r.opd = some (g x, m2))) → acc.length + as.length ≤ sizeLine →
      dcGo own p (fun m => evAll cal cs m) (fun m => evE cal ke m) (fun m => evE cal e m) (as.map f) acc (wipeM m1 own) = .ok (putsT acc ((as.filter P).map fun x => (kk x, g x))) (wipeM m1 own) := by
    intro as
    induction as with
    | nil => intro acc _ _; rw [List.map_nil, dcGo]; rfl
    | cons a r ih =>
      intro acc h hl
      (try unfold wE at *); (try unfold wD at *); (try unfold wS at *); (try unfold wA at *); (try unfold wT at *); (try unfold wB at *); (try unfold wC at *); (try unfold wO at *); (try unfold wJ at *); (try unfold wX at *)
      obtain ⟨m2, b1, b2, ⟨r1, m3, b3, rfl, rfl⟩, b4⟩ := h a List.mem_cons_self
      simp only [List.length_cons] at hl
      rw [List.map_cons]
      unfold dcGo
      cases hp : P a with
      | true =>
        obtain ⟨⟨rk, mk, k1, rfl, t, rfl, k2⟩, r2, m4, b5, rfl, b6⟩ := b4 hp
        rw [hp] at b3
        simp only [b1, b3, Res.bind, k1, k2, b5, b6, b2]
        rw [if_pos (by omega), ih (putT acc (kk a) (g a)) (fun y hy => h y (List.mem_cons_of_mem _ hy)) (by have := plen acc (kk a) (g a); omega), List.filter_cons, hp]
        rfl
      | false =>
        rw [hp] at b3
        simp only [b1, b3, Res.bind, b2]
        rw [ih acc (fun y hy => h y (List.mem_cons_of_mem _ hy)) (by omega), List.filter_cons, hp]
        simp
  have hc := key as [] (by rw [hw]; exact hx) (by simpa using hl)
  rw [evE, h1]
  simp only [Res.bind, if_pos hn, hc, Res.calm, rest_wipe hn, List.nil_append]
/-! statements -/
theorem bp_nil (q : D.nx m) : wB cal L .nil m D := by (try unfold wE at *); (try unfold wD at *); (try unfold wS at *); (try unfold wA at *); (try unfold wT at *); (try unfold wB at *); (try unfold wC at *); (try unfold wO at *); (try unfold wJ at *); (try unfold wX at *); rw [evSs]; exact q
theorem bp_cons {s : S} {r : Ss} (h : wT cal L s m (D.seq fun m1 => wB cal L r m1 D)) : wB cal L (.cons s r) m D := by
  (try unfold wE at *); (try unfold wD at *); (try unfold wS at *); (try unfold wA at *); (try unfold wT at *); (try unfold wB at *); (try unfold wC at *); (try unfold wO at *); (try unfold wJ at *); (try unfold wX at *)
  try unfold wB
  try unfold wT at h
  rw [evSs]
  cases e : evS cal L s m with
  | nx m1 => rw [e] at h; exact h
  | rt r m1 => rw [e] at h; exact h
  | bk m1 => rw [e] at h; exact h
  | ct m1 => rw [e] at h; exact h
  | ex x m1 => rw [e] at h; exact h.elim
  | no => rw [e] at h; exact h.elim
theorem wp_set {i : Nat} {e : E} (h : wE cal e m fun r m1 => ∃ m2, putR i r m1 = .nx m2 ∧ D.nx m2) : wT cal L (.set i e) m D := by
  (try unfold wE at *); (try unfold wD at *); (try unfold wS at *); (try unfold wA at *); (try unfold wT at *); (try unfold wB at *); (try unfold wC at *); (try unfold wO at *); (try unfold wJ at *); (try unfold wX at *)
  obtain ⟨r, m1, h1, m2, h2, q⟩ := h
  try unfold wT
  rw [evS, h1]
  simp only [ofR, h2]
  exact q
theorem wp_unp {p : Pt} {e : E} (h : wE cal e m fun r m1 => ∃ t m2 m3, esc m1 r.opd = some (t, m2) ∧ bindP m2 p t = some m3 ∧ D.nx m3) : wT cal L (.unp p e) m D := by
  (try unfold wE at *); (try unfold wD at *); (try unfold wS at *); (try unfold wA at *); (try unfold wT at *); (try unfold wB at *); (try unfold wC at *); (try unfold wO at *); (try unfold wJ at *); (try unfold wX at *)
  obtain ⟨r, m1, h1, t, m2, m3, h2, h3, q⟩ := h
  try unfold wT
  rw [evS, h1]
  simp only [ofR, h2, h3]
  exact q
theorem wp_par {i j : Nat} {a b : E} (h : wE cal a m fun ra m1 => wE cal b m1 fun rb m2 => ∃ t u m3, escs m2 [ra.opd, rb.opd] = some ([t, u], m3) ∧ (Nat.blt i m3.length && Nat.blt j m3.length) = true ∧ D.nx ((m3.set i (.fz t)).set j (.fz u))) : wT cal L (.par i j a b) m D := by
  (try unfold wE at *); (try unfold wD at *); (try unfold wS at *); (try unfold wA at *); (try unfold wT at *); (try unfold wB at *); (try unfold wC at *); (try unfold wO at *); (try unfold wJ at *); (try unfold wX at *)
  obtain ⟨ra, m1, h1, rb, m2, h2, t, u, m3, h3, h4, q⟩ := h
  rw [Bool.and_eq_true] at h4
  have l1 : i < m3.length := Nat.le_of_ble_eq_true h4.1
  have l2 : j < m3.length := Nat.le_of_ble_eq_true h4.2
  try unfold wT
  rw [evS, h1]
  simp only [ofR]
  rw [h2]
  simp only [h3, if_pos (And.intro l1 l2)]
  exact q
theorem wp_aug {i : Nat} {f : Op} {e : E} (h : ∃ x, m[i]? = some (.fz x) ∧ wE cal e m fun r m1 => ∃ x' y z, m1[i]? = some (.fz x') ∧ der m1 r.opd = some y ∧ augF f x y = some z ∧ D.nx (m1.set i (.fz z))) : wT cal L (.aug i f e) m D := by
  (try unfold wE at *); (try unfold wD at *); (try unfold wS at *); (try unfold wA at *); (try unfold wT at *); (try unfold wB at *); (try unfold wC at *); (try unfold wO at *); (try unfold wJ at *); (try unfold wX at *)
  obtain ⟨x, h0, r, m1, h1, x', y, z, h2, h3, h4, q⟩ := h
  try unfold wT
  rw [evS, h0]
  simp only
  rw [h1]
  simp only [ofR, h2, h3, h4]
  exact q
theorem wp_ex {e : E} (h : wE cal e m fun _ m1 => D.nx m1) : wT cal L (.ex e) m D := by
  (try unfold wE at *); (try unfold wD at *); (try unfold wS at *); (try unfold wA at *); (try unfold wT at *); (try unfold wB at *); (try unfold wC at *); (try unfold wO at *); (try unfold wJ at *); (try unfold wX at *)
  obtain ⟨r, m1, h1, q⟩ := h
  try unfold wT
  rw [evS, h1]
  exact q
theorem wp_ret {e : E} (h : wE cal e m fun r m1 => ∃ r' m2, outR r m1 = some (r', m2) ∧ D.rt r' m2) : wT cal L (.ret e) m D := by
  (try unfold wE at *); (try unfold wD at *); (try unfold wS at *); (try unfold wA at *); (try unfold wT at *); (try unfold wB at *); (try unfold wC at *); (try unfold wO at *); (try unfold wJ at *); (try unfold wX at *)
  obtain ⟨r, m1, h1, r', m2, h2, q⟩ := h
  try unfold wT
  rw [evS, h1]
  simp only [ofR, h2]
  exact q
theorem wp_retn (q : D.rt (.fz .non) m) : wT cal L .retn m D := by (try unfold wE at *); (try unfold wD at *); (try unfold wS at *); (try unfold wA at *); (try unfold wT at *); (try unfold wB at *); (try unfold wC at *); (try unfold wO at *); (try unfold wJ at *); (try unfold wX at *); rw [evS]; exact q
theorem wp_ife {c : E} {a b : Ss} (h : wE cal c m fun r m1 => ∃ k, r = .fz (.bl k) ∧ (k = true → wB cal L a m1 D) ∧ (k = false → wB cal L b m1 D)) : wT cal L (.ife c a b) m D := by
  (try unfold wE at *); (try unfold wD at *); (try unfold wS at *); (try unfold wA at *); (try unfold wT at *); (try unfold wB at *); (try unfold wC at *); (try unfold wO at *); (try unfold wJ at *); (try unfold wX at *)
  obtain ⟨r, m1, h1, k, rfl, q1, q2⟩ := h
  try unfold wT
  cases k with
  | true => rw [st_if1 h1]; exact q1 rfl
  | false => rw [st_if0 h1]; exact q2 rfl
theorem wp_app {i : Nat} {e : E} (h : ∃ ys, m[i]? = some (.ow (.lst ys)) ∧ wE cal e m fun r m1 => ∃ t m2 xs, esc m1 r.opd = some (t, m2) ∧ m2[i]? = some (.ow (.lst xs)) ∧ xs.length < sizeLine ∧ D.nx (m2.set i (.ow (.lst (xs ++ [t]))))) : wT cal L (.app i e) m D := by
  (try unfold wE at *); (try unfold wD at *); (try unfold wS at *); (try unfold wA at *); (try unfold wT at *); (try unfold wB at *); (try unfold wC at *); (try unfold wO at *); (try unfold wJ at *); (try unfold wX at *)
  obtain ⟨ys, h0, r, m1, h1, t, m2, xs, h2, h3, h4, q⟩ := h
  try unfold wT
  rw [evS, h0]
  simp only
  rw [h1]
  simp only [ofR, h2, h3, if_pos h4]
  exact q
theorem wp_insr {i : Nat} {k e : E} (h : ∃ ys, m[i]? = some (.ow (.lst ys)) ∧ wE cal k m fun rk mk => ∃ j : Int, rk = .fz (.int j) ∧ wE cal e mk fun r m1 => ∃ t m2 xs, esc m1 r.opd = some (t, m2) ∧ m2[i]? = some (.ow (.lst xs)) ∧ (0 ≤ j ∧ j < 2 ^ 63 ∧ xs.length < sizeLine) ∧ D.nx (m2.set i (.ow (.lst (xs.take j.toNat ++ [t] ++ xs.drop j.toNat))))) : wT cal L (.insr i k e) m D := by
  (try unfold wE at *); (try unfold wD at *); (try unfold wS at *); (try unfold wA at *); (try unfold wT at *); (try unfold wB at *); (try unfold wC at *); (try unfold wO at *); (try unfold wJ at *); (try unfold wX at *)
  obtain ⟨ys, h0, rk, mk, hk, j, rfl, r, m1, h1, t, m2, xs, h2, h3, h4, q⟩ := h
  try unfold wT
  rw [evS, h0]
  simp only
  rw [hk]
  simp only [ofR]
  rw [h1]
  simp only [ofR, h2, h3, if_pos h4]
  exact q
theorem wp_parf {i j : Nat} {a b : E} (h : wE cal a m fun ra m1 => ∃ t, ra = .fz t ∧ wE cal b m1 fun rb m2 => ∃ o, rb = .ow o ∧ (i < m2.length ∧ j < m2.length ∧ i ≠ j) ∧ D.nx ((m2.set i (.fz t)).set j (.ow o))) : wT cal L (.parf i j a b) m D := by
  (try unfold wE at *); (try unfold wD at *); (try unfold wS at *); (try unfold wA at *); (try unfold wT at *); (try unfold wB at *); (try unfold wC at *); (try unfold wO at *); (try unfold wJ at *); (try unfold wX at *)
  obtain ⟨ra, m1, h1, t, rfl, rb, m2, h2, o, rfl, h3, q⟩ := h
  try unfold wT
  rw [evS, h1]
  simp only [ofR]
  rw [h2]
  simp only [ofR, if_pos h3]
  exact q
theorem wp_paro {i j : Nat} {a b : E} (h : wE cal a m fun ra m1 => ∃ o1, ra = .ow o1 ∧ wE cal b m1 fun rb m2 => ∃ o2, rb = .ow o2 ∧ (i < m2.length ∧ j < m2.length ∧ i ≠ j) ∧ D.nx ((m2.set i (.ow o1)).set j (.ow o2))) : wT cal L (.paro i j a b) m D := by
  unfold wE at h
  obtain ⟨ra, m1, h1, t, rfl, h⟩ := h
  (try unfold wE at h)
  obtain ⟨rb, m2, h2, o, rfl, h3, q⟩ := h
  unfold wT
  rw [evS, h1]
  simp only [ofR]
  rw [h2]
  simp only [ofR, if_pos h3]
  exact q
theorem wp_par3 {i j l : Nat} {a b : E} {t : T} (h : wE cal a m fun ra m1 => ∃ u, ra = .fz u ∧ wE cal b m1 fun rb m2 => ∃ o, rb = .ow o ∧ ((i < m2.length ∧ j < m2.length ∧ l < m2.length) ∧ (i ≠ j ∧ i ≠ l ∧ j ≠ l) ∧ flatT t = true) ∧ D.nx (((m2.set i (.fz u)).set j (.ow o)).set l (.fz t))) : wT cal L (.par3 i j l a b t) m D := by
  (try unfold wE at *); (try unfold wD at *); (try unfold wS at *); (try unfold wA at *); (try unfold wT at *); (try unfold wB at *); (try unfold wC at *); (try unfold wO at *); (try unfold wJ at *); (try unfold wX at *)
  obtain ⟨ra, m1, h1, u, rfl, rb, m2, h2, o, rfl, h3, q⟩ := h
  try unfold wT
  rw [evS, h1]
  simp only [ofR]
  rw [h2]
  simp only [ofR, if_pos h3]
  exact q
theorem wp_stf {i c : Nat} {f : PySem.Str} {e : E} (h : wE cal e m fun r m1 => ∃ t m2 fs, esc m1 r.opd = some (t, m2) ∧ m2[i]? = some (.ow (.ins c fs)) ∧ Nat.blt fs.length 1000 = true ∧ D.nx (m2.set i (.ow (.ins c (putS f t fs))))) : wT cal L (.stf i c f e) m D := by
  (try unfold wE at *); (try unfold wD at *); (try unfold wS at *); (try unfold wA at *); (try unfold wT at *); (try unfold wB at *); (try unfold wC at *); (try unfold wO at *); (try unfold wJ at *); (try unfold wX at *)
  obtain ⟨r, m1, h1, t, m2, fs, h2, h3, h4, q⟩ := h
  have l1 : fs.length < 1000 := Nat.le_of_ble_eq_true h4
  try unfold wT
  rw [evS, h1]
  simp only [ofR, h2, h3, if_pos (And.intro trivial l1)]
  exact q
theorem wp_brk (q : D.bk m) : wT cal L .brk m D := by (try unfold wE at *); (try unfold wD at *); (try unfold wS at *); (try unfold wA at *); (try unfold wT at *); (try unfold wB at *); (try unfold wC at *); (try unfold wO at *); (try unfold wJ at *); (try unfold wX at *); rw [evS]; exact q
theorem wp_cnt (q : D.ct m) : wT cal L .cnt m D := by (try unfold wE at *); (try unfold wD at *); (try unfold wS at *); (try unfold wA at *); (try unfold wT at *); (try unfold wB at *); (try unfold wC at *); (try unfold wO at *); (try unfold wJ at *); (try unfold wX at *); rw [evS]; exact q
theorem wp_pas (q : D.nx m) : wT cal L .pas m D := by (try unfold wE at *); (try unfold wD at *); (try unfold wS at *); (try unfold wA at *); (try unfold wT at *); (try unfold wB at *); (try unfold wC at *); (try unfold wO at *); (try unfold wJ at *); (try unfold wX at *); rw [evS]; exact q
/-- for: an invariant of the items left and the slots -/
theorem wp_fr {p : Pt} {s : Src} {b : Ss} (h : wS cal s m fun xs m1 => ∃ I : List T → List Slot → Prop, I xs m1 ∧
    (∀ x xs m2, I (x :: xs) m2 → ∃ m3, bindP m2 p x = some m3 ∧ wB cal L b m3 { nx := I xs, ct := I xs, bk := D.nx, rt := D.rt }) ∧ (∀ m2, I [] m2 → D.nx m2)) : wT cal L (.fr p s b) m D := by
  (try unfold wE at *); (try unfold wD at *); (try unfold wS at *); (try unfold wA at *); (try unfold wT at *); (try unfold wB at *); (try unfold wC at *); (try unfold wO at *); (try unfold wJ at *); (try unfold wX at *)
  obtain ⟨xs, m1, h1, I, h0, hs, hd⟩ := h
  try unfold wT
  rw [evS, h1]
  simp only
  clear h1
  revert m1
  induction xs with
  | nil => intro m1 i; rw [forGo]; exact hd _ i
  | cons x r ih =>
    intro m1 i
    obtain ⟨m3, b1, b2⟩ := hs _ _ _ i
    unfold forGo
    simp only [b1]
    try unfold wB at b2
    cases e : evSs cal L b m3 with
    | nx m4 => rw [e] at b2; exact ih _ b2
    | ct m4 => rw [e] at b2; exact ih _ b2
    | bk m4 => rw [e] at b2; exact b2
    | rt r m4 => rw [e] at b2; exact b2
    | ex x m4 => rw [e] at b2; exact b2.elim
    | no => rw [e] at b2; exact b2.elim
/-- for, turn by turn -/
@[irreducible] def wF (cal : Nat → List Slot → CRes) (L : Nat) (p : Pt) (b : Ss) (xs : List T) (m : List Slot) (D : En) : Prop := (forGo p (fun m => evSs cal L b m) xs m).sat D
theorem wf_nil {p : Pt} {b : Ss} (q : D.nx m) : wF cal L p b [] m D := by unfold wF; rw [forGo]; exact q
theorem wf_cons {p : Pt} {b : Ss} {x : T} {xs : List T} {m1 : List Slot} (h : bindP m p x = some m1) (q : wB cal L b m1 ⟨fun m2 => wF cal L p b xs m2 D, D.rt, D.nx, fun m2 => wF cal L p b xs m2 D⟩) : wF cal L p b (x :: xs) m D := by
  unfold wB wF at q
  unfold wF forGo
  simp only [h]
  cases e : evSs cal L b m1 with
  | nx m4 => rw [e] at q; exact q
  | ct m4 => rw [e] at q; exact q
  | bk m4 => rw [e] at q; exact q
  | rt r m4 => rw [e] at q; exact q
  | ex x m4 => rw [e] at q; exact q.elim
  | no => rw [e] at q; exact q.elim
theorem wp_frU {p : Pt} {s : Src} {b : Ss} (h : wS cal s m fun xs m1 => wF cal L p b xs m1 D) : wT cal L (.fr p s b) m D := by
  unfold wS wF at h
  obtain ⟨xs, m1, h1, q⟩ := h
  unfold wT
  rw [evS, h1]
  exact q
/-- while: an invariant with a bound on the turns left -/
theorem wp_wh {c : E} {b : Ss} (I : Nat → List Slot → Prop) (n : Nat) (hn : n < L) (h0 : I n m)
    (hs : ∀ n m1, I n m1 → wE cal c m1 fun r m2 => ∃ k, r = .fz (.bl k) ∧ (k = true → ∃ j, n = j + 1 ∧ wB cal L b m2 { nx := I j, ct := I j, bk := D.nx, rt := D.rt }) ∧ (k = false → D.nx m2)) : wT cal L (.wh c b) m D := by
  (try unfold wE at *); (try unfold wD at *); (try unfold wS at *); (try unfold wA at *); (try unfold wT at *); (try unfold wB at *); (try unfold wC at *); (try unfold wO at *); (try unfold wJ at *); (try unfold wX at *)
  have key : ∀ (l n : Nat) (m1 : List Slot), n < l → I n m1 → (whGo (fun m => evE cal c m) (fun m => evSs cal L b m) l m1).sat D := by
    intro l
    induction l with
    | zero => intro n m1 h; omega
    | succ l ih =>
      intro n m1 h i
      obtain ⟨r, m2, b1, k, rfl, b2, b3⟩ := hs n m1 i
      unfold whGo
      simp only [b1]
      cases k with
      | false => exact b3 rfl
      | true =>
        obtain ⟨j, rfl, b4⟩ := b2 rfl
        try unfold wB at b4
        simp only
        cases e : evSs cal L b m2 with
        | nx m4 => rw [e] at b4; exact ih j _ (by omega) b4
        | ct m4 => rw [e] at b4; exact ih j _ (by omega) b4
        | bk m4 => rw [e] at b4; exact b4
        | rt r m4 => rw [e] at b4; exact b4
        | ex x m4 => rw [e] at b4; exact b4.elim
        | no => rw [e] at b4; exact b4.elim
  try unfold wT
  rw [evS]
  exact key L n m hn h0
theorem bp_mono {s : Ss} {D' : En} (h : wB cal L s m D) (h1 : ∀ m, D.nx m → D'.nx m) (h2 : ∀ r m, D.rt r m → D'.rt r m) (h3 : ∀ m, D.bk m → D'.bk m) (h4 : ∀ m, D.ct m → D'.ct m) : wB cal L s m D' := by (try unfold wE at *); (try unfold wD at *); (try unfold wS at *); (try unfold wA at *); (try unfold wT at *); (try unfold wB at *); (try unfold wC at *); (try unfold wO at *); (try unfold wJ at *); (try unfold wX at *); exact Fl.sat_mono h h1 h2 h3 h4
end
/-- a call, by its body's run -/
theorem wp_run {Γ : Nat → Option Def} {L k f : Nat} {d : Def} {args : List Slot} {Q : R → List Slot → Prop} (hf : Γ f = some d) (hl : args.length = d.np)
    (h : wB (callF Γ L k) L d.body (args ++ List.replicate (d.ns - d.np) .no) { nx := fun m => Q (.fz .non) (outsM d.io m), rt := fun r m => (∀ i, r ≠ .bo i) ∧ Q r (outsM d.io m), bk := fun _ => False, ct := fun _ => False }) : wC (callF Γ L (k + 1)) f args Q := by
  (try unfold wE at *); (try unfold wD at *); (try unfold wS at *); (try unfold wA at *); (try unfold wT at *); (try unfold wB at *); (try unfold wC at *); (try unfold wO at *); (try unfold wJ at *); (try unfold wX at *)
  try unfold wB at h
  have e0 : callF Γ L (k + 1) f args = runD (callF Γ L k) L d args := by
    show (match Γ f with | some d => runD (callF Γ L k) L d args | none => .no) = _
    rw [hf]
  rw [e0]
  unfold runD
  rw [if_pos hl]
  cases e : evSs (callF Γ L k) L d.body (args ++ List.replicate (d.ns - d.np) .no) with
  | nx m4 => rw [e] at h; exact ⟨_, _, rfl, (fun _ z => nomatch z), h⟩
  | ct m4 => rw [e] at h; exact h.elim
  | bk m4 => rw [e] at h; exact h.elim
  | rt r m4 =>
    rw [e] at h
    cases r with
    | bo i => exact absurd rfl (h.1 i)
    | fz t => exact ⟨_, _, rfl, (fun _ z => nomatch z), h.2⟩
    | ow t => exact ⟨_, _, rfl, (fun _ z => nomatch z), h.2⟩
  | ex x m4 => rw [e] at h; exact h.elim
  | no => rw [e] at h; exact h.elim
end Mi
set_option maxHeartbeats 1000000
namespace Mi
open PySem PySem.Spec PyProof.Rows L2

section
variable {G : Gm}
/-! ### dict(..) -/
def rDictM (K : PySem.W.Frag) : List V → Hp → VK → Prop := fun xs H Q => (∃ (a : Addr) (ps : List Addr) (kvs : List (Key × V)), xs = [.ref a] ∧ SqL K H a (ps.map V.ref) ∧ Paired (fun p kv => SqT K H p [kV kv.1, kv.2]) ps kvs ∧ ∀ p, H p = none → Q (.ref p) (upd H p (.dK (mergeK [] kvs)))) ∨
  ∃ (a : Addr) (kvs : List (Key × V)), xs = [.ref a] ∧ Rd H a (.dK kvs) ∧ ∀ p, H p = none → Q (.ref p) (upd H p (.dK kvs))
theorem cr_dictM {X : Cx} (hcalm : X.calm = true) : CallR X (.type "dict") (rDictM X.K) := by
  intro pins s σ H xs us Q I r q
  rcases q with q | q
  · exact call_dictP hcalm pins s σ H xs us Q I r q
  · exact call_dictD pins s σ H xs us Q I r q
theorem RFk.puts {w : Wd} {more : List (Key × T)} {ms : List (Key × V)} (q : RFk G w more ms) : ∀ {kvs : List (Key × T)} {ks : List (Key × V)}, RFk G w kvs ks → RFk G w (putsT kvs more) (mergeK ks ms) := by
  induction more generalizing ms with
  | nil => cases q; exact fun r => r
  | cons p r ih =>
    cases q with
    | cons a b => exact fun r0 => ih b (r0.put a)
/-- pairs of a list -/
theorem pairs_v {w : Wd} : ∀ {xs : List T} {vs : List V} {kvs : List (Key × T)}, RFs G w xs vs → pairsT xs = some kvs → ∃ (ps : List Addr) (ks : List (Key × V)), vs = ps.map V.ref ∧ Paired (fun p kv => SqT G.K w.H p [kV kv.1, kv.2]) ps ks ∧ RFk G w kvs ks
  | [], _, kvs, .nil, h => by
    cases h
    exact ⟨[], [], rfl, .nil, .nil⟩
  | x :: r, _, kvs, .cons a b, h => by
    unfold pairsT at h
    cases e : pairT x with
    | none => rw [e] at h; cases h
    | some p =>
      rw [e] at h
      have h : (pairsT r).map (fun l => p :: l) = some kvs := h
      cases e2 : pairsT r with
      | none => rw [e2] at h; cases h
      | some l =>
        rw [e2] at h
        cases h
        obtain ⟨ps, ks, rfl, h2, h3⟩ := pairs_v b e2
        unfold pairT at e
        split at e
        · rename_i k v
          cases hk : keyT k with
          | none => rw [hk] at e; cases e
          | some q =>
            rw [hk] at e
            cases e
            cases a with
            | @tup _ ad _ ha rs =>
              cases rs with
              | @cons _ vk _ _ rk rs =>
                cases rs with
                | @cons _ vv _ _ rv rs =>
                  cases rs
                  have ek := key_v hk (.fz rk)
                  subst ek
                  refine ⟨ad :: ps, (q, vv) :: ks, rfl, .cons ?_ h2, .cons rv h3⟩
                  rcases ha with ⟨_, ha⟩ | ha
                  · exact .inl (.inl ha)
                  · exact .inr ha
        · cases e
theorem okDict : OpOk1 G .dict (fun x H Q => rDictM G.K [x] H Q) := fun w m σ t1 v1 res Q S a h k => by
  replace h : dictF t1 = some res := h
  cases t1 <;> try (cases h; done)
  case lst xs =>
    obtain ⟨p, vs, rfl, h1, r⟩ := a.lst
    have h : (pairsT xs).map (fun kvs => R.ow (.dic (putsT [] kvs))) = some res := h
    cases e : pairsT xs with
    | none => rw [e] at h; cases h
    | some kvs =>
      rw [e] at h
      cases h
      obtain ⟨ps, ks, rfl, h2, h3⟩ := pairs_v r e
      exact .inl ⟨p, ps, ks, rfl, .inl (.inl h1), h2, fun p hp => k.new S hp (.dic upd_same (RFk.mono (Mo.new S.trk hp) (RFk.puts h3 .nil)))⟩
  case dic kvs =>
    obtain ⟨p, ks, rfl, h1, r⟩ := a.dic
    cases h
    exact .inr ⟨p, ks, rfl, h1, fun p hp => k.new S hp (.dic upd_same (RFk.mono (Mo.new S.trk hp) r))⟩
end
section
variable {C : Ct} {X : Cx} {k : Nat} {cal : Nat → List Slot → CRes} {pos apos p1 p2 : Pos}
theorem x_dict (c : XC C X k) {a : Expr} {ea : E} (hm : Fr X "dict") (ha : PE X a (rdE C (evE cal ea))) (hg : Gl X "dict" := by rfl) (hs : starEach [a] X.env = (false, eval a X.env) :: starEach [] X.env := by rfl) : PE X (.Call (.Name "dict" p1) [a] [] pos) (rdE C (evE cal (.op .dict (.cons ea .nil)))) :=
  x_ty (r := rDictM C.G.K) (by rw [c.K]; exact cr_dictM c.calm) (by rfl) okDict hm hg (by decide) (by decide) hs ha
/-! ### a display of constants -/
theorem rf_flat {G : Gm} {w : Wd} {t : T} (h : flatT t = true) : RF G w t (vT t) := by
  cases t <;> first | (cases h; done) | exact .non | exact .bl _ | exact .int _ | exact .str _
def cTrs (kvs : List (Key × T)) : List (TE × TE) := kvs.map fun kv => (tC (kV kv.1), tC (vT kv.2))
theorem cTrs_run {σ : St} {H : Hp} : ∀ {kvs : List (Key × T)} {Q : List (V × V) → Hp → Prop}, Q (kvs.map fun kv => (kV kv.1, vT kv.2)) H → tPairs (cTrs kvs) σ H Q
  | [], _, q => q
  | _ :: r, _, q => cTrs_run (kvs := r) q
theorem x_dsc {keys : List (Option Expr)} {values : List Expr} {kvs : List (Key × T)} (h : PPs X pos keys values (cTrs kvs)) (hall : keys.all (·.isSome) = true := by rfl) (hl : keys.length = values.length := by rfl) (h0 : keys ≠ [] := by intro h; cases h)
    (h15 : keys.length ≤ 15 := by decide) : PE X (.Dict keys values pos) (rdE C (evE cal (.dsc kvs))) :=
  PE.imp (pe_disp h hall hl h0 h15) fun σ H Q ⟨w, m, e, P, q⟩ p hp => by
  rw [evE] at q
  split at q
  · rename_i hf
    refine cTrs_run ⟨upd_same, kvs.map fun kv => (kv.1, vT kv.2), by rw [List.map_map]; rfl, by rw [List.length_map]; exact hf.2, ?_⟩
    subst e
    have rk : ∀ {l : List (Key × T)}, l.all (fun kv => flatT kv.2) = true → ∀ {w : Wd}, RFk C.G w l (l.map fun kv => (kv.1, vT kv.2)) := by
      intro l
      induction l with
      | nil => intro _ w; exact .nil
      | cons a r ih =>
        intro h w
        rw [List.all_cons, Bool.and_eq_true] at h
        exact .cons (rf_flat h.1) (ih h.2)
    have := After.new (o := .dic (putsT [] kvs)) (G := C.G) (m := m) (σ := σ) (fun w' v S' x' r' => q w' v S' x' r') P.sr hp (.dic upd_same (RFk.puts (rk hf.1) .nil))
    rwa [upd_upd]
  · exact q.elim
/-! ### d.get(k, x) -/
theorem x_dgt (c : XC C X k) {a b d : Expr} {ea eb ed : E} (ha : PE X a (rdE C (evE cal ea))) (hb : PE X b (rdE C (evE cal eb))) (hd : PE X d (rdE C (evE cal ed))) (m : M2 X a "get" apos b d pos := by exact ⟨rfl, rfl, rfl, rfl⟩) :
    PE X (.Call (.Attribute a "get" apos) [b, d] [] pos) (rdE C (evE cal (.dgt ea eb ed))) :=
  PE.imp (pe_dget2 (by have := c.hu; omega) (pe_opd ha) (pe_opd hb) (pe_opd hd) m) fun σ H Q ⟨w, m, e, P, q⟩ => by
  rw [evE, Res.sat_bind] at q
  refine ⟨w, m, e, P, ?_⟩
  rw [opdF, Res.sat_bind]
  refine Res.sat_mono q fun ra m1 q1 w1 va S1 x1 ra1 => ?_
  split at q1
  · rename_i kvs0 hd0
    obtain ⟨p, ks, rfl, h1, r1⟩ := (S1.der ra1 hd0).dic
    rw [Res.sat_bind] at q1
    refine ⟨p, rfl, .inl ⟨ks, h1⟩, w1, m1, rfl, P.step S1 x1, ?_⟩
    rw [opdF, Res.sat_bind]
    refine Res.sat_mono q1 fun rb m2 q2 w2 vb S2 x2 rb2 => ?_
    rw [Res.sat_bind] at q2
    refine ⟨w2, m2, rfl, (P.step S1 x1).step S2 x2, ?_⟩
    rw [opdF, Res.sat_bind]
    refine Res.sat_mono q2 fun rc m3 q3 w3 vc S3 x3 rc3 => ?_
    split at q3
    · rename_i kvs kt xt g1 g2 g3
      split at q3
      · rename_i hf
        split at q3
        · rename_i key hk
          obtain ⟨p', ks', e', h1', r1'⟩ := (S3.der (ra1.mono (x2.trans x3).mo) g1).dic
          cases e'
          have ek : vb = kV key := key_v hk (S3.der (rb2.mono x3.mo) g2)
          subst ek
          have rx : RF C.G w3 xt vc := by
            rcases (S3.der rc3 g3).cases' with r | ⟨o, p, e, _, _⟩
            · exact r
            · subst e; cases o <;> cases hf
          refine ⟨_, .inl ⟨ks', key, h1', rfl, rfl⟩, ?_⟩
          have fin : ∀ v, RF C.G w3 ((valT kvs key).getD xt) v → Q v w3.H := fun v r => q3 w3 v S3 (x1.trans (x2.trans x3)) r
          rcases r1'.valV key with ⟨z1, z2⟩ | ⟨t, v, z1, z2, r'⟩
          · rw [z1] at fin; rw [z2]; exact fin _ rx
          · rw [z1] at fin; rw [z2]; exact fin _ r'
        · exact q3.elim
      · exact q3.elim
    · exact q3.elim
  · exact q1.elim
end
end Mi
set_option maxHeartbeats 1000000
namespace Mi
open PySem PySem.Spec PyProof.Rows L2
section
variable {P : R → Prop}
theorem wo_mul {a b : Int} (h : a.natAbs < 2 ^ 200) (h' : b.natAbs < 2 ^ 200) (q : P (.fz (.int (a * b)))) : wO .mul [.int a, .int b] P := .of (mulF_ok h h') q
theorem wo_mod {a b : Int} (h : 0 < b) (q : P (.fz (.int (a % b)))) : wO .mod [.int a, .int b] P := .of (if_pos h) q
theorem wo_fdiv {a b : Int} (h : 0 < b) (h2 : b < 2 ^ 200) (q : P (.fz (.int (a / b)))) : wO .fdiv [.int a, .int b] P := .of (by
  have : b.natAbs.log2 < 9000 := by
    have : b.natAbs.log2 < 200 := (Nat.log2_lt (by omega)).mpr (by omega)
    omega
  exact if_pos ⟨h, this⟩) q
theorem wo_inI {x : Int} {xs : List Int} (q : P (.fz (.bl (decide (x ∈ xs))))) : wO .isin [.int x, .lst (tI xs)] P := .of (in_tI id x xs) q
theorem wo_notinI {x : Int} {xs : List Int} (q : P (.fz (.bl (!decide (x ∈ xs))))) : wO .notin [.int x, .lst (tI xs)] P := .of (in_tI not x xs) q
theorem wo_inD {x : Int} {xs : List Int} (q : P (.fz (.bl (decide (x ∈ xs))))) : wO .isin [.int x, .dic (dI xs)] P := .of (in_dI id x xs) q
theorem wo_eqI {xs ys : List Int} (q : P (.fz (.bl (decide (xs = ys))))) : wO .eq [.lst (tI xs), .lst (tI ys)] P := .of (eq_tI id xs ys) q
theorem wo_neI {xs ys : List Int} (q : P (.fz (.bl (!decide (xs = ys))))) : wO .ne [.lst (tI xs), .lst (tI ys)] P := .of (eq_tI not xs ys) q
theorem wo_eqN {xs : List Int} (q : P (.fz (.bl (decide (xs = []))))) : wO .eq [.lst (tI xs), .lst []] P := .of (eq_tI id xs []) q
theorem wo_neN {xs : List Int} (q : P (.fz (.bl (!decide (xs = []))))) : wO .ne [.lst (tI xs), .lst []] P := .of (eq_tI not xs []) q
theorem wo_addS {x y : PySem.Str} (h : x.length + y.length ≤ sizeLine) (q : P (.fz (.str (x ++ y)))) : wO .add [.str x, .str y] P := .of (if_pos h) q
theorem wo_addL {x y : List T} (h : x.length + y.length ≤ sizeLine) (q : P (.ow (.lst (x ++ y)))) : wO .add [.lst x, .lst y] P := .of (if_pos h) q
/-- flat things in a list -/
theorem wo_in {x : T} {xs : List T} (h : flatT x = true) (h' : xs.all flatT = true) (q : P (.fz (.bl (xs.any fun y => eqT y x)))) : wO .isin [x, .lst xs] P := .of (by
  cases x <;> first | (cases h; done) | exact if_pos ⟨rfl, h'⟩ | skip
  all_goals exact if_pos ⟨h, h'⟩) q
theorem wo_idxI {x : Int} {xs : List Int} (h0 : 0 ≤ x) (h1 : x < xs.length) (q : P (.fz (.int (xs.getD x.toNat 0)))) : wO .idx [.lst (tI xs), .int x] P := .of (by
  show (atI (tI xs) x).map R.fz = _
  have lt : x.toNat < xs.length := by omega
  rw [atI_nat (x := .int (xs.getD x.toNat 0)) (n := x.toNat) (by omega) (by rw [List.getElem?_map, List.getElem?_eq_getElem lt, List.getD_eq_getElem?_getD, List.getElem?_eq_getElem lt]; rfl)]
  rfl) q
theorem ints_tI' : ∀ l : List Int, intsT (tI l) = some l
  | [] => rfl
  | a :: l => by show (intsT (tI l)).map _ = _; rw [ints_tI' l]; rfl
theorem wo_srtI {xs : List Int} (q : P (.ow (.lst (tI (sortS xs))))) : wO .srt [.lst (tI xs)] P := .of (by
  show srtF (.lst (tI xs)) = _
  unfold srtF
  rw [show seqI (.lst (tI xs)) = some xs from ints_tI' xs]) q
theorem wo_srtS {xs : List PySem.Str} (hl : xs.length < 64) (q : P (.ow (.lst ((sortT xs).map T.str)))) : wO .srt [.lst (xs.map T.str)] P := .of (by
  show srtF (.lst (xs.map T.str)) = _
  unfold srtF
  cases xs with
  | nil => rfl
  | cons x r =>
    rw [show seqI (.lst ((x :: r).map T.str)) = none from rfl]
    simp only
    rw [strs_tS]
    exact if_pos hl) q
theorem wo_uniqI {xs : List Int} (h : xs.length < 64) (q : P (.ow (.lst (tI (uniqS xs))))) : wO .uniq [.lst (tI xs)] P := .of (by
  show (intsT (tI xs)).bind _ = _
  rw [ints_tI']; exact if_pos h) q
end
/-! dicts of whole numbers by whole numbers -/
abbrev dI2 (kvs : List (Int × Int)) : List (Key × T) := kvs.map fun q => (.inl q.1, .int q.2)
theorem dI2_cons {q : Int × Int} {r : List (Int × Int)} : dI2 (q :: r) = (.inl q.1, .int q.2) :: dI2 r := rfl
def putP (kvs : List (Int × Int)) (a b : Int) : List (Int × Int) := if a ∈ kvs.map (·.1) then kvs.map fun q => if q.1 = a then (q.1, b) else q else kvs ++ [(a, b)]
theorem putT_dI2 (kvs : List (Int × Int)) (a b : Int) : putT (dI2 kvs) (.inl a) (.int b) = dI2 (putP kvs a b) := by
  unfold putT putP
  have e : ((dI2 kvs).any fun kv => decide (kv.1 = .inl a)) = decide (a ∈ kvs.map (·.1)) := by
    induction kvs with
    | nil => rfl
    | cons q r ih =>
      rw [dI2_cons, List.any_cons, ih, List.map_cons]
      by_cases h : q.1 = a
      · simp [h]
      · have : decide ((Sum.inl q.1 : Key) = .inl a) = false := by simpa using h
        rw [this, Bool.false_or]
        simp [List.mem_cons, Ne.symm h]
  rw [e]
  by_cases h : a ∈ kvs.map (·.1)
  · rw [if_pos (decide_eq_true h), if_pos h, List.map_map]
    show _ = (kvs.map fun q => if q.1 = a then (q.1, b) else q).map (fun q => ((.inl q.1 : Key), T.int q.2))
    rw [List.map_map]
    apply List.map_congr_left
    intro q _
    by_cases hq : q.1 = a
    · simp [hq]
    · simp [hq]
  · rw [if_neg (by simpa using h), if_neg h]
    simp
theorem putP_keys (kvs : List (Int × Int)) (a b : Int) (h : (kvs.map (·.1)).Nodup) : ((putP kvs a b).map (·.1)).Nodup := by
  unfold putP
  split
  · have : (kvs.map fun q => if q.1 = a then (q.1, b) else q).map (·.1) = kvs.map (·.1) := by
      rw [List.map_map]
      apply List.map_congr_left
      intro q _
      show (if q.1 = a then (q.1, b) else q).1 = q.1
      split <;> rfl
    rw [this]; exact h
  · rename_i hn
    rw [List.map_append, List.nodup_append]
    refine ⟨h, by simp, fun x hx y hy e => ?_⟩
    simp at hy
    subst hy
    subst e
    exact hn hx
theorem putP_mem {kvs : List (Int × Int)} {a b : Int} {q : Int × Int} (h : q ∈ putP kvs a b) : q ∈ kvs ∨ q = (a, b) := by
  unfold putP at h
  split at h
  · obtain ⟨p, hp, rfl⟩ := List.mem_map.mp h
    split
    · rename_i e; right; rw [← e]
    · exact .inl hp
  · rcases List.mem_append.mp h with h | h
    · exact .inl h
    · simp at h; exact .inr h
theorem putP_len (kvs : List (Int × Int)) (a b : Int) : (putP kvs a b).length ≤ kvs.length + 1 := by
  unfold putP
  split
  · rw [List.length_map]; omega
  · simp
theorem putsT_dI2 : ∀ (l kvs : List (Int × Int)), ∃ r, putsT (dI2 kvs) (dI2 l) = dI2 r ∧ ((kvs.map (·.1)).Nodup → (r.map (·.1)).Nodup) ∧ (∀ q ∈ r, q ∈ kvs ∨ q ∈ l) ∧ r.length ≤ kvs.length + l.length
  | [], kvs => ⟨kvs, rfl, id, fun _ h => .inl h, by simp⟩
  | q :: l, kvs => by
    obtain ⟨r, h1, h2, h3, h4⟩ := putsT_dI2 l (putP kvs q.1 q.2)
    refine ⟨r, ?_, fun h => h2 (putP_keys _ _ _ h), fun x hx => ?_, ?_⟩
    · rw [← h1, ← putT_dI2]; rfl
    · rcases h3 x hx with h | h
      · rcases putP_mem h with h | h
        · exact .inl h
        · exact .inr (by rw [h]; exact List.mem_cons_self)
      · exact .inr (List.mem_cons_of_mem _ h)
    · have := putP_len kvs q.1 q.2
      simp only [List.length_cons]
      omega
abbrev tP (l : List (Int × Int)) : List T := l.map fun q => .tup [.int q.1, .int q.2]
theorem pairsT_tP : ∀ l : List (Int × Int), pairsT (tP l) = some (dI2 l)
  | [] => rfl
  | q :: r => by
    show (pairT (.tup [.int q.1, .int q.2])).bind (fun p => (pairsT (tP r)).map fun l => p :: l) = _
    rw [pairsT_tP r]; rfl
/-- what a key holds -/
def valP (kvs : List (Int × Int)) (a : Int) : Int := ((kvs.find? fun q => decide (q.1 = a)).map (·.2)).getD 0
theorem valT_dI2 {kvs : List (Int × Int)} {a : Int} (h : a ∈ kvs.map (·.1)) : valT (dI2 kvs) (.inl a) = some (.int (valP kvs a)) := by
  unfold valT valP
  induction kvs with
  | nil => simp at h
  | cons q r ih =>
    rw [dI2_cons, List.find?_cons, List.find?_cons]
    by_cases e : q.1 = a
    · simp [e]
    · have e1 : decide ((Sum.inl q.1 : Key) = .inl a) = false := by simpa using e
      have e2 : decide (q.1 = a) = false := by simpa using e
      simp only [e1, e2]
      refine ih ?_
      simp only [List.map_cons, List.mem_cons] at h
      exact h.resolve_left (Ne.symm e)
section
variable {P : R → Prop}
theorem wo_idxD {x : Int} {kvs : List (Int × Int)} (h : x ∈ kvs.map (·.1)) (q : P (.fz (.int (valP kvs x)))) : wO .idx [.dic (dI2 kvs), .int x] P := .of (by
  show (some (Sum.inl x : Key)).bind (fun q => (valT (dI2 kvs) q).map R.fz) = _
  show (valT (dI2 kvs) (.inl x)).map R.fz = _
  rw [valT_dI2 h]; rfl) q
theorem wo_listD {kvs : List (Int × Int)} (q : P (.ow (.lst (tI (kvs.map (·.1)))))) : wO .list [.dic (dI2 kvs)] P := .of (by
  show some (R.ow (.lst ((dI2 kvs).map fun kv => unkey kv.1))) = _
  rw [List.map_map]
  show _ = some (R.ow (.lst ((kvs.map (·.1)).map T.int)))
  rw [List.map_map]; rfl) q
theorem wo_dict {l : List (Int × Int)} (q : ∀ r : List (Int × Int), (r.map (·.1)).Nodup → (∀ x ∈ r, x ∈ l) → r.length ≤ l.length → P (.ow (.dic (dI2 r)))) : wO .dict [.lst (tP l)] P := by
  obtain ⟨r, h1, h2, h3, h4⟩ := putsT_dI2 l []
  refine .of (r := .ow (.dic (dI2 r))) ?_ (q r (h2 (by simp)) (fun x hx => (h3 x hx).resolve_left (by simp)) (by simpa using h4))
  show (pairsT (tP l)).map (fun kvs => R.ow (.dic (putsT [] kvs))) = _
  rw [pairsT_tP]
  show some (R.ow (.dic (putsT (dI2 []) (dI2 l)))) = _
  rw [h1]
end
/-! sorted -/
theorem insS_mem (a x : Int) : ∀ l : List Int, x ∈ insS a l ↔ x = a ∨ x ∈ l
  | [] => by simp [insS]
  | b :: r => by
    unfold insS
    split
    · simp
    · rw [List.mem_cons, insS_mem a x r, List.mem_cons]
      constructor
      · rintro (h | h | h)
        · exact .inr (.inl h)
        · exact .inl h
        · exact .inr (.inr h)
      · rintro (h | h | h)
        · exact .inr (.inl h)
        · exact .inl h
        · exact .inr (.inr h)
theorem sortS_mem (x : Int) : ∀ l : List Int, x ∈ sortS l ↔ x ∈ l
  | [] => by simp [sortS]
  | a :: r => by rw [sortS, insS_mem, sortS_mem x r, List.mem_cons]
theorem insS_len (a : Int) : ∀ l : List Int, (insS a l).length = l.length + 1
  | [] => rfl
  | b :: r => by
    unfold insS
    split
    · rfl
    · rw [List.length_cons, insS_len a r]; rfl
theorem sortS_len : ∀ l : List Int, (sortS l).length = l.length
  | [] => rfl
  | a :: r => by rw [sortS, insS_len, sortS_len r]; rfl
theorem insS_asc {a : Int} : ∀ {l : List Int}, l.Pairwise (· < ·) → a ∉ l → (insS a l).Pairwise (· < ·)
  | [], _, _ => by simp [insS]
  | b :: r, h, hn => by
    rw [List.pairwise_cons] at h
    unfold insS
    split
    · rename_i hab
      have : a ≠ b := fun e => hn (by rw [e]; exact List.mem_cons_self)
      refine List.pairwise_cons.mpr ⟨fun x hx => ?_, List.pairwise_cons.mpr h⟩
      rcases List.mem_cons.mp hx with e | e
      · omega
      · have := h.1 x e; omega
    · rename_i hab
      refine List.pairwise_cons.mpr ⟨fun x hx => ?_, insS_asc h.2 fun z => hn (List.mem_cons_of_mem _ z)⟩
      rcases (insS_mem a x r).mp hx with e | e
      · omega
      · exact h.1 x e
theorem sortS_asc : ∀ {l : List Int}, l.Nodup → (sortS l).Pairwise (· < ·)
  | [], _ => by simp [sortS]
  | a :: r, h => by
    rw [List.nodup_cons] at h
    rw [sortS]
    exact insS_asc (sortS_asc h.2) fun z => h.1 ((sortS_mem a r).mp z)
end Mi
set_option maxHeartbeats 1000000
namespace Mi
open PySem PySem.Spec PyProof.Rows L2
/-! ### the law's draws, forward -/
/-- a bag with at least so many draws left -/
def Bg (b : Nat) (o : O) : Prop := ∃ c, Bag c (.ow o) ∧ c + b < 2 ^ 39
theorem Bg.mono {b b' : Nat} {o : O} (h : Bg b o) (l : b' ≤ b) : Bg b' o := by
  obtain ⟨c, h1, h2⟩ := h
  exact ⟨c, h1, by omega⟩
structure Draws (cal : Nat → List Slot → CRes) (t f : Nat) : Prop where
  take : ∀ {o : O} {b : Nat} {many : Int}, Bg (b + 1) o → 0 < many → many < 2 ^ 64 → ∃ d o', cal t [.ow o, .fz (.int many)] = .ok (.fz (.int d)) [.ow o', .no] ∧ 0 ≤ d ∧ d < many ∧ Bg b o'
  of : ∀ {o : O} {b : Nat} {xs : T} {n : Nat}, Bg (b + 1) o → lenF xs = fI n → 0 < n → n < 2 ^ 63 → (∀ d : Nat, d < n → ∃ y, idxF xs (.int d) = some (.fz y)) → ∃ (d : Nat) (y : T) (o' : O), cal f [.ow o, .fz xs] = .ok (.fz y) [.ow o', .no] ∧ d < n ∧ idxF xs (.int (d : Nat)) = some (.fz y) ∧ Bg b o'
theorem draws_ok {Γ : Nat → Option Def} {L k t f : Nat} (ht : Γ t = some dTake) (hf : Γ f = some (dOf t)) : Draws (callF Γ L (k + 2)) t f where
  take := fun {o b many} ⟨c, B, hc⟩ h0 h1 => by
    obtain ⟨d, s', e, g0, g1, B'⟩ := take_ok (Γ := Γ) (L := L) (k := k + 1) ht B (by omega) h0 h1
    obtain ⟨o', rfl⟩ := B'.ow
    exact ⟨d, o', e, g0, g1, c + 1, B', by omega⟩
  of := fun {o b xs n} ⟨c, B, hc⟩ hx h0 h1 hi => by
    obtain ⟨d, y, s', e, g0, g1, B'⟩ := of_ok (Γ := Γ) (L := L) (k := k) hf ht B (by omega) hx h0 h1 hi
    obtain ⟨o', rfl⟩ := B'.ow
    exact ⟨d, y, o', e, g0, g1, c + 1, B', by omega⟩
section
variable {cal : Nat → List Slot → CRes} {t f : Nat} {Q : R → List Slot → Prop} {o : O} {b : Nat}
theorem wc_take (D : Draws cal t f) {many : Int} (B : Bg b o) (hb : 0 < b) (h0 : 0 < many) (h1 : many < 2 ^ 64) (q : ∀ d o', 0 ≤ d → d < many → Bg (b - 1) o' → Q (.fz (.int d)) [.ow o', .no]) : wC cal t [.ow o, .fz (.int many)] Q := by
  obtain ⟨d, o', e, g0, g1, B'⟩ := D.take (b := b - 1) (B.mono (by omega)) h0 h1
  exact wC.fz e (q d o' g0 g1 B')
theorem wc_of (D : Draws cal t f) {xs : List T} (B : Bg b o) (hb : 0 < b) (h0 : Nat.blt 0 xs.length = true) (h1 : Nat.blt xs.length 100000 = true) (q : ∀ y o', y ∈ xs → Bg (b - 1) o' → Q (.fz y) [.ow o', .no]) : wC cal f [.ow o, .fz (.lst xs)] Q := by
  have l0 : 0 < xs.length := Nat.le_of_ble_eq_true h0
  have l1 : xs.length < 100000 := Nat.le_of_ble_eq_true h1
  obtain ⟨d, y, o', e, g0, g1, B'⟩ := D.of (b := b - 1) (xs := .lst xs) (n := xs.length) (B.mono (by omega)) rfl l0 (by omega) fun d hd => idx_lst hd
  exact wC.fz e (q y o' (idx_lst_mem g0 g1) B')
end
/-- the bag is made -/
theorem bag_mk {Γ : Nat → Option Def} {L k f : Nat} (hf : Γ f = some dBag) {ns : List Int} : ∃ o, callF Γ L (k + 1) f [.fz (.scr ns)] = .ok (.ow o) [.no] ∧ Bg (2 ^ 38) o := by
  obtain ⟨o, e, B⟩ := bag_ok (Γ := Γ) (L := L) (k := k) hf (ns := ns)
  exact ⟨o, e, 0, B, by decide⟩
end Mi
set_option maxHeartbeats 1000000
namespace Mi
open PySem PySem.Spec PyProof.Rows L2
/-! ### plain things equal themselves -/
def okT : T → Bool
  | .non => true
  | .bl _ => true
  | .int _ => true
  | .str s => PyData.canLay0 (.str s)
  | _ => false
/-- nested lists of flat things, their texts laid well -/
inductive Po : Nat → T → Prop
  | flat {n : Nat} {t : T} : okT t = true → Po n t
  | lst {n : Nat} {xs : List T} : (∀ x ∈ xs, Po n x) → Po (n + 1) (.lst xs)
theorem pl_py : ∀ {n : Nat} {t : T}, Po n t → ∃ d, pyT t = some d ∧ PyData.canLay0 d = true ∧ PyData.depth d ≤ n ∧ PyData.eqv d d = true
  | n, _, .flat (t := t) h => by
    cases t <;> first | (cases h; done) | skip
    · exact ⟨.none, rfl, rfl, Nat.zero_le _, rfl⟩
    · exact ⟨.bool _, rfl, rfl, Nat.zero_le _, by simp [PyData.eqv]⟩
    · exact ⟨.int _, rfl, rfl, Nat.zero_le _, by simp [PyData.eqv]⟩
    · exact ⟨.str _, rfl, h, Nat.zero_le _, by simp [PyData.eqv]⟩
  | n + 1, _, .lst (xs := xs) h => by
    have key : ∀ xs : List T, (∀ x ∈ xs, Po n x) → ∃ ds, pyTs xs = some ds ∧ PyData.canLayAll0 ds = true ∧ PyData.depthAll ds ≤ n ∧ PyData.eqvAll ds ds = true := by
      intro xs
      induction xs with
      | nil => intro _; exact ⟨[], rfl, rfl, Nat.zero_le _, rfl⟩
      | cons a r ih =>
        intro h
        obtain ⟨d, e1, e2, e3, e4⟩ := pl_py (h a List.mem_cons_self)
        obtain ⟨ds, f1, f2, f3, f4⟩ := ih fun x hx => h x (List.mem_cons_of_mem _ hx)
        refine ⟨d :: ds, by rw [pyTs, e1, f1], by rw [PyData.canLayAll0, e2, f2]; rfl, ?_, by rw [PyData.eqvAll, e4, f4]; rfl⟩
        rw [PyData.depthAll]
        omega
    obtain ⟨ds, f1, f2, f3, f4⟩ := key xs h
    exact ⟨.list ds, by rw [pyT, f1]; rfl, by rw [PyData.canLay0]; exact f2, by rw [PyData.depth]; omega, by rw [PyData.eqv]; exact f4⟩
theorem eq_pl {n : Nat} {xs : List T} (h : Po n (.lst xs)) (hn : n ≤ 60) (k : Bool → Bool) : eqF (.lst xs) (.lst xs) k = fB (k true) := by
  obtain ⟨d, e1, e2, e3, e4⟩ := pl_py h
  show (match pyT (.lst xs), pyT (.lst xs) with
    | some d, some e => if SeqAt.shaped d = true ∧ SeqAt.shaped e = true then fB (k (PyData.eqv d e)) else none
    | _, _ => _) = _
  have s : SeqAt.shaped d = true := by
    show (PyData.canLay0 d && decide (PyData.depth d ≤ 64)) = true
    rw [e2, Bool.true_and, decide_eq_true_eq]
    omega
  rw [e1]
  simp only
  rw [if_pos ⟨s, s⟩, e4]
section
variable {P : R → Prop}
theorem wo_nePl {n : Nat} {xs ys : List T} (e : xs = ys) (h : Po n (.lst xs)) (hn : n ≤ 60) (q : P (.fz (.bl false))) : wO .ne [.lst xs, .lst ys] P := by
  subst e; exact .of (eq_pl h hn not) q
theorem wo_eqPl {n : Nat} {xs ys : List T} (e : xs = ys) (h : Po n (.lst xs)) (hn : n ≤ 60) (q : P (.fz (.bl true))) : wO .eq [.lst xs, .lst ys] P := by
  subst e; exact .of (eq_pl h hn id) q
end
theorem po_flats {n : Nat} {xs : List T} (h : xs.all okT = true) : Po (n + 1) (.lst xs) := .lst fun x hx => .flat (List.all_eq_true.mp h x hx)
end Mi
set_option maxHeartbeats 1000000
namespace Mi
open PySem PySem.Spec PyProof.Rows L2
/-- what the facts see, off a tree that is made of the heap -/
def obsT (n : Nat) (fx : List Fx) (fn : List He5.DefA) (gk : List (Str × T)) (s : Shared) : Option AlQ := match HandSHeadRun.treeOf s with
  | some x => HandSHeadRun.frS x fun x => some (obsQG n fx fn gk (HandSHeadRun.getT x))
  | none => none
theorem obsT_ok {n : Nat} {fx : List Fx} {fn : List He5.DefA} {gk : List (Str × T)} {s : Shared} {v : AlQ} (h : obsT n fx fn gk s = some v) : obsQG n fx fn gk s.heap.get? = v := by
  unfold obsT at h
  cases e : HandSHeadRun.treeOf s with
  | none => rw [e] at h; cases h
  | some x =>
    rw [e] at h
    simp only [HandSHeadRun.frS_eq] at h
    obtain ⟨h1, _⟩ := HandSHeadRun.treeOf_eq e
    have : HandSHeadRun.getT x = s.heap.get? := funext fun a => by rw [HandSHeadRun.getT_eq, h1]
    rw [this] at h
    exact Option.some.inj h
def hookT (n : Nat) (fx : List Fx) (fn : List He5.DefA) (gk : List (Str × T)) : PySem.W.Hook where
  α := Option AlQ
  obs := obsT n fx fn gk
  val := fun _ => some (valQ fn)
  says := (hookQ n fx fn gk).says
  of := fun w s e => (hookQ n fx fn gk).of w s (obsT_ok e)
  keeps := (hookQ n fx fn gk).keeps
end Mi
set_option maxHeartbeats 1000000
/-! Cls.m(..) of a staticmethod; C(e, .., **kept) -/
namespace Mi
open PySem PySem.Spec PyProof.Rows L2

section
variable {C : Ct} {X : Cx} {k L : Nat} {cal : Nat → List Slot → CRes} {pos apos p1 p2 py kp : Pos}
/-! ### static methods -/
theorem getsm_ok {pins : List (Addr × Obj)} {σ : L2.St} {H : Hp} {s : Shared} {A : Around} {E : Value → Shared → Prop} {D p g : Addr} {rest : List Value} {mc : Value} {m : Str} {pl : Sem Bool} {Q : Value × List Value → Shared → Prop} (I : Inv X pins σ H s) (r : ClX.CRead X.K D mc)
    (h1 : PySem.W.findCls X.K (.ref D) mc m = some (.get (.builtin "staticmethod.__get__") (.ref p) .none (.ref D))) (h2 : PySem.W.recIn X.K p "staticmethod" = some (.ref g :: rest))
    (h : ∀ s', Inv X pins σ H s' → Q (.ref g, []) s') : wpAny (model X.prog X.w) A (getMethod (.ref D) m pl) Q E s := by
  refine PySem.W.method_cls I.kIn r.ga ?_
  refine PySem.W.cls_bind I.kIn r.rd h1 (wpAny_call (PySem.W.sm_get (s := { s with toks := s.toks + 1 }) I.kIn h2 (PySem.W.handed_on rfl ?_)))
  exact h _ (I.tok _)
theorem pe_smethS {CX : CXT} {D p g : Addr} {rest : List Value} {mc : Value} {fd : FuncData} {ps : List Str} {sp : Sp} {E : St → XK} {o e : Expr} {es : List Expr} {m : Str} {ta : TE} {t : TA} {pl : Sem Bool} (he : PE X o ta) (r : ClX.CRead X.K D mc)
    (h1 : PySem.W.findCls X.K (.ref D) mc m = some (.get (.builtin "staticmethod.__get__") (.ref p) .none (.ref D))) (h2 : PySem.W.recIn X.K p "staticmethod" = some (.ref g :: rest))
    (F : FnOk X.prog X.w X.K X.mg X.base CX k g fd ps sp) (hr : Room k X.A) (hk : PySem.W.keepIn X.K (.ref g) = true) (hb : Binds X.K fd ps []) (hx : ∀ σ, PassesAt CX X σ (E σ)) (ha : PA X (e :: es) t)
    (hst : starEach (e :: es) X.env = (false, eval e X.env) :: starEach es X.env) (hpl : (backTo pos (starEach es X.env)).any (·.1) = false)
    (ht : eval (.Call (.Attribute o m apos) (e :: es) [] pos) X.env = (do
      let ov ← eval o X.env
      standAt apos.atName
      let (f, first) ← holding [ov] (getMethod ov m pl)
      callWith pos f first (backTo pos (starEach (e :: es) X.env)) (backToKw pos (keywordEach [] X.env)))) :
    PE X (.Call (.Attribute o m apos) (e :: es) [] pos) (fun σ H Q => ta σ H fun x H1 => x = .ref D ∧ tCallS sp E t σ H1 Q) := by
  refine ⟨fun pins s σ H Q I h => ?_⟩
  refine PySem.W.methodCall_KW (pl := pl) (thn (he.run pins s σ H _ I h) fun u s1 ⟨x, H1, I1, rx, ex, q⟩ => ?_) ht
  subst ex
  obtain rfl : u = Value.ref D := rx
  refine getsm_ok I1 r h1 h2 fun s2 I2 => ?_
  refine PySem.W.callWith_K (first := []) (h₀ := X.base) I.ok.mod.kin hk (thn (ha.run pos pins s2 σ H1 _ I2 q) fun us s3 ⟨vs, H2, I3, rv, q2⟩ => ⟨I3.kIn, ?_⟩) hst hpl
  exact run_fnS F hr hb (hx σ) I3 rv q2
variable {tab : Nat → Option (He5.DefA × List Str)} {fx : List Fx} {gk : List (Str × T)} {cn : List Str}
theorem q_smeth (c : XC C X k) (e : GX tab fx gk cn X k C.G cal) {pl : Sem Bool} {f ig ic im : Nat} {nm m : Str} {d : He5.DefA} {ps : List Str} {e1 : Expr} {es1 : List Expr} {io : List Bool} {es : Es} (hig : fx[ig]? = some (.glo nm)) (hic : fx[ic]? = some (.crd nm)) (him : fx[im]? = some (.smet nm m)) (ht : tab f = some (d, ps))
    (hat : d.at_ = fun K => He5.wf K (He.ga K nm) "staticmethod" m) (b : Bnd d ps fx ps.length []) (h : PA X (e1 :: es1) (rdDs C (evDs cal es))) (hg : Gl X nm := by rfl) (hdb : (nm == ("__debug__" : Str)) = false := by decide)
    (hst : starEach (e1 :: es1) X.env = (false, eval e1 X.env) :: starEach es1 X.env := by rfl) (hpl : (backTo pos (starEach es1 X.env)).any (·.1) = false := by rfl)
    (he : eval (.Call (.Attribute (.Name nm p1) m apos) (e1 :: es1) [] pos) X.env = (do
      let ov ← eval (.Name nm p1) X.env
      standAt apos.atName
      let (f, first) ← holding [ov] (getMethod ov m pl)
      callWith pos f first (backTo pos (starEach (e1 :: es1) X.env)) (backToKw pos (keywordEach [] X.env))) := by rfl) :
    PE X (.Call (.Attribute (.Name nm p1) m apos) (e1 :: es1) [] pos) (rdE C (evE cal (.call f io es))) := by
  obtain ⟨fd, dvs, ds, h1, h2, h3, ok⟩ := e.defA ht b
  obtain ⟨fd', F, _⟩ := e.fns f d ps ht
  have r := h3 ⟨fun _ => True, fun _ => True, fun _ => none⟩
  cases r
  cases h1
  have ha' : d.at_ X.K = He5.wf X.K (He.ga X.K nm) "staticmethod" m := by rw [hat]
  rw [ha'] at ok F
  obtain ⟨g1, rest, g2⟩ := Fx.smetT (e.fxs im _ him)
  exact n_call (fun t ht => PE.imp (pe_smethS (E := WE (WM C)) (pl := pl) (pe_glob (v := .ref (He.ga X.K nm)) hg (e.glo ig nm hig) rfl hdb) (Fx.crdT (e.fxs ic _ hic)) g1 g2 ok c.low F.kp h2 (fun σ => passAt c.tk σ) ht hst hpl he) fun σ H Q q => ⟨rfl, q⟩) h
/-- by keywords alone, in the parameters' order -/
structure BndKw (d : He5.DefA) (ps : List Str) : Prop where
  b : ∀ {K : PySem.W.Frag} {f : Addr} {fd : FuncData}, L2.FunD K d.name d.qual d.params d.body d.scope (d.dvs K) (d.kws K) f fd → ∀ us : List Value, us.length = ps.length → bindArgs fd ⟨[], ps.zip us⟩ = pure (ps.zip us)
theorem bndKw {d : He5.DefA} {ps : List Str} (hd : d.dfl = []) (h : ∀ (kV doc pm : Value) (an : Option Addr) (cdv ct : Value) (us : List Value), us.length = ps.length → bindArgs (PySem.W.fnOf d.name d.qual d.params d.body d.scope .none kV doc pm an cdv ct) ⟨[], ps.zip us⟩ = pure (ps.zip us)) : BndKw d ps := ⟨fun {K f fd} F => by
  have e : d.dvs K = [] := by unfold He5.DefA.dvs; rw [hd]; rfl
  rw [e] at F
  exact FunD.kws F h⟩
theorem q_smethK (c : XC C X k) (e : GX tab fx gk cn X k C.G cal) {pl : Sem Bool} {f ig ic im : Nat} {nm m : Str} {d : He5.DefA} {ps : List Str} {kws : List Keyword} {io : List Bool} {es : Es} (hig : fx[ig]? = some (.glo nm)) (hic : fx[ic]? = some (.crd nm)) (him : fx[im]? = some (.smet nm m)) (ht : tab f = some (d, ps))
    (hat : d.at_ = fun K => He5.wf K (He.ga K nm) "staticmethod" m) (hnc : noCls ps = true) (b : BndKw d ps) (hkw : PK X kws (rdDs C (evDs cal es))) (hg : Gl X nm := by rfl) (hdb : (nm == ("__debug__" : Str)) = false := by decide)
    (hall : (backToKw pos (keywordEach kws X.env)).all (·.1.isSome) = true := by rfl) (hks : (backToKw pos (keywordEach kws X.env)).filterMap (·.1) = ps := by rfl) (hpl : ((backTo pos (starEach [] X.env)).any (·.1) || (backToKw pos (keywordEach kws X.env)).any (·.1.isNone)) = false := by rfl)
    (he : eval (.Call (.Attribute (.Name nm p1) m apos) [] kws pos) X.env = (do
      let ov ← eval (.Name nm p1) X.env
      standAt apos.atName
      let (f, first) ← holding [ov] (getMethod ov m pl)
      callWith pos f first (backTo pos (starEach [] X.env)) (backToKw pos (keywordEach kws X.env))) := by rfl) :
    PE X (.Call (.Attribute (.Name nm p1) m apos) [] kws pos) (rdE C (evE cal (.call f io es))) := by
  obtain ⟨fd, F, ok⟩ := e.fns f d ps ht
  replace ok := ok.imp (sp' := spM C.G cal f) fun vs H Q E h => ⟨fun z => (by rw [hnc] at z; cases z), h⟩
  have hb := b.b F
  have ha' : d.at_ X.K = He5.wf X.K (He.ga X.K nm) "staticmethod" m := by rw [hat]
  rw [ha'] at ok F
  obtain ⟨g1, rest, g2⟩ := Fx.smetT (e.fxs im _ him)
  refine PE.imp (t := tCallM C cal f (rdDs C (evDs cal es))) ⟨fun pins s σ H Q I h => ?_⟩ fun σ H Q ⟨w, m, e, P, q⟩ => ?_
  · refine PySem.W.methodCall_KW (pl := pl) (thn ((pe_glob (v := .ref (He.ga X.K nm)) hg (e.glo ig nm hig) rfl hdb).run pins s σ H (fun v H1 => v = .ref (He.ga X.K nm) ∧ H1 = H) I ⟨rfl, rfl⟩) fun u s1 ⟨x, H1, I1, rx, ex, eH⟩ => ?_) he
    subst ex eH
    obtain rfl : u = Value.ref (He.ga X.K nm) := rx
    refine getsm_ok I1 (Fx.crdT (e.fxs ic _ hic)) g1 g2 fun s2 I2 => ?_
    refine PySem.W.callWith_KW0 (h₀ := X.base) I.ok.mod.kin F.kp hall (thn (hkw.run pos pins s2 σ _ _ I2 h) fun ws s3 ⟨zs, H2, I3, rz, q2⟩ => ⟨I3.kIn, ?_⟩) hpl
    rw [hks]
    have hl : ws.length = ps.length := by rw [← rz.length]; exact ok.len _ _ _ _ q2
    refine wpAny_call (codeAny_mono (ok.run X.A X.stack s3 H2 ⟨[], ps.zip ws⟩ ws zs Q (WE (WM C) σ) c.low I3.env0 (.of_eq (hb ws hl)) rz q2) fun r s' hq => ?_)
    cases r with
    | error e => exact passAt c.tk σ pins H2 s3 e s' I3 hq
    | ok fl =>
      cases fl with
      | ret u => exact I3.after hq
      | next => exact False.elim hq
      | brk => exact False.elim hq
      | cont => exact False.elim hq
  · rw [evE, Res.sat_bind] at q
    refine ⟨w, m, e, P, Res.sat_mono q fun ds m1 q1 w1 vs S1 x1 r1 => ?_⟩
    exact call_core (P.step S1 x1) r1 (Res.sat_mono q1 fun r m2 k w' v S' x' rr => k w' v S' (x1.trans x') rr)
/-! ### a, b = x, [] : the tuple is not kept -/
theorem w_parfN (c : XC C X k) {i j : Nat} {x y : Str} {a b : Expr} {ea eb : E} {kt k2} {p3 p4 : Pos} (nfx : C.fx i = false ∧ C.fx j = false) (ha : PE X a (rdE C (evE cal ea))) (hb : PE X b (rdE C (evE cal eb))) (hx : PG X (.Name x p1) (gName i)) (hy : PG X (.Name y p2) (gName j))
    (h2 : starEach [a, b] X.env = (false, eval a X.env) :: starEach [b] X.env := by rfl) (h3 : starEach [b] X.env = (false, eval b X.env) :: starEach [] X.env := by rfl)
    (hn : (assignEach [.Name x p1, .Name y p2] X.env).length = 2 := by rfl) (hst : (assignEach [.Name x p1, .Name y p2] X.env).findIdx? (·.1) = none := by rfl)
    (hs : swapsWithSole [.Tuple [.Name x p1, .Name y p2] kt p3] (.Tuple [a, b] k2 p4) pos.line X.env = pure false := by rfl) (hw : swappedStores [.Tuple [.Name x p1, .Name y p2] kt p3] (.Tuple [a, b] k2 p4) X.env = pure none := by rfl)
    (h1 : (assignEach [.Tuple [.Name x p1, .Name y p2] kt p3] X.env).map (·.2) = [assign (.Tuple [.Name x p1, .Name y p2] kt p3) X.env] := by rfl) :
    PS X (.Assign [.Tuple [.Name x p1, .Name y p2] kt p3] (.Tuple [a, b] k2 p4) pos) (rdSt C (evS cal L (.parf i j ea eb))) :=
  PS.imp (ps_asg (pe_tup (pa_cons ha (pa_cons hb pa_nil h3) h2)) (pg_tup c.calm (pgs_cons hx (pgs_cons hy pgs_nil)) hn hst) hs hw h1) fun D σ H ⟨w, m, eH, P, q⟩ => by
  rw [evS, FSat_ofR] at q
  refine ⟨w, m, eH, P, Res.sat_mono q fun ra m1 q1 w1 v1 S1 x1 r1 => ?_⟩
  cases ra with
  | ow o => exact q1.elim
  | bo i => exact q1.elim
  | fz t =>
    rw [FSat_ofR] at q1
    refine ⟨w1, m1, rfl, P.step S1 x1, Res.sat_mono q1 fun rb m2 q2 w2 v2 S2 x2 r2 => ?_⟩
    cases rb with
    | fz t => exact q2.elim
    | bo i => exact q2.elim
    | ow o =>
      obtain ⟨p, rfl, ro, l, n⟩ := r2
      simp only at q2
      split at q2
      · refine ⟨by show 2 ≤ sizeLine; decide, fun q0 hq0 => ⟨q0, [v1, .ref p], rfl, .inl (.inl upd_same), rfl, v1, [.ref p], rfl, .ref p, [], rfl, rfl, ?_⟩⟩
        have hp : ∃ u, w2.H p = some u := ro.trk
        have hpq : p ≠ q0 := fun e => by
          obtain ⟨u, hu⟩ := hp
          rw [e, hq0] at hu
          cases hu
        have S3 : SR C.G ((w2.new q0 (.tup [v1, .ref p])).hide q0) m2 σ := (S2.new hq0).hide fun i' o' h e => by
          obtain ⟨a', e1, r', _⟩ := S2.sl i' _ h
          rw [e] at e1
          cases e1
          obtain ⟨u', hu⟩ := r'.trk
          rw [hq0] at hu
          cases hu
        have x3 : Ex w2 ((w2.new q0 (.tup [v1, .ref p])).hide q0) := (Ex.new S2.trk hq0).trans (Ex.hide (.inr rfl))
        have rf : RF C.G ((w2.new q0 (.tup [v1, .ref p])).hide q0) t v1 := RF.mono x3.mo (RF.mono x2.mo r1)
        have ro' : RO C.G ((w2.new q0 (.tup [v1, .ref p])).hide q0) p o := ro.mono x3.mo (by show upd w2.H q0 _ p = w2.H p; rw [upd_ne hpq])
        have S4 := (S3.setFz (i := i) rf).setOw (i := j) ro' ⟨.inl l, hpq⟩ (setOw_fz n)
        refine q2 ((w2.new q0 (.tup [v1, .ref p])).hide q0) _ ⟨S4, P.ex.trans (x1.trans (x2.trans x3)), fun k hk => ?_⟩ (x1.trans (x2.trans x3))
        rw [List.getElem?_set_ne, List.getElem?_set_ne, P.fix k hk]
        · intro e; rw [e, hk] at nfx; exact nomatch nfx.1
        · intro e; rw [e, hk] at nfx; exact nomatch nfx.2
      · exact q2.elim
/-! ### two stars -/
theorem evDs_app2 : ∀ (es fs : Es) (m : List Slot), evDs cal (es.app fs) m = (evDs cal es m).bind fun ds m1 => (evDs cal fs m1).bind fun ds2 m2 => .ok (ds ++ ds2) m2
  | .nil, fs, m => by
    rw [Es.app, evDs]
    show _ = (evDs cal fs m).bind _
    cases evDs cal fs m <;> rfl
  | .cons e r, fs, m => by
    rw [Es.app, evDs, evDs]
    rw [Res.bind_assoc]
    congr 1
    funext x m1
    rw [evDs_app2 r fs m1, Res.bind_assoc, Res.bind_assoc]
    congr 1
    funext xs m2
    rw [Res.bind_assoc]
    rfl
theorem RDs.app2 {G : Gm} {w : Wd} {σ : St} {ds ds2 : List Opd} {vs vs2 : List V} (a : RDs G w σ ds vs) (b : RDs G w σ ds2 vs2) : RDs G w σ (ds ++ ds2) (vs ++ vs2) := by
  induction a with
  | nil => exact b
  | cons x _ ih => exact .cons x ih
theorem rfk_str {G : Gm} {w : Wd} {ns : List Str} : ∀ {kvs : List (Key × T)} {ks : List (Key × V)}, RFk G w kvs ks → (kvs.all fun kv => match kv.1 with
    | .inr x => !ns.contains x
    | .inl _ => false) = true → ∃ l : List (Str × V), ks = dkS l ∧ ∀ p ∈ l, ns.contains p.1 = false
  | _, _, .nil, _ => ⟨[], rfl, fun _ h => by cases h⟩
  | _, _, .cons (k := .inl i) a r, h => by cases h
  | _, _, .cons (k := .inr x) (v := v) a r, h => by
    rw [List.all_cons, Bool.and_eq_true] at h
    obtain ⟨l, rfl, h2⟩ := rfk_str r h.2
    refine ⟨(x, v) :: l, rfl, fun p hp => ?_⟩
    rcases List.mem_cons.mp hp with rfl | hp
    · simpa using h.1
    · exact h2 p hp
theorem upd_comm {H : Hp} {a b : Addr} {u v : HO} (h : a ≠ b) : upd (upd H a u) b v = upd (upd H b v) a u := by
  funext c
  unfold upd
  by_cases h1 : c = b
  · subst h1
    rw [if_pos rfl, if_neg (fun e => h e.symm), if_pos rfl]
  · rw [if_neg h1, if_neg h1]
theorem ev_kw {i : Nat} {N : List Str} {m1 : List Slot} {r : R} {t : T} (h : evE cal (.var i) m1 = .ok r m1) (ht : der m1 r.opd = some t) :
    evDs cal (.cons (.op (.kwd N) (.cons (.var i) .nil)) .nil) m1 = match kwdF N t with
      | some r' => .ok [r'.opd] m1
      | none => .no := by
  rw [evDs, evE, evDs, h]
  show Res.bind (Res.bind (Res.bind (Res.ok r m1) _) _) _ = _
  simp only [Res.bind, evDs, opR, ders, ht, opF, op1, Option.bind_some]
  cases kwdF N t <;> rfl
theorem rd_mkW {c f i : Nat} {N : List Str} {es : Es} (hN : es.len + 1 = N.length) {σ : St} {H : Hp} {Q : VK} (q : rdE C (evE cal (.mk c f [] (es.app (.cons (.op (.kwd N) (.cons (.var i) .nil)) .nil)))) σ H Q) :
    tMakeD (C.G.cls c) N (spM C.G cal f) EF i (rdDs C (evDs cal es)) σ H Q := by
  have q := rd_mk0 (pm := []) (pmv := fun vs => vs) (fun r => r) q
  obtain ⟨w, m, e, P, q⟩ := q
  refine ⟨w, m, e, P, ?_⟩
  rw [evDs_app2] at q
  cases hd : evDs cal es m with
  | no => rw [hd] at q; exact q.elim
  | ex x m1 => rw [hd] at q; exact q
  | ok ds m1 =>
    rw [hd] at q
    have q1 : ((evDs cal (.cons (.op (.kwd N) (.cons (.var i) .nil)) .nil) m1).bind fun ds2 m2 => Res.ok (ds ++ ds2) m2).sat _ _ := q
    intro w1 vs S1 x1 r1
    have hl : ds.length = es.len := evDs_len es m ds m1 hd
    have key : ∃ kvs d v, der m1 d = some (.dic kvs) ∧ (kvs.all fun kv => match kv.1 with
        | .inr x => !N.contains x
        | .inl _ => false) = true ∧ σ[i]? = some (some v) ∧ RD C.G w1 σ d v ∧
        evDs cal (.cons (.op (.kwd N) (.cons (.var i) .nil)) .nil) m1 = .ok [.t (.dic kvs)] m1 := by
      have fin : ∀ (r : R) (t : T) (v : V), evE cal (.var i) m1 = .ok r m1 → der m1 r.opd = some t → σ[i]? = some (some v) → RD C.G w1 σ r.opd v → ∃ kvs d v, der m1 d = some (.dic kvs) ∧ (kvs.all fun kv => match kv.1 with
          | .inr x => !N.contains x
          | .inl _ => false) = true ∧ σ[i]? = some (some v) ∧ RD C.G w1 σ d v ∧
          evDs cal (.cons (.op (.kwd N) (.cons (.var i) .nil)) .nil) m1 = .ok [.t (.dic kvs)] m1 := by
        intro r t v h1 h2 h3 h4
        have h5 := ev_kw (N := N) h1 h2
        cases hk : kwdF N t with
        | none => rw [hk] at h5; rw [h5] at q1; exact q1.elim
        | some r' =>
          rw [hk] at h5
          unfold kwdF at hk
          split at hk
          · rename_i kvs
            split at hk
            · rename_i hall
              cases hk
              exact ⟨kvs, r.opd, v, h2, hall, h3, h4, h5⟩
            · cases hk
          · cases hk
      cases hm : m1[i]? with
      | none =>
        have h1 : evE cal (.var i) m1 = .no := by rw [evE, hm]
        rw [evDs, evE, evDs, h1] at q1
        exact q1.elim
      | some sl =>
        cases sl with
        | no =>
          have h1 : evE cal (.var i) m1 = .no := by rw [evE, hm]
          rw [evDs, evE, evDs, h1] at q1
          exact q1.elim
        | fz t =>
          have h1 : evE cal (.var i) m1 = .ok (.fz t) m1 := by rw [evE, hm]
          obtain ⟨v, hv, rv⟩ := S1.sl i _ hm
          exact fin (.fz t) t v h1 rfl hv rv
        | ow o =>
          have h1 : evE cal (.var i) m1 = .ok (.bo i) m1 := by rw [evE, hm]
          obtain ⟨a, ha, _, _⟩ := S1.sl i _ hm
          exact fin (.bo i) o.frz (.ref a) h1 (by show (match m1[i]? with | some (.ow o) => some o.frz | some (.fz t) => some t | _ => none) = _; rw [hm]) ha ha
    obtain ⟨kvs, d0, v, h2, hall, hσ, hrd, hev⟩ := key
    rw [hev] at q1
    obtain ⟨p, ks, rfl, hp, rk⟩ := (S1.der hrd h2).dic
    obtain ⟨l, rfl, hl2⟩ := rfk_str rk hall
    refine ⟨by rw [← r1.len, hl]; exact hN, p, l, hσ, hp, hl2, fun mm x dx d hm hx hdx hd n1 n2 n3 n4 n5 n6 => ?_⟩
    have S2 := S1.new (u := .dK (dkS l)) hm
    have x2 := Ex.new (u := .dK (dkS l)) S1.trk hm
    have hd2 : (w1.new mm (.dK (dkS l))).H d = none := by
      show upd w1.H mm _ d = none
      rw [upd_ne n3]; exact hd
    have S3 := S2.new (u := .dK (dkS l)) hd2
    have x3 := Ex.new (u := .dK (dkS l)) S2.trk hd2
    have rr : RR C.G ((w1.new mm (.dK (dkS l))).new d (.dK (dkS l))) m1 σ (.ow (.dic kvs)) (.ref d) := by
      refine ⟨d, rfl, .dic upd_same (RFk.mono x3.mo (RFk.mono x2.mo rk)), .inr rfl, fun i o' h e => ?_⟩
      obtain ⟨a, e1, r1, _⟩ := S2.sl i _ h
      rw [e] at e1
      cases e1
      obtain ⟨u', hu⟩ := r1.trk
      rw [hd2] at hu
      cases hu
    obtain ⟨w4, e4, S4, x4, d4⟩ := S3.opd rr
    have xx := x2.trans (x3.trans x4)
    have eH : w4.H = upd (upd w1.H mm (.dK (dkS l))) d (.dK (dkS l)) := e4
    have z := q1 w4 (vs ++ [.ref d]) S4 (x1.trans xx) ((r1.mono xx.mo).app2 (.cons (show RD C.G w4 σ (.t (.dic kvs)) (.ref d) from d4) .nil)) x dx (by rw [eH, upd_ne (Ne.symm n5), upd_ne n1]; exact hx) (by rw [eH, upd_ne (Ne.symm n6), upd_ne n2]; exact hdx) n4
    rw [eH, upd_comm n6, upd_comm n5] at z
    exact z
theorem kwD_of {K : PySem.W.Frag} {x qual : Str} {params : Arguments} {body : List Stmt} {scope : Scope} {dvs : List V} {kws : List (Str × V)} {f : Addr} {fd : FuncData} {N : List Str} {y : Str} (F : L2.FunD K x qual params body scope dvs kws f fd) (hpo : params.posonlyargs = []) (hn : params.args.map (·.arg) = N) (hko : params.kwonlyargs = []) (hva : params.vararg = none) (hkw : params.kwarg.map (·.arg) = some y) (hN : N.Nodup) :
    ∃ a, a.arg = y ∧ KwD K fd N a := by
  obtain ⟨oc, od, dV, kV, doc, pm, an, cdv, ct, osl, rfl, lk, hcd, hD, hK⟩ := F.ex
  cases hk : params.kwarg with
  | none => rw [hk] at hkw; cases hkw
  | some a =>
    rw [hk] at hkw
    refine ⟨a, Option.some.inj hkw, hpo, hn, hko, hva, hk, hN, ?_⟩
    rcases hD with ⟨_, rfl⟩ | ⟨_, T, o, its, m, rfl, lT, oT, rT⟩
    · exact ⟨none, fun M h X => PySem.W.Looks.of_pure rfl⟩
    · refine ⟨some its.toArray, fun M h X => ?_⟩
      have := L2.looks_items (M := M) (k := fun x => (pure x : Sem (Option (Array Value)))) X lT oT (PySem.W.Looks.of_pure rfl)
      rwa [bind_pure] at this
theorem q_mkW (c : XC C X k) (e : GX tab fx gk cn X k C.G cal) {cl f i ig im : Nat} {nm y : Str} {N : List Str} {y0 : Str} {d : He5.DefA} {e1 : Expr} {es1 : List Expr} {es : Es} (hcl : cn[cl]? = some nm) (hig : fx[ig]? = some (.glo nm)) (him : fx[im]? = some (.mkr nm)) (ht : tab f = some (d, N ++ [y0]))
    (hat : d.at_ = fun K => He.ma K (He.ga K nm) "__init__") (hn : es.len + 1 = N.length) (D : ∀ {K : PySem.W.Frag} {f : Addr} {fd : FuncData}, L2.FunD K d.name d.qual d.params d.body d.scope (d.dvs K) (d.kws K) f fd → ∃ a, a.arg = y0 ∧ KwD K fd N a) (hnc : noCls (N ++ [y0]) = true) (h : PA X (e1 :: es1) (rdDs C (evDs cal es))) (hN : X.N[i]? = some y) (hv : Vis X.env.scope y)
    (hg : Gl X nm := by rfl) (hdb : (nm == ("__debug__" : Str)) = false := by decide) (hdb2 : (y == ("__debug__" : Str)) = false := by decide) (hcd2 : (y == ("__classdict__" : Str)) = false := by decide)
    (hkw : backToKw pos (keywordEach [⟨none, .Name y py, kp⟩] X.env) = [(none, (do let v ← eval (.Name y py) X.env; standAt pos; pure v : Sem Value))] := by rfl)
    (he : starEach (e1 :: es1) X.env = (false, eval e1 X.env) :: starEach es1 X.env := by rfl) :
    PE X (.Call (.Name nm p1) (e1 :: es1) [⟨none, .Name y py, kp⟩] pos) (rdE C (evE cal (.mk cl f [] (es.app (.cons (.op (.kwd N) (.cons (.var i) .nil)) .nil))))) := by
  obtain ⟨fd, F, ok⟩ := e.fnb f d _ ht
  replace ok := ok.imp (sp' := spM C.G cal f) fun vs H Q E h => ⟨fun z => (by rw [hnc] at z; cases z), h⟩
  obtain ⟨a, ea, hD⟩ := D F
  subst ea
  have ha' : d.at_ X.K = He.ma X.K (He.ga X.K nm) "__init__" := by rw [hat]
  rw [ha'] at ok
  exact PE.imp (pe_makeD (e.mkr hcl him) ok c.room hg (e.gloC hcl hig) hD passEF StX.cxUp h (pe_var hN hv hdb2 hcd2) hdb hkw he) fun σ H Q q => rd_mkW hn q
end
end Mi
set_option maxHeartbeats 0
namespace MiDF
open PySem PySem.Spec Mi
/-! _law_bag ['_law_script', '_law_mixed', '_law_cell'] -/
def l2_0 : Ss := (.cons (.set 1 (.op .mod (.cons (.op .int (.cons (.op .add (.cons (.op .add (.cons (.op .mul (.cons (.var 1) (.cons (.c (.int 46337)) .nil))) (.cons (.op .mul (.cons (.op .mod (.cons (.op .int (.cons (.var 2) .nil)) (.cons (.c (.int 1000211)) .nil))) (.cons (.c (.int 919)) .nil))) .nil))) (.cons (.c (.int 41)) .nil))) .nil)) (.cons (.c (.int 2147483563)) .nil))))
  .nil)
def t2_0 : S := (.set 1 (.c (.int 12006)))
def t2_1 : S := (.fr (.nm 2) (.it (.op (.sl false true) (.cons (.var 0) (.cons (.c (.int 63)) .nil)))) l2_0)
def t2_2 : S := (.ret (.lst (.cons (.op .list (.cons (.op (.sl false true) (.cons (.var 0) (.cons (.c (.int 63)) .nil))) .nil)) (.cons (.c (.int 0)) (.cons (.c (.int 0)) (.cons (.var 1) (.cons (.c (.int 0)) .nil)))))))
def d2 : Def := ⟨1, 3, [false],
  (.cons t2_0 (.cons t2_1 (.cons t2_2 .nil)))⟩
/-! _law_some_form ['_law_bag_here', '_law_names_here', '_law_most', '_law_pairs', '_law_name', '_law_pair'] -/
def e51_0 : E := (.tup (.cons (.var 4) (.cons (.call 26 [true, false] (.cons (.var 0) (.cons (.var 2) .nil))) .nil)))
def e51_1 : E := (.var 5)
def t51_0 : S := (.set 3 (.comp [4] (.nm 4) (.it (.op .srt (.cons (.var 1) .nil))) (.cons (.op .gt (.cons (.call 15 [true, false] (.cons (.var 0) (.cons (.c (.int 4)) .nil))) (.cons (.c (.int 0)) .nil))) .nil) e51_0))
def t51_1 : S := (.ret (.tup (.cons (.call 26 [true, false] (.cons (.var 0) (.cons (.var 2) .nil))) (.cons (.op .dict (.cons (.comp [5] (.nm 5) (.it (.var 3)) (.cons (.op .ne (.cons (.op .idx (.cons (.var 5) (.cons (.c (.int 1)) .nil))) (.cons (.c (.int 0)) .nil))) .nil) e51_1) .nil)) .nil))))
def d51 : Def := ⟨3, 6, [true, false, false],
  (.cons t51_0 (.cons t51_1 .nil))⟩
/-! _law_names ['_law_bag_here', '_law_many', '_law_abc', '_law_found', '_law_k', '_law_word', '_law_j', '_law_ways', '_law_letter', '_law_one'] -/
def e50_0 : E := (.call 17 [true, false] (.cons (.var 0) (.cons (.var 2) .nil)))
def e50_1 : E := (.op .add (.cons (.op (.sl false true) (.cons (.var 5) (.cons (.c (.int 5)) .nil))) (.cons (.var 8) .nil)))
def e50_2 : E := (.var 9)
def l50_0 : Ss := (.cons (.set 5 (.jn (.c (.str "")) (.comp [6] (.nm 6) (.rng1 (.op .add (.cons (.c (.int 1)) (.cons (.call 15 [true, false] (.cons (.var 0) (.cons (.call 17 [true, false] (.cons (.var 0) (.cons (.lst (.cons (.c (.int 1)) (.cons (.c (.int 2)) (.cons (.c (.int 6)) .nil)))) .nil))) .nil))) .nil)))) .nil e50_0)))
  (.cons (.set 7 (.op .add (.cons (.lst (.cons (.var 5) .nil)) (.cons (.comp [8] (.nm 8) (.it (.var 2)) .nil e50_1) .nil))))
  (.cons (.app 3 (.op .idx (.cons (.comp [9] (.nm 9) (.it (.var 7)) (.cons (.an (.op .notin (.cons (.var 9) (.cons (.var 3) .nil))) (.op .notin (.cons (.var 9) (.cons (.call 54 [] .nil) .nil)))) .nil) e50_2) (.cons (.c (.int 0)) .nil))))
  .nil)))
def t50_0 : S := (.parf 2 3 (.c (.str "abcdefghijklmnopqrstuvwxyz")) (.lst .nil))
def t50_1 : S := (.fr (.nm 4) (.rng1 (.var 1)) l50_0)
def t50_2 : S := (.ret (.var 3))
def d50 : Def := ⟨2, 10, [true, false],
  (.cons t50_0 (.cons t50_1 (.cons t50_2 .nil)))⟩
/-! _law_take ['_law_bag_here', '_law_many', '_law_cell', '_law_digit', '_law_twice'] -/
def t15_0 : S := (.sto 0 (.c (.int 4)) (.op .add (.cons (.op .idx (.cons (.var 0) (.cons (.c (.int 4)) .nil))) (.cons (.c (.int 1)) .nil))))
def t15_1 : S := (.ife (.an (.op .eq (.cons (.op .idx (.cons (.var 0) (.cons (.c (.int 2)) .nil))) (.cons (.c (.int 0)) .nil))) (.op .lt (.cons (.op .idx (.cons (.var 0) (.cons (.c (.int 1)) .nil))) (.cons (.op .len (.cons (.op .idx (.cons (.var 0) (.cons (.c (.int 0)) .nil))) .nil)) .nil)))) (.cons (.set 2 (.op .idx (.cons (.op .idx (.cons (.var 0) (.cons (.c (.int 0)) .nil))) (.cons (.op .idx (.cons (.var 0) (.cons (.c (.int 1)) .nil))) .nil))))
  (.cons (.sto 0 (.c (.int 1)) (.op .add (.cons (.op .idx (.cons (.var 0) (.cons (.c (.int 1)) .nil))) (.cons (.c (.int 1)) .nil))))
  (.cons (.ife (.op .ge (.cons (.op .abs (.cons (.var 2) .nil)) (.cons (.op .pow (.cons (.c (.int 10)) (.cons (.c (.int 18)) .nil))) .nil))) (.cons (.sto 0 (.c (.int 2)) (.op .abs (.cons (.var 2) .nil)))
  .nil) (.cons (.sto 0 (.c (.int 3)) (.op .mod (.cons (.op .int (.cons (.op .add (.cons (.op .add (.cons (.op .mul (.cons (.op .idx (.cons (.var 0) (.cons (.c (.int 3)) .nil))) (.cons (.c (.int 47303)) .nil))) (.cons (.op .mul (.cons (.op .mod (.cons (.op .int (.cons (.var 2) .nil)) (.cons (.c (.int 1000211)) .nil))) (.cons (.c (.int 733)) .nil))) .nil))) (.cons (.c (.int 59)) .nil))) .nil)) (.cons (.c (.int 2147483579)) .nil))))
  .nil))
  .nil))) .nil)
def t15_2 : S := (.ife (.op .gt (.cons (.op .idx (.cons (.var 0) (.cons (.c (.int 2)) .nil))) (.cons (.c (.int 0)) .nil))) (.cons (.set 3 (.op .mod (.cons (.op .int (.cons (.op .idx (.cons (.var 0) (.cons (.c (.int 2)) .nil))) .nil)) (.cons (.var 1) .nil))))
  (.cons (.sto 0 (.c (.int 2)) (.op .fdiv (.cons (.op .idx (.cons (.var 0) (.cons (.c (.int 2)) .nil))) (.cons (.var 1) .nil))))
  (.cons (.ret (.var 3))
  .nil))) .nil)
def t15_3 : S := (.set 4 (.op .mod (.cons (.op .int (.cons (.op .add (.cons (.op .mul (.cons (.op .idx (.cons (.var 0) (.cons (.c (.int 3)) .nil))) (.cons (.op .idx (.cons (.var 0) (.cons (.c (.int 3)) .nil))) .nil))) (.cons (.op .mul (.cons (.op .idx (.cons (.var 0) (.cons (.c (.int 4)) .nil))) (.cons (.c (.int 8191)) .nil))) .nil))) .nil)) (.cons (.c (.int 2147483647)) .nil))))
def t15_4 : S := (.sto 0 (.c (.int 3)) (.op .mod (.cons (.op .int (.cons (.op .add (.cons (.op .add (.cons (.op .mul (.cons (.var 4) (.cons (.c (.int 16981)) .nil))) (.cons (.op .mul (.cons (.op .idx (.cons (.var 0) (.cons (.c (.int 3)) .nil))) (.cons (.c (.int 47969)) .nil))) .nil))) (.cons (.c (.int 70019)) .nil))) .nil)) (.cons (.c (.int 2147483579)) .nil))))
def t15_5 : S := (.ret (.op .mod (.cons (.op .int (.cons (.op .fdiv (.cons (.op .idx (.cons (.var 0) (.cons (.c (.int 3)) .nil))) (.cons (.c (.int 67)) .nil))) .nil)) (.cons (.var 1) .nil))))
def d15 : Def := ⟨2, 5, [true, false],
  (.cons t15_0 (.cons t15_1 (.cons t15_2 (.cons t15_3 (.cons t15_4 (.cons t15_5 .nil))))))⟩
/-! _law_form ['_law_spec', '_law_name'] -/
def e52_0 : E := (.tup (.cons (.var 1) (.cons (.op .idx (.cons (.op .idx (.cons (.var 0) (.cons (.c (.int 1)) .nil))) (.cons (.var 1) .nil))) .nil)))
def t52_0 : S := (.ret (.call 147 [false, false] (.cons (.comp [1] (.nm 1) (.it (.op .idx (.cons (.var 0) (.cons (.c (.int 1)) .nil)))) .nil e52_0) (.cons (.op .idx (.cons (.var 0) (.cons (.c (.int 0)) .nil))) .nil))))
def d52 : Def := ⟨1, 2, [false],
  (.cons t52_0 .nil)⟩
/-! _law_form_text ['_law_spec', '_law_terms', '_law_name', '_law_words', '_law_number_here'] -/
def e126_0 : E := (.tup (.cons (.op .idx (.cons (.op .idx (.cons (.var 0) (.cons (.c (.int 1)) .nil))) (.cons (.var 2) .nil))) (.cons (.var 2) .nil)))
def l126_0 : Ss := (.cons (.ife (.or (.op .lt (.cons (.var 4) (.cons (.c (.int 0)) .nil))) (.op .ne (.cons (.var 3) (.cons (.lst .nil) .nil)))) (.cons (.app 3 (.ite (.op .lt (.cons (.var 4) (.cons (.c (.int 0)) .nil))) (.c (.str "-")) (.c (.str "+"))))
  .nil) .nil)
  (.cons (.ife (.or (.op .eq (.cons (.var 2) (.cons (.c (.str "")) .nil))) (.op .ne (.cons (.op .abs (.cons (.var 4) .nil)) (.cons (.c (.int 1)) .nil)))) (.cons (.app 3 (.op .str (.cons (.op .abs (.cons (.var 4) .nil)) .nil)))
  .nil) .nil)
  (.cons (.ife (.op .ne (.cons (.var 2) (.cons (.c (.str "")) .nil))) (.cons (.app 3 (.var 2))
  .nil) .nil)
  .nil)))
def t126_0 : S := (.set 1 (.comp [2] (.nm 2) (.it (.op .srt (.cons (.op .list (.cons (.op .idx (.cons (.var 0) (.cons (.c (.int 1)) .nil))) .nil)) .nil))) .nil e126_0))
def t126_1 : S := (.ife (.or (.op .ne (.cons (.op .idx (.cons (.var 0) (.cons (.c (.int 0)) .nil))) (.cons (.c (.int 0)) .nil))) (.op .eq (.cons (.var 1) (.cons (.lst .nil) .nil)))) (.cons (.app 1 (.tup (.cons (.op .idx (.cons (.var 0) (.cons (.c (.int 0)) .nil))) (.cons (.c (.str "")) .nil))))
  .nil) .nil)
def t126_2 : S := (.set 3 (.lst .nil))
def t126_3 : S := (.fr (.tup (.cons (.nm 4) (.cons (.nm 2) .nil))) (.it (.var 1)) l126_0)
def t126_4 : S := (.ret (.jn (.c (.str " ")) (.var 3)))
def d126 : Def := ⟨1, 5, [false],
  (.cons t126_0 (.cons t126_1 (.cons t126_2 (.cons t126_3 (.cons t126_4 .nil)))))⟩
/-! _law_same ['_law_found', '_law_due', '_law_key', '_law_a', '_law_b'] -/
def e13_0 : E := (.call 13 [false, false] (.cons (.op .idx (.cons (.var 0) (.cons (.var 2) .nil))) (.cons (.op .idx (.cons (.var 1) (.cons (.var 2) .nil))) .nil)))
def e13_1 : E := (.call 13 [false, false] (.cons (.var 3) (.cons (.var 4) .nil)))
def t13_0 : S := (.ife (.or (.op .isn (.cons (.var 1) (.cons (.c .non) .nil))) (.op .isn (.cons (.var 0) (.cons (.c .non) .nil)))) (.cons (.ret (.an (.op .isn (.cons (.var 1) (.cons (.c .non) .nil))) (.op .isn (.cons (.var 0) (.cons (.c .non) .nil)))))
  .nil) .nil)
def t13_1 : S := (.ife (.op (.isi1 .dict) (.cons (.var 1) .nil)) (.cons (.ife (.or (.nt (.op (.isi1 .dict) (.cons (.var 0) .nil))) (.op .ne (.cons (.op .list (.cons (.var 0) .nil)) (.cons (.op .list (.cons (.var 1) .nil)) .nil)))) (.cons (.ret (.c (.bl false)))
  .nil) .nil)
  (.cons (.ret (.op .all (.cons (.comp [2] (.nm 2) (.it (.var 1)) .nil e13_0) .nil)))
  .nil)) .nil)
def t13_2 : S := (.ife (.op (.isi [.list, .tuple]) (.cons (.var 1) .nil)) (.cons (.ife (.op .ne (.cons (.op (.isi1 .list) (.cons (.var 0) .nil)) (.cons (.op (.isi1 .list) (.cons (.var 1) .nil)) .nil))) (.cons (.ret (.c (.bl false)))
  .nil) .nil)
  (.cons (.ife (.or (.op .ne (.cons (.op (.isi1 .tuple) (.cons (.var 0) .nil)) (.cons (.op (.isi1 .tuple) (.cons (.var 1) .nil)) .nil))) (.op .ne (.cons (.op .len (.cons (.var 0) .nil)) (.cons (.op .len (.cons (.var 1) .nil)) .nil)))) (.cons (.ret (.c (.bl false)))
  .nil) .nil)
  (.cons (.ret (.op .all (.cons (.comp [3, 4] (.tup (.cons (.nm 3) (.cons (.nm 4) .nil))) (.zip (.var 0) (.var 1)) .nil e13_1) .nil)))
  .nil))) .nil)
def t13_3 : S := (.ife (.op (.isi [.list, .tuple, .dict]) (.cons (.var 0) .nil)) (.cons (.ret (.c (.bl false)))
  .nil) .nil)
def t13_4 : S := (.ife (.op .ne (.cons (.op (.isi1 .bool) (.cons (.var 0) .nil)) (.cons (.op (.isi1 .bool) (.cons (.var 1) .nil)) .nil))) (.cons (.ret (.c (.bl false)))
  .nil) .nil)
def t13_5 : S := (.ife (.op .ne (.cons (.op (.isi1 .int) (.cons (.var 0) .nil)) (.cons (.op (.isi1 .int) (.cons (.var 1) .nil)) .nil))) (.cons (.ret (.c (.bl false)))
  .nil) .nil)
def t13_6 : S := (.ret (.an (.op .eq (.cons (.op (.isi1 .str) (.cons (.var 0) .nil)) (.cons (.op (.isi1 .str) (.cons (.var 1) .nil)) .nil))) (.op .eq (.cons (.var 0) (.cons (.var 1) .nil)))))
def d13 : Def := ⟨2, 5, [false, false],
  (.cons t13_0 (.cons t13_1 (.cons t13_2 (.cons t13_3 (.cons t13_4 (.cons t13_5 (.cons t13_6 .nil)))))))⟩
/-! Form.text ['self', 'terms', 'name', 'first', 'rest', 'number'] -/
def e140_0 : E := (.tup (.cons (.op .idx (.cons (.fld 46 (.var 0) "own_factors") (.cons (.var 2) .nil))) (.cons (.var 2) .nil)))
def e140_1 : E := (.fst (.cons (.c (.str " ")) (.cons (.ite (.op .lt (.cons (.var 5) (.cons (.c (.int 0)) .nil))) (.c (.str "-")) (.c (.str "+"))) (.cons (.c (.str " ")) (.cons (.call 148 [false, false] (.cons (.op .abs (.cons (.var 5) .nil)) (.cons (.var 2) .nil))) .nil)))))
def t140_0 : S := (.set 1 (.comp [2] (.nm 2) (.it (.fld 46 (.var 0) "own_factors")) .nil e140_0))
def t140_1 : S := (.ife (.or (.op .ne (.cons (.fld 46 (.var 0) "own_constant") (.cons (.c (.int 0)) .nil))) (.op .eq (.cons (.var 1) (.cons (.lst .nil) .nil)))) (.cons (.app 1 (.tup (.cons (.fld 46 (.var 0) "own_constant") (.cons (.c (.str "")) .nil))))
  .nil) .nil)
def t140_2 : S := (.set 3 (.ite (.op .lt (.cons (.op .idx (.cons (.op .idx (.cons (.var 1) (.cons (.c (.int 0)) .nil))) (.cons (.c (.int 0)) .nil))) (.cons (.c (.int 0)) .nil))) (.c (.str "- ")) (.c (.str ""))))
def t140_3 : S := (.set 4 (.comp [5, 2] (.tup (.cons (.nm 5) (.cons (.nm 2) .nil))) (.it (.op (.sl true false) (.cons (.var 1) (.cons (.c (.int 1)) .nil)))) .nil e140_1))
def t140_4 : S := (.ret (.jn (.c (.str "")) (.lsx [false, false, true] (.cons (.var 3) (.cons (.call 148 [false, false] (.cons (.op .abs (.cons (.op .idx (.cons (.op .idx (.cons (.var 1) (.cons (.c (.int 0)) .nil))) (.cons (.c (.int 0)) .nil))) .nil)) (.cons (.op .idx (.cons (.op .idx (.cons (.var 1) (.cons (.c (.int 0)) .nil))) (.cons (.c (.int 1)) .nil))) .nil))) (.cons (.var 4) .nil))))))
def d140 : Def := ⟨1, 6, [false],
  (.cons t140_0 (.cons t140_1 (.cons t140_2 (.cons t140_3 (.cons t140_4 .nil)))))⟩
/-! Form.read ['text', 'words', 'form', 'at'] -/
def t141_0 : S := (.ife (.nt (.op (.isi1 .str) (.cons (.var 0) .nil))) (.cons .nev
  .nil) .nil)
def t141_1 : S := (.set 1 (.op (.split " ") (.cons (.var 0) .nil)))
def t141_2 : S := (.unp (.tup (.cons (.nm 2) (.cons (.nm 3) .nil))) (.call 149 [false, false] (.cons (.var 1) (.cons (.c (.int 0)) .nil))))
def t141_3 : S := (.ife (.op .lt (.cons (.var 3) (.cons (.op .len (.cons (.var 1) .nil)) .nil))) (.cons .nev
  .nil) .nil)
def t141_4 : S := (.ret (.var 2))
def d141 : Def := ⟨1, 4, [false],
  (.cons t141_0 (.cons t141_1 (.cons t141_2 (.cons t141_3 (.cons t141_4 .nil)))))⟩
/-! Form.__eq__ ['self', 'other'] -/
def t142_0 : S := (.ife (.nt (.isc [46] [] (.var 1))) (.cons (.ret (.c (.bl false)))
  .nil) .nil)
def t142_1 : S := (.ret (.an (.op .eq (.cons (.fld 46 (.var 0) "own_constant") (.cons (.fld 46 (.var 1) "own_constant") .nil))) (.op .eq (.cons (.fld 46 (.var 0) "own_factors") (.cons (.fld 46 (.var 1) "own_factors") .nil)))))
def d142 : Def := ⟨2, 2, [false, false],
  (.cons t142_0 (.cons t142_1 .nil))⟩
/-! _law_spare_text ['_law_bag_here', '_law_spec', '_law_terms', '_law_name', '_law_k', '_law_number_here', '_law_rows', '_law_words', '_law_term'] -/
def e143_0 : E := (.tup (.cons (.op .idx (.cons (.op .idx (.cons (.var 1) (.cons (.c (.int 1)) .nil))) (.cons (.var 3) .nil))) (.cons (.var 3) .nil)))
def l143_0 : Ss := (.cons (.par 3 5 (.call 17 [true, false] (.cons (.var 0) (.cons (.op .add (.cons (.op .add (.cons (.lst (.cons (.c (.str "")) .nil)) (.cons (.op .list (.cons (.op .idx (.cons (.var 1) (.cons (.c (.int 1)) .nil))) .nil)) .nil))) (.cons (.lst (.cons (.c (.str "q")) .nil)) .nil))) .nil))) (.call 15 [true, false] (.cons (.var 0) (.cons (.op .pow (.cons (.c (.int 10)) (.cons (.c (.int 6)) .nil))) .nil))))
  (.cons (.set 2 (.op .add (.cons (.var 2) (.cons (.lst (.cons (.tup (.cons (.var 5) (.cons (.var 3) .nil))) (.cons (.tup (.cons (.op .sub (.cons (.c (.int 0)) (.cons (.var 5) .nil))) (.cons (.var 3) .nil))) .nil))) .nil))))
  .nil))
def l143_1 : Ss := (.cons (.insr 6 (.call 15 [true, false] (.cons (.var 0) (.cons (.op .add (.cons (.op .len (.cons (.var 6) .nil)) (.cons (.c (.int 1)) .nil))) .nil))) (.var 8))
  .nil)
def l143_2 : Ss := (.cons (.ife (.or (.op .ne (.cons (.var 7) (.cons (.lst .nil) .nil))) (.op .lt (.cons (.var 5) (.cons (.c (.int 0)) .nil)))) (.cons (.app 7 (.ite (.op .lt (.cons (.var 5) (.cons (.c (.int 0)) .nil))) (.c (.str "-")) (.c (.str "+"))))
  .nil) .nil)
  (.cons (.ife (.or (.op .eq (.cons (.var 3) (.cons (.c (.str "")) .nil))) (.or (.op .ne (.cons (.op .abs (.cons (.var 5) .nil)) (.cons (.c (.int 1)) .nil))) (.op .eq (.cons (.call 15 [true, false] (.cons (.var 0) (.cons (.c (.int 2)) .nil))) (.cons (.c (.int 0)) .nil))))) (.cons (.app 7 (.op .str (.cons (.op .abs (.cons (.var 5) .nil)) .nil)))
  .nil) .nil)
  (.cons (.ife (.op .ne (.cons (.var 3) (.cons (.c (.str "")) .nil))) (.cons (.app 7 (.var 3))
  .nil) .nil)
  .nil)))
def t143_0 : S := (.set 2 (.op .add (.cons (.comp [3] (.nm 3) (.it (.op .idx (.cons (.var 1) (.cons (.c (.int 1)) .nil)))) .nil e143_0) (.cons (.lst (.cons (.tup (.cons (.op .idx (.cons (.var 1) (.cons (.c (.int 0)) .nil))) (.cons (.c (.str "")) .nil))) .nil)) .nil))))
def t143_1 : S := (.fr (.nm 4) (.rng1 (.call 15 [true, false] (.cons (.var 0) (.cons (.c (.int 4)) .nil)))) l143_0)
def t143_2 : S := (.paro 6 7 (.lst .nil) (.lst .nil))
def t143_3 : S := (.fr (.nm 8) (.it (.var 2)) l143_1)
def t143_4 : S := (.fr (.tup (.cons (.nm 5) (.cons (.nm 3) .nil))) (.it (.var 6)) l143_2)
def t143_5 : S := (.ret (.jn (.c (.str " ")) (.var 7)))
def d143 : Def := ⟨2, 9, [true, false],
  (.cons t143_0 (.cons t143_1 (.cons t143_2 (.cons t143_3 (.cons t143_4 (.cons t143_5 .nil))))))⟩
/-! Form.constant ['self'] -/
def t144_0 : S := (.ret (.fld 46 (.var 0) "own_constant"))
def d144 : Def := ⟨1, 1, [false],
  (.cons t144_0 .nil)⟩
/-! Form.names ['self'] -/
def t145_0 : S := (.ret (.op .list (.cons (.fld 46 (.var 0) "own_factors") .nil)))
def d145 : Def := ⟨1, 1, [false],
  (.cons t145_0 .nil)⟩
/-! Form.__bool__ ['self'] -/
def t146_0 : S := (.ret (.or (.op .boo (.cons (.op .ne (.cons (.fld 46 (.var 0) "own_constant") (.cons (.c (.int 0)) .nil))) .nil)) (.op .gt (.cons (.op .len (.cons (.fld 46 (.var 0) "own_factors") .nil)) (.cons (.c (.int 0)) .nil)))))
def d146 : Def := ⟨1, 1, [false],
  (.cons t146_0 .nil)⟩
/-! _law_number ['_law_bag_here', '_law_most', '_law_top'] -/
def t26_0 : S := (.set 2 (.call 17 [true, false] (.cons (.var 0) (.cons (.lst (.cons (.c (.int 1)) (.cons (.c (.int 3)) (.cons (.c (.int 9)) (.cons (.var 1) .nil))))) .nil))))
def t26_1 : S := (.ret (.op .sub (.cons (.call 15 [true, false] (.cons (.var 0) (.cons (.op .add (.cons (.op .mul (.cons (.c (.int 2)) (.cons (.var 2) .nil))) (.cons (.c (.int 1)) .nil))) .nil))) (.cons (.var 2) .nil))))
def d26 : Def := ⟨2, 3, [true, false],
  (.cons t26_0 (.cons t26_1 .nil))⟩
/-! _law_of ['_law_bag_here', '_law_things'] -/
def t17_0 : S := (.ret (.op .idx (.cons (.var 1) (.cons (.call 15 [true, false] (.cons (.var 0) (.cons (.op .len (.cons (.var 1) .nil)) .nil))) .nil))))
def d17 : Def := ⟨2, 2, [true, false],
  (.cons t17_0 .nil)⟩
/-! _law_kept [] -/
def t54_0 : S := (.ret (.lst (.cons (.c (.str "and")) (.cons (.c (.str "or")) (.cons (.c (.str "not")) (.cons (.c (.str "of")) (.cons (.c (.str "let")) (.cons (.c (.str "none")) (.cons (.c (.str "odd")) (.cons (.c (.str "open")) (.cons (.c (.str "phase")) (.cons (.c (.str "round")) (.cons (.c (.str "self")) .nil)))))))))))))
def d54 : Def := ⟨0, 0, [],
  (.cons t54_0 .nil)⟩
/-! Form.of ['pairs', 'constant', 'found', 'at', 'pair'] -/
def l147_0 : Ss := (.cons (.ife (.or (.nt (.op (.isi1 .tuple) (.cons (.var 4) .nil))) (.or (.op .ne (.cons (.op .len (.cons (.var 4) .nil)) (.cons (.c (.int 2)) .nil))) (.or (.nt (.call 150 [false] (.cons (.op .idx (.cons (.var 4) (.cons (.c (.int 0)) .nil))) .nil))) (.nt (.call 22 [false] (.cons (.op .idx (.cons (.var 4) (.cons (.c (.int 1)) .nil))) .nil)))))) (.cons .nev
  .nil) .nil)
  (.cons (.sto 2 (.op .idx (.cons (.var 4) (.cons (.c (.int 0)) .nil))) (.op .add (.cons (.dgt (.var 2) (.op .idx (.cons (.var 4) (.cons (.c (.int 0)) .nil))) (.c (.int 0))) (.cons (.op .idx (.cons (.var 4) (.cons (.c (.int 1)) .nil))) .nil))))
  .nil))
def t147_0 : S := (.ife (.nt (.call 19 [false] (.cons (.var 0) .nil))) (.cons .nev
  .nil) .nil)
def t147_1 : S := (.set 2 .dic0)
def t147_2 : S := (.fr (.tup (.cons (.nm 3) (.cons (.nm 4) .nil))) (.enum (.var 0)) l147_0)
def t147_3 : S := (.ife (.nt (.call 22 [false] (.cons (.var 1) .nil))) (.cons .nev
  .nil) .nil)
def t147_4 : S := (.ret (.call 151 [false, false] (.cons (.var 1) (.cons (.var 2) .nil))))
def d147 : Def := ⟨2, 5, [false, false],
  (.cons t147_0 (.cons t147_1 (.cons t147_2 (.cons t147_3 (.cons t147_4 .nil)))))⟩
/-! term_text ['number', 'name'] -/
def t148_0 : S := (.ife (.op .eq (.cons (.var 1) (.cons (.c (.str "")) .nil))) (.cons (.ret (.op .str (.cons (.var 0) .nil)))
  .nil) .nil)
def t148_1 : S := (.ret (.ite (.op .eq (.cons (.var 0) (.cons (.c (.int 1)) .nil))) (.var 1) (.fst (.cons (.var 0) (.cons (.c (.str " ")) (.cons (.var 1) .nil))))))
def d148 : Def := ⟨2, 2, [false, false],
  (.cons t148_0 (.cons t148_1 .nil))⟩
/-! read_words ['words', 'at', 'constant', 'factors', 'sign', 'number', 'name'] -/
def l149_0 : Ss := (.cons (.unp (.tup (.cons (.nm 5) (.cons (.nm 6) (.cons (.nm 1) .nil)))) (.call 152 [false, false] (.cons (.var 0) (.cons (.var 1) .nil))))
  (.cons (.ife (.op .eq (.cons (.var 6) (.cons (.c (.str "")) .nil))) (.cons (.aug 2 .add (.op .mul (.cons (.var 4) (.cons (.var 5) .nil))))
  .nil) (.cons (.sto 3 (.var 6) (.op .add (.cons (.dgt (.var 3) (.var 6) (.c (.int 0))) (.cons (.op .mul (.cons (.var 4) (.cons (.var 5) .nil))) .nil))))
  .nil))
  (.cons (.ife (.or (.op .ge (.cons (.var 1) (.cons (.op .len (.cons (.var 0) .nil)) .nil))) (.op .notin (.cons (.op .idx (.cons (.var 0) (.cons (.var 1) .nil))) (.cons (.tup (.cons (.c (.str "+")) (.cons (.c (.str "-")) .nil))) .nil)))) (.cons (.ret (.tup (.cons (.call 151 [false, false] (.cons (.var 2) (.cons (.var 3) .nil))) (.cons (.var 1) .nil))))
  .nil) .nil)
  (.cons (.par 4 1 (.ite (.op .eq (.cons (.op .idx (.cons (.var 0) (.cons (.var 1) .nil))) (.cons (.c (.str "+")) .nil))) (.c (.int 1)) (.op .neg (.cons (.c (.int 1)) .nil))) (.op .add (.cons (.var 1) (.cons (.c (.int 1)) .nil))))
  .nil))))
def t149_0 : S := (.par3 2 3 4 (.c (.int 0)) .dic0 (.int 1))
def t149_1 : S := (.ife (.an (.op .lt (.cons (.var 1) (.cons (.op .len (.cons (.var 0) .nil)) .nil))) (.op .eq (.cons (.op .idx (.cons (.var 0) (.cons (.var 1) .nil))) (.cons (.c (.str "-")) .nil)))) (.cons (.par 4 1 (.op .neg (.cons (.c (.int 1)) .nil)) (.op .add (.cons (.var 1) (.cons (.c (.int 1)) .nil))))
  .nil) .nil)
def t149_2 : S := (.wh (.c (.bl true)) l149_0)
def d149 : Def := ⟨2, 7, [false, false],
  (.cons t149_0 (.cons t149_1 (.cons t149_2 .nil)))⟩
/-! is_list ['value'] -/
def t19_0 : S := (.ret (.op (.isi [.list, .tuple]) (.cons (.var 0) .nil)))
def d19 : Def := ⟨1, 1, [false],
  (.cons t19_0 .nil)⟩
/-! is_name ['value', 'letter'] -/
def e150_0 : E := (.op .isin (.cons (.var 1) (.cons (.c (.str "abcdefghijklmnopqrstuvwxyz")) .nil)))
def t150_0 : S := (.ife (.or (.nt (.op (.isi1 .str) (.cons (.var 0) .nil))) (.or (.nt (.ch .le .le (.c (.int 1)) (.op .len (.cons (.var 0) .nil)) (.c (.int 6)))) (.op .isin (.cons (.var 0) (.cons (.c (.tup [(.str "and"), (.str "or"), (.str "not"), (.str "of"), (.str "let"), (.str "none"), (.str "odd"), (.str "open"), (.str "phase"), (.str "round"), (.str "self")])) .nil))))) (.cons (.ret (.c (.bl false)))
  .nil) .nil)
def t150_1 : S := (.ret (.op .all (.cons (.comp [1] (.nm 1) (.it (.var 0)) .nil e150_0) .nil)))
def d150 : Def := ⟨1, 2, [false],
  (.cons t150_0 (.cons t150_1 .nil))⟩
/-! is_whole ['value'] -/
def t22_0 : S := (.ret (.an (.op (.isi1 .int) (.cons (.var 0) .nil)) (.nt (.op (.isi1 .bool) (.cons (.var 0) .nil)))))
def d22 : Def := ⟨1, 1, [false],
  (.cons t22_0 .nil)⟩
/-! form_of ['constant', 'factors', 'kept'] -/
def t151_0 : S := (.set 2 (.call 153 [false] (.cons (.var 1) .nil)))
def t151_1 : S := (.ret (.mk 46 154 [] (.cons (.var 0) (.cons (.op (.kwd ["self", "constant"]) (.cons (.var 2) .nil)) .nil))))
def d151 : Def := ⟨2, 3, [false, false],
  (.cons t151_0 (.cons t151_1 .nil))⟩
/-! read_term ['words', 'at'] -/
def t152_0 : S := (.ife (.an (.op .lt (.cons (.var 1) (.cons (.op .len (.cons (.var 0) .nil)) .nil))) (.call 150 [false] (.cons (.op .idx (.cons (.var 0) (.cons (.var 1) .nil))) .nil))) (.cons (.ret (.tup (.cons (.c (.int 1)) (.cons (.op .idx (.cons (.var 0) (.cons (.var 1) .nil))) (.cons (.op .add (.cons (.var 1) (.cons (.c (.int 1)) .nil))) .nil)))))
  .nil) .nil)
def t152_1 : S := (.ife (.or (.op .ge (.cons (.var 1) (.cons (.op .len (.cons (.var 0) .nil)) .nil))) (.nt (.call 155 [false] (.cons (.op .idx (.cons (.var 0) (.cons (.var 1) .nil))) .nil)))) (.cons .nev
  .nil) .nil)
def t152_2 : S := (.ife (.an (.op .lt (.cons (.op .add (.cons (.var 1) (.cons (.c (.int 1)) .nil))) (.cons (.op .len (.cons (.var 0) .nil)) .nil))) (.call 150 [false] (.cons (.op .idx (.cons (.var 0) (.cons (.op .add (.cons (.var 1) (.cons (.c (.int 1)) .nil))) .nil))) .nil))) (.cons (.ret (.tup (.cons (.op .int (.cons (.op .idx (.cons (.var 0) (.cons (.var 1) .nil))) .nil)) (.cons (.op .idx (.cons (.var 0) (.cons (.op .add (.cons (.var 1) (.cons (.c (.int 1)) .nil))) .nil))) (.cons (.op .add (.cons (.var 1) (.cons (.c (.int 2)) .nil))) .nil)))))
  .nil) .nil)
def t152_3 : S := (.ret (.tup (.cons (.op .int (.cons (.op .idx (.cons (.var 0) (.cons (.var 1) .nil))) .nil)) (.cons (.c (.str "")) (.cons (.op .add (.cons (.var 1) (.cons (.c (.int 1)) .nil))) .nil)))))
def d152 : Def := ⟨2, 2, [false, false],
  (.cons t152_0 (.cons t152_1 (.cons t152_2 (.cons t152_3 .nil))))⟩
/-! kept_factors ['factors', 'name'] -/
def t153_0 : S := (.ret (.dcm [1] (.nm 1) (.it (.op .srt (.cons (.op .list (.cons (.var 0) .nil)) .nil))) (.cons (.op .ne (.cons (.op .idx (.cons (.var 0) (.cons (.var 1) .nil))) (.cons (.c (.int 0)) .nil))) .nil) (.var 1) (.op .idx (.cons (.var 0) (.cons (.var 1) .nil)))))
def d153 : Def := ⟨1, 2, [false],
  (.cons t153_0 .nil)⟩
/-! Form.__init__ ['self', 'constant', 'factors', 'name'] -/
def l154_0 : Ss := (.cons (.ife (.nt (.call 150 [false] (.cons (.var 3) .nil))) (.cons .nev
  .nil) .nil)
  .nil)
def l154_1 : Ss := (.cons (.ife (.nt (.call 22 [false] (.cons (.op .idx (.cons (.var 2) (.cons (.var 3) .nil))) .nil))) (.cons .nev
  .nil) .nil)
  .nil)
def t154_0 : S := (.ife (.nt (.call 22 [false] (.cons (.var 1) .nil))) (.cons .nev
  .nil) .nil)
def t154_1 : S := (.fr (.nm 3) (.it (.op .list (.cons (.var 2) .nil))) l154_0)
def t154_2 : S := (.fr (.nm 3) (.it (.op .list (.cons (.var 2) .nil))) l154_1)
def t154_3 : S := (.stf 0 46 "own_constant" (.var 1))
def t154_4 : S := (.stf 0 46 "own_factors" (.call 153 [false] (.cons (.var 2) .nil)))
def d154 : Def := ⟨3, 4, [true, false, false],
  (.cons t154_0 (.cons t154_1 (.cons t154_2 (.cons t154_3 (.cons t154_4 .nil)))))⟩
/-! is_numeral ['value', 'digit'] -/
def e155_0 : E := (.op .isin (.cons (.var 1) (.cons (.c (.str "0123456789")) .nil)))
def t155_0 : S := (.ife (.or (.nt (.op (.isi1 .str) (.cons (.var 0) .nil))) (.nt (.ch .le .le (.c (.int 1)) (.op .len (.cons (.var 0) .nil)) (.c (.int 18))))) (.cons (.ret (.c (.bl false)))
  .nil) .nil)
def t155_1 : S := (.ret (.an (.op .all (.cons (.comp [1] (.nm 1) (.it (.var 0)) .nil e155_0) .nil)) (.or (.op .eq (.cons (.var 0) (.cons (.c (.str "0")) .nil))) (.op .ne (.cons (.op .idx (.cons (.var 0) (.cons (.c (.int 0)) .nil))) (.cons (.c (.str "0")) .nil))))))
def d155 : Def := ⟨1, 2, [false],
  (.cons t155_0 (.cons t155_1 .nil))⟩
def pgL : List (Nat × Def) := [(2, d2), (13, d13), (15, d15), (17, d17), (19, d19), (22, d22), (26, d26), (50, d50), (51, d51), (52, d52), (54, d54), (126, d126), (140, d140), (141, d141), (142, d142), (143, d143), (144, d144), (145, d145), (146, d146), (147, d147), (148, d148), (149, d149), (150, d150), (151, d151), (152, d152), (153, d153), (154, d154), (155, d155)]
def pg (f : Nat) : Option Def := pgL.lookup f
end MiDF
set_option maxHeartbeats 0
namespace K07
open PySem PySem.Spec PyProof.Rows L2 Mi MiDF
def l138_0 : Ss := (.cons (.set 3 (.call 51 [true, false, false] (.cons (.var 1) (.cons (.call 50 [true, false] (.cons (.var 1) (.cons (.call 15 [true, false] (.cons (.var 1) (.cons (.c (.int 5)) .nil))) .nil))) (.cons (.op .sub (.cons (.op .pow (.cons (.c (.int 10)) (.cons (.c (.int 18)) .nil))) (.cons (.c (.int 1)) .nil))) .nil)))))
  (.cons (.par 4 5 (.call 52 [false] (.cons (.var 3) .nil)) (.call 126 [false] (.cons (.var 3) .nil)))
  (.cons (.ife (.or (.nt (.call 13 [false, false] (.cons (.lst (.cons (.meth 46 140 "text" [] (.var 4) .nil) (.cons (.meth 46 140 "text" [] (.call 141 [false] (.cons (.var 5) .nil)) .nil) .nil))) (.cons (.lst (.cons (.var 5) (.cons (.var 5) .nil))) .nil)))) (.ceq true 46 142 (.call 141 [false] (.cons (.var 5) .nil)) (.var 4))) (.cons (.ret (.c (.bl false)))
  .nil) .nil)
  (.cons (.set 6 (.call 141 [false] (.cons (.call 143 [true, false] (.cons (.var 1) (.cons (.var 3) .nil))) .nil)))
  (.cons (.ife (.or (.ceq true 46 142 (.var 6) (.var 4)) (.nt (.call 13 [false, false] (.cons (.lst (.cons (.meth 46 140 "text" [] (.var 6) .nil) (.cons (.prop 46 144 (.var 6)) (.cons (.meth 46 145 "names" [] (.var 6) .nil) .nil)))) (.cons (.lst (.cons (.var 5) (.cons (.op .idx (.cons (.var 3) (.cons (.c (.int 0)) .nil))) (.cons (.op .srt (.cons (.op .list (.cons (.op .idx (.cons (.var 3) (.cons (.c (.int 1)) .nil))) .nil)) .nil)) .nil)))) .nil))))) (.cons (.ret (.c (.bl false)))
  .nil) .nil)
  .nil)))))
def t138_0 : S := (.set 1 (.call 2 [false] (.cons (.var 0) .nil)))
def t138_1 : S := (.fr (.nm 2) (.rng1 (.c (.int 3))) l138_0)
def t138_2 : S := (.par 7 8 (.call 141 [false] (.cons (.c (.str "2 x - y + 3 - x")) .nil)) (.call 141 [false] (.cons (.c (.str "- 0 x + 0")) .nil)))
def t138_3 : S := (.ret (.call 13 [false, false] (.cons (.lst (.cons (.meth 46 140 "text" [] (.var 7) .nil) (.cons (.meth 46 140 "text" [] (.var 8) .nil) (.cons (.meth 46 140 "text" [] (.call 141 [false] (.cons (.c (.str "1 x")) .nil)) .nil) (.cons (.spc false 46 146 (.var 8)) .nil))))) (.cons (.lst (.cons (.c (.str "x - y + 3")) (.cons (.c (.str "0")) (.cons (.c (.str "x")) (.cons (.c (.bl false)) .nil))))) .nil))))
def d138 : Def := ⟨1, 9, [false],
  (.cons t138_0 (.cons t138_1 (.cons t138_2 (.cons t138_3 .nil))))⟩
def Γ (f : Nat) : Option Def := if f = 138 then some d138 else pg f
def top (i : Nat) : Stmt := PySem.Challenge.pw_loneround_k07_whole_texts_of_forms.main.body.getD i (.Pass ⟨0, 0, 0, 0⟩)
def inCls (s : Stmt) (j : Nat) : Stmt := match s with
  | .ClassDef _ _ _ b _ _ _ _ _ _ _ => b.getD j (.Pass ⟨0, 0, 0, 0⟩)
  | s => s
abbrev s138 : Stmt := top 38
abbrev n138 : List PySem.Str := ["_law_script", "_law_bag_here", "_law_turn", "_law_spec", "_law_form_here", "_law_text_z", "_law_late", "_law_one", "_law_other"]
abbrev p138 : List PySem.Str := ["_law_script"]
def D138 : He5.DefA := ⟨fun K => He.ga K "law", "law", "law", defArgs s138, defBody s138, defScope s138, [], []⟩
abbrev s2 : Stmt := top 27
abbrev n2 : List PySem.Str := ["_law_script", "_law_mixed", "_law_cell"]
abbrev p2 : List PySem.Str := ["_law_script"]
def D2 : He5.DefA := ⟨fun K => He.ga K "_law_bag", "_law_bag", "_law_bag", defArgs s2, defBody s2, defScope s2, [], []⟩
abbrev s51 : Stmt := top 34
abbrev n51 : List PySem.Str := ["_law_bag_here", "_law_names_here", "_law_most", "_law_pairs", "_law_name", "_law_pair"]
abbrev p51 : List PySem.Str := ["_law_bag_here", "_law_names_here", "_law_most"]
def D51 : He5.DefA := ⟨fun K => He.ga K "_law_some_form", "_law_some_form", "_law_some_form", defArgs s51, defBody s51, defScope s51, [], []⟩
abbrev s50 : Stmt := top 32
abbrev n50 : List PySem.Str := ["_law_bag_here", "_law_many", "_law_abc", "_law_found", "_law_k", "_law_word", "_law_j", "_law_ways", "_law_letter", "_law_one"]
abbrev p50 : List PySem.Str := ["_law_bag_here", "_law_many"]
def D50 : He5.DefA := ⟨fun K => He.ga K "_law_names", "_law_names", "_law_names", defArgs s50, defBody s50, defScope s50, [], []⟩
abbrev s15 : Stmt := top 28
abbrev n15 : List PySem.Str := ["_law_bag_here", "_law_many", "_law_cell", "_law_digit", "_law_twice"]
abbrev p15 : List PySem.Str := ["_law_bag_here", "_law_many"]
def D15 : He5.DefA := ⟨fun K => He.ga K "_law_take", "_law_take", "_law_take", defArgs s15, defBody s15, defScope s15, [], []⟩
abbrev s52 : Stmt := top 35
abbrev n52 : List PySem.Str := ["_law_spec", "_law_name"]
abbrev p52 : List PySem.Str := ["_law_spec"]
def D52 : He5.DefA := ⟨fun K => He.ga K "_law_form", "_law_form", "_law_form", defArgs s52, defBody s52, defScope s52, [], []⟩
abbrev s126 : Stmt := top 36
abbrev n126 : List PySem.Str := ["_law_spec", "_law_terms", "_law_name", "_law_words", "_law_number_here"]
abbrev p126 : List PySem.Str := ["_law_spec"]
def D126 : He5.DefA := ⟨fun K => He.ga K "_law_form_text", "_law_form_text", "_law_form_text", defArgs s126, defBody s126, defScope s126, [], []⟩
abbrev s13 : Stmt := top 30
abbrev n13 : List PySem.Str := ["_law_found", "_law_due", "_law_key", "_law_a", "_law_b"]
abbrev p13 : List PySem.Str := ["_law_found", "_law_due"]
def D13 : He5.DefA := ⟨fun K => He.ga K "_law_same", "_law_same", "_law_same", defArgs s13, defBody s13, defScope s13, [], []⟩
abbrev s140 : Stmt := inCls (top 20) 16
abbrev n140 : List PySem.Str := ["self", "terms", "name", "first", "rest", "number"]
abbrev p140 : List PySem.Str := ["self"]
def D140 : He5.DefA := ⟨fun K => He.ma K (He.ga K "Form") "text", "text", "Form.text", defArgs s140, defBody s140, defScope s140, [], []⟩
abbrev s141 : Stmt := inCls (top 20) 3
abbrev n141 : List PySem.Str := ["text", "words", "form", "at"]
abbrev p141 : List PySem.Str := ["text"]
def D141 : He5.DefA := ⟨fun K => He5.wf K (He.ga K "Form") "staticmethod" "read", "read", "Form.read", defArgs s141, defBody s141, defScope s141, [], []⟩
abbrev s142 : Stmt := inCls (top 20) 14
abbrev n142 : List PySem.Str := ["self", "other"]
abbrev p142 : List PySem.Str := ["self", "other"]
def D142 : He5.DefA := ⟨fun K => He.ma K (He.ga K "Form") "__eq__", "__eq__", "Form.__eq__", defArgs s142, defBody s142, defScope s142, [], []⟩
abbrev s143 : Stmt := top 37
abbrev n143 : List PySem.Str := ["_law_bag_here", "_law_spec", "_law_terms", "_law_name", "_law_k", "_law_number_here", "_law_rows", "_law_words", "_law_term"]
abbrev p143 : List PySem.Str := ["_law_bag_here", "_law_spec"]
def D143 : He5.DefA := ⟨fun K => He.ga K "_law_spare_text", "_law_spare_text", "_law_spare_text", defArgs s143, defBody s143, defScope s143, [], []⟩
abbrev s144 : Stmt := inCls (top 20) 1
abbrev n144 : List PySem.Str := ["self"]
abbrev p144 : List PySem.Str := ["self"]
def D144 : He5.DefA := ⟨fun K => He5.wf K (He.ga K "Form") "property" "constant", "constant", "Form.constant", defArgs s144, defBody s144, defScope s144, [], []⟩
abbrev s145 : Stmt := inCls (top 20) 4
abbrev n145 : List PySem.Str := ["self"]
abbrev p145 : List PySem.Str := ["self"]
def D145 : He5.DefA := ⟨fun K => He.ma K (He.ga K "Form") "names", "names", "Form.names", defArgs s145, defBody s145, defScope s145, [], []⟩
abbrev s146 : Stmt := inCls (top 20) 15
abbrev n146 : List PySem.Str := ["self"]
abbrev p146 : List PySem.Str := ["self"]
def D146 : He5.DefA := ⟨fun K => He.ma K (He.ga K "Form") "__bool__", "__bool__", "Form.__bool__", defArgs s146, defBody s146, defScope s146, [], []⟩
abbrev s26 : Stmt := top 33
abbrev n26 : List PySem.Str := ["_law_bag_here", "_law_most", "_law_top"]
abbrev p26 : List PySem.Str := ["_law_bag_here", "_law_most"]
def D26 : He5.DefA := ⟨fun K => He.ga K "_law_number", "_law_number", "_law_number", defArgs s26, defBody s26, defScope s26, [], []⟩
abbrev s17 : Stmt := top 29
abbrev n17 : List PySem.Str := ["_law_bag_here", "_law_things"]
abbrev p17 : List PySem.Str := ["_law_bag_here", "_law_things"]
def D17 : He5.DefA := ⟨fun K => He.ga K "_law_of", "_law_of", "_law_of", defArgs s17, defBody s17, defScope s17, [], []⟩
abbrev s54 : Stmt := top 31
abbrev n54 : List PySem.Str := []
abbrev p54 : List PySem.Str := []
def D54 : He5.DefA := ⟨fun K => He.ga K "_law_kept", "_law_kept", "_law_kept", defArgs s54, defBody s54, defScope s54, [], []⟩
abbrev s147 : Stmt := inCls (top 20) 2
abbrev n147 : List PySem.Str := ["pairs", "constant", "found", "at", "pair"]
abbrev p147 : List PySem.Str := ["pairs", "constant"]
def D147 : He5.DefA := ⟨fun K => He5.wf K (He.ga K "Form") "staticmethod" "of", "of", "Form.of", defArgs s147, defBody s147, defScope s147, [.int 0], []⟩
abbrev s148 : Stmt := top 23
abbrev n148 : List PySem.Str := ["number", "name"]
abbrev p148 : List PySem.Str := ["number", "name"]
def D148 : He5.DefA := ⟨fun K => He.ga K "term_text", "term_text", "term_text", defArgs s148, defBody s148, defScope s148, [], []⟩
abbrev s149 : Stmt := top 25
abbrev n149 : List PySem.Str := ["words", "at", "constant", "factors", "sign", "number", "name"]
abbrev p149 : List PySem.Str := ["words", "at"]
def D149 : He5.DefA := ⟨fun K => He.ga K "read_words", "read_words", "read_words", defArgs s149, defBody s149, defScope s149, [], []⟩
abbrev s19 : Stmt := top 16
abbrev n19 : List PySem.Str := ["value"]
abbrev p19 : List PySem.Str := ["value"]
def D19 : He5.DefA := ⟨fun K => He.ga K "is_list", "is_list", "is_list", defArgs s19, defBody s19, defScope s19, [], []⟩
abbrev s150 : Stmt := top 17
abbrev n150 : List PySem.Str := ["value", "letter"]
abbrev p150 : List PySem.Str := ["value"]
def D150 : He5.DefA := ⟨fun K => He.ga K "is_name", "is_name", "is_name", defArgs s150, defBody s150, defScope s150, [], []⟩
abbrev s22 : Stmt := top 15
abbrev n22 : List PySem.Str := ["value"]
abbrev p22 : List PySem.Str := ["value"]
def D22 : He5.DefA := ⟨fun K => He.ga K "is_whole", "is_whole", "is_whole", defArgs s22, defBody s22, defScope s22, [], []⟩
abbrev s151 : Stmt := top 22
abbrev n151 : List PySem.Str := ["constant", "factors", "kept"]
abbrev p151 : List PySem.Str := ["constant", "factors"]
def D151 : He5.DefA := ⟨fun K => He.ga K "form_of", "form_of", "form_of", defArgs s151, defBody s151, defScope s151, [], []⟩
abbrev s152 : Stmt := top 24
abbrev n152 : List PySem.Str := ["words", "at"]
abbrev p152 : List PySem.Str := ["words", "at"]
def D152 : He5.DefA := ⟨fun K => He.ga K "read_term", "read_term", "read_term", defArgs s152, defBody s152, defScope s152, [], []⟩
abbrev s153 : Stmt := top 21
abbrev n153 : List PySem.Str := ["factors", "name"]
abbrev p153 : List PySem.Str := ["factors"]
def D153 : He5.DefA := ⟨fun K => He.ga K "kept_factors", "kept_factors", "kept_factors", defArgs s153, defBody s153, defScope s153, [], []⟩
abbrev s154 : Stmt := inCls (top 20) 0
abbrev n154 : List PySem.Str := ["self", "constant", "factors", "name"]
abbrev p154 : List PySem.Str := ["self", "constant", "factors"]
def D154 : He5.DefA := ⟨fun K => He.ma K (He.ga K "Form") "__init__", "__init__", "Form.__init__", defArgs s154, defBody s154, defScope s154, [.int 0], []⟩
abbrev s155 : Stmt := top 18
abbrev n155 : List PySem.Str := ["value", "digit"]
abbrev p155 : List PySem.Str := ["value"]
def D155 : He5.DefA := ⟨fun K => He.ga K "is_numeral", "is_numeral", "is_numeral", defArgs s155, defBody s155, defScope s155, [], []⟩
def tabL : List (Nat × (He5.DefA × List PySem.Str)) := [(138, (D138, p138)), (2, (D2, p2)), (51, (D51, p51)), (50, (D50, p50)), (15, (D15, p15)), (52, (D52, p52)), (126, (D126, p126)), (13, (D13, p13)), (140, (D140, p140)), (141, (D141, p141)), (142, (D142, p142)), (143, (D143, p143)), (144, (D144, p144)), (145, (D145, p145)), (146, (D146, p146)), (26, (D26, p26)), (17, (D17, p17)), (54, (D54, p54)), (147, (D147, p147)), (148, (D148, p148)), (149, (D149, p149)), (19, (D19, p19)), (150, (D150, p150)), (22, (D22, p22)), (151, (D151, p151)), (152, (D152, p152)), (153, (D153, p153)), (154, (D154, p154)), (155, (D155, p155))]
def tab (f : Nat) : Option (He5.DefA × List PySem.Str) := tabL.lookup f
def fx : List Fx := [.glo "_law_bag",
  .free "range",
  .glo "_law_take",
  .glo "_law_names",
  .glo "_law_some_form",
  .glo "_law_form",
  .glo "_law_form_text",
  .cls "Form",
  .meth "Form" "text",
  .glo "Form",
  .crd "Form",
  .smet "Form" "read",
  .glo "_law_same",
  .meth "Form" "__eq__",
  .ne "Form",
  .glo "_law_spare_text",
  .prop "Form" "constant",
  .meth "Form" "names",
  .free "list",
  .free "sorted",
  .meth "Form" "__bool__",
  .free "bool",
  .free "int",
  .glo "_law_number",
  .free "dict",
  .glo "_law_of",
  .glo "_law_kept",
  .free "len",
  .free "abs",
  .smet "Form" "of",
  .free "str",
  .free "isinstance",
  .free "all",
  .free "tuple",
  .free "zip",
  .noat "Form" "own_factors",
  .noat "Form" "own_constant",
  .glo "term_text",
  .glo "read_words",
  .kty "Form",
  .kown "Form" "Form" true,
  .glo "is_list",
  .free "enumerate",
  .glo "is_name",
  .glo "is_whole",
  .glo "form_of",
  .glo "read_term",
  .glo "kept_factors",
  .mkr "Form",
  .glo "is_numeral",
  .glo "law"]
def gk : List (PySem.Str × T) := [("MOST_LETTERS", (.int 6)), ("KEPT", (.tup [(.str "and"), (.str "or"), (.str "not"), (.str "of"), (.str "let"), (.str "none"), (.str "odd"), (.str "open"), (.str "phase"), (.str "round"), (.str "self")])), ("LETTERS", (.str "abcdefghijklmnopqrstuvwxyz")), ("MOST_DIGITS", (.int 18)), ("DIGITS", (.str "0123456789"))]
def cn0 : List PySem.Str := ["Rounds", "RoundError", "InvalidText", "InvalidPeriod", "InvalidClass", "InvalidOdd", "InvalidRound", "TooLong", "Missing", "UnknownRound", "Paper", "Whole", "Open", "Barred", "Lone", "Answer"]
def cn1 : List PySem.Str := ["Loop", "InvalidNumber", "InvalidName", "InvalidPairs", "InvalidRow", "NoRow", "InvalidModulus", "InvalidPaper", "NotHeld", "InvalidAnswer", "InvalidStart", "InvalidPhase", "InvalidLoop", "InvalidBlock", "InvalidDeed", "InvalidPage"]
def cn2 : List PySem.Str := ["DuplicateName", "DifferentNames", "Unsettled", "NeverTrue", "TooFar", "NothingLeft", "Equal", "At", "Not", "And", "Or", "Pair", "Book", "UnknownName", "Form", "Formula"]
def cn3 : List PySem.Str := ["Draft"]
def cn : List PySem.Str := cn0 ++ cn1 ++ cn2 ++ cn3
theorem bn2_1 : Bnd D2 p2 fx 1 [] := bnd_all rfl fun _ _ _ _ _ _ us hl => match us, hl with | [_], _ => rfl
theorem bn15_2 : Bnd D15 p15 fx 2 [] := bnd_all rfl fun _ _ _ _ _ _ us hl => match us, hl with | [_, _], _ => rfl
theorem bn50_2 : Bnd D50 p50 fx 2 [] := bnd_all rfl fun _ _ _ _ _ _ us hl => match us, hl with | [_, _], _ => rfl
theorem bn51_3 : Bnd D51 p51 fx 3 [] := bnd_all rfl fun _ _ _ _ _ _ us hl => match us, hl with | [_, _, _], _ => rfl
theorem bn52_1 : Bnd D52 p52 fx 1 [] := bnd_all rfl fun _ _ _ _ _ _ us hl => match us, hl with | [_], _ => rfl
theorem bn126_1 : Bnd D126 p126 fx 1 [] := bnd_all rfl fun _ _ _ _ _ _ us hl => match us, hl with | [_], _ => rfl
theorem bn140_1 : Bnd D140 p140 fx 1 [] := bnd_all rfl fun _ _ _ _ _ _ us hl => match us, hl with | [_], _ => rfl
theorem bn141_1 : Bnd D141 p141 fx 1 [] := bnd_all rfl fun _ _ _ _ _ _ us hl => match us, hl with | [_], _ => rfl
theorem bn13_2 : Bnd D13 p13 fx 2 [] := bnd_all rfl fun _ _ _ _ _ _ us hl => match us, hl with | [_, _], _ => rfl
theorem bn142_2 : Bnd D142 p142 fx 2 [] := bnd_all rfl fun _ _ _ _ _ _ us hl => match us, hl with | [_, _], _ => rfl
theorem bn143_2 : Bnd D143 p143 fx 2 [] := bnd_all rfl fun _ _ _ _ _ _ us hl => match us, hl with | [_, _], _ => rfl
theorem bn144_1 : Bnd D144 p144 fx 1 [] := bnd_all rfl fun _ _ _ _ _ _ us hl => match us, hl with | [_], _ => rfl
theorem bn145_1 : Bnd D145 p145 fx 1 [] := bnd_all rfl fun _ _ _ _ _ _ us hl => match us, hl with | [_], _ => rfl
theorem bn146_1 : Bnd D146 p146 fx 1 [] := bnd_all rfl fun _ _ _ _ _ _ us hl => match us, hl with | [_], _ => rfl
theorem bn26_2 : Bnd D26 p26 fx 2 [] := bnd_all rfl fun _ _ _ _ _ _ us hl => match us, hl with | [_, _], _ => rfl
theorem bn17_2 : Bnd D17 p17 fx 2 [] := bnd_all rfl fun _ _ _ _ _ _ us hl => match us, hl with | [_, _], _ => rfl
theorem bn54_0 : Bnd D54 p54 fx 0 [] := bnd_all rfl fun _ _ _ _ _ _ us hl => match us, hl with | [], _ => rfl
theorem bn147_2 : Bnd D147 p147 fx 2 [] := bnd_dfl (j := 1) (by intro h; cases h) rfl (fun G hf w => .nil) fun T kV doc pm an cdv ct us its hu hi => match us, its, hu, hi with | [_, _], [_], _, _ => ⟨_, rfl, rfl⟩
theorem bn148_2 : Bnd D148 p148 fx 2 [] := bnd_all rfl fun _ _ _ _ _ _ us hl => match us, hl with | [_, _], _ => rfl
theorem bn149_2 : Bnd D149 p149 fx 2 [] := bnd_all rfl fun _ _ _ _ _ _ us hl => match us, hl with | [_, _], _ => rfl
theorem bn19_1 : Bnd D19 p19 fx 1 [] := bnd_all rfl fun _ _ _ _ _ _ us hl => match us, hl with | [_], _ => rfl
theorem bn150_1 : Bnd D150 p150 fx 1 [] := bnd_all rfl fun _ _ _ _ _ _ us hl => match us, hl with | [_], _ => rfl
theorem bn22_1 : Bnd D22 p22 fx 1 [] := bnd_all rfl fun _ _ _ _ _ _ us hl => match us, hl with | [_], _ => rfl
theorem bn151_2 : Bnd D151 p151 fx 2 [] := bnd_all rfl fun _ _ _ _ _ _ us hl => match us, hl with | [_, _], _ => rfl
theorem bn152_2 : Bnd D152 p152 fx 2 [] := bnd_all rfl fun _ _ _ _ _ _ us hl => match us, hl with | [_, _], _ => rfl
theorem bn153_1 : Bnd D153 p153 fx 1 [] := bnd_all rfl fun _ _ _ _ _ _ us hl => match us, hl with | [_], _ => rfl
theorem bn155_1 : Bnd D155 p155 fx 1 [] := bnd_all rfl fun _ _ _ _ _ _ us hl => match us, hl with | [_], _ => rfl
theorem kw141 : BndKw D141 p141 := bndKw rfl fun _ _ _ _ _ _ us hl => match us, hl with | [_], _ => rfl
theorem kd154 {K : PySem.W.Frag} {f : Addr} {fd : FuncData} (F : L2.FunD K D154.name D154.qual D154.params D154.body D154.scope (D154.dvs K) (D154.kws K) f fd) : ∃ a, a.arg = ("factors" : PySem.Str) ∧ KwD K fd (["self", "constant"] : List PySem.Str) a := kwD_of F rfl rfl rfl rfl rfl (by decide)
theorem ki46_ : KitI fx cn 46 "Form" [46] [] := ⟨⟨39, rfl⟩,
  fun c h => by
    simp only [List.mem_cons, List.not_mem_nil, or_false] at h
    rcases h with rfl
    · exact ⟨"Form", 40, 7, rfl, rfl, rfl⟩,
  fun _ h => absurd h (by simp)⟩
section
variable {P : Program} {w : World} {mg : PySem.Str → Option Value} {base : Heap} {k : Nat} {G : Gm} {cal : Nat → List Slot → CRes} {L : Nat} {fa : Addr}
theorem b138 (e : GQ tab fx gk cn P w G.K mg base k G cal) : BodyOk G P w G.K mg base n138 d138.io "law" (defScope s138) fa (defBody s138) k cal L d138.body := fun cdv A outer s H E C hG hfx c hp => by
  subst hG
  exact (st_cons (w_set c (nf hfx) (x_call c (q_fn e (f := 2) (i := 0) rfl rfl rfl bn2_1) (a_cons x_var a_nil)))
  (st_cons (w_fr c hp gp_name (nfs hfx) (pg_name c.nd rfl (by first | exact Or.inl rfl | exact Or.inr rfl)) (i_rng1 c (q_fr e 1 rfl) x_int) (st_cons (w_set c (nf hfx) (x_call c (q_fn e (f := 51) (i := 4) rfl rfl rfl bn51_3) (a_cons x_var (a_cons (x_call c (q_fn e (f := 50) (i := 3) rfl rfl rfl bn50_2) (a_cons x_var (a_cons (x_call c (q_fn e (f := 15) (i := 2) rfl rfl rfl bn15_2) (a_cons x_var (a_cons x_int a_nil))) a_nil))) (a_cons (x_bin b_sub (x_bin b_pow x_int x_int) x_int) a_nil)))))
  (st_cons (w_par c ⟨nf hfx, nf hfx⟩ (a_cons (x_call c (q_fn e (f := 52) (i := 5) rfl rfl rfl bn52_1) (a_cons x_var a_nil)) (a_cons (x_call c (q_fn e (f := 126) (i := 6) rfl rfl rfl bn126_1) (a_cons x_var a_nil)) a_nil)))
  (st_cons (w_ife (PW.pt (z_or (y_not (y_val (x_call c (q_fn e (f := 13) (i := 12) rfl rfl rfl bn13_2) (a_cons (x_lst (a_cons (q_meth0 c e (cl := 46) rfl (ic := 7) rfl (im := 8) rfl (f := 140) rfl rfl bn140_1 x_var) (a_cons (q_meth0 c e (cl := 46) rfl (ic := 7) rfl (im := 8) rfl (f := 140) rfl rfl bn140_1 (q_smeth c e (ig := 9) rfl (ic := 10) rfl (im := 11) rfl (f := 141) rfl rfl bn141_1 (a_cons x_var a_nil))) a_nil))) (a_cons (x_lst (a_cons x_var (a_cons x_var a_nil))) a_nil))))) (z_or1 (q_cneT c e (cl := 46) rfl (ic := 7) rfl (im := 13) rfl (ine := 14) rfl (f := 142) rfl rfl bn142_2 (q_smethK c e (ig := 9) rfl (ic := 10) rfl (im := 11) rfl (f := 141) rfl rfl rfl kw141 (k_cons x_var k_nil)) x_var)))) (st_cons (w_ret x_bl)
  st_nil) st_nil)
  (st_cons (w_set c (nf hfx) (q_smeth c e (ig := 9) rfl (ic := 10) rfl (im := 11) rfl (f := 141) rfl rfl bn141_1 (a_cons (x_call c (q_fn e (f := 143) (i := 15) rfl rfl rfl bn143_2) (a_cons x_var (a_cons x_var a_nil))) a_nil)))
  (st_cons (w_ife (PW.pt (z_or (q_cneT c e (cl := 46) rfl (ic := 7) rfl (im := 13) rfl (ine := 14) rfl (f := 142) rfl rfl bn142_2 x_var x_var) (z_or1 (y_not (y_val (x_call c (q_fn e (f := 13) (i := 12) rfl rfl rfl bn13_2) (a_cons (x_lst (a_cons (q_meth0 c e (cl := 46) rfl (ic := 7) rfl (im := 8) rfl (f := 140) rfl rfl bn140_1 x_var) (a_cons (q_prop c e (cl := 46) rfl (ic := 7) rfl (i := 16) rfl (f := 144) rfl rfl bn144_1 x_var) (a_cons (q_meth0 c e (cl := 46) rfl (ic := 7) rfl (im := 17) rfl (f := 145) rfl rfl bn145_1 x_var) a_nil)))) (a_cons (x_lst (a_cons x_var (a_cons (x_idx c x_var x_int) (a_cons (x_sorted c (q_fr e 19 rfl) (x_toList c (q_fr e 18 rfl) (x_idx c x_var x_int))) a_nil)))) a_nil)))))))) (st_cons (w_ret x_bl)
  st_nil) st_nil)
  st_nil))))))
  (st_cons (w_par c ⟨nf hfx, nf hfx⟩ (a_cons (q_smeth c e (ig := 9) rfl (ic := 10) rfl (im := 11) rfl (f := 141) rfl rfl bn141_1 (a_cons x_str a_nil)) (a_cons (q_smeth c e (ig := 9) rfl (ic := 10) rfl (im := 11) rfl (f := 141) rfl rfl bn141_1 (a_cons x_str a_nil)) a_nil)))
  (st_cons (w_ret (x_call c (q_fn e (f := 13) (i := 12) rfl rfl rfl bn13_2) (a_cons (x_lst (a_cons (q_meth0 c e (cl := 46) rfl (ic := 7) rfl (im := 8) rfl (f := 140) rfl rfl bn140_1 x_var) (a_cons (q_meth0 c e (cl := 46) rfl (ic := 7) rfl (im := 8) rfl (f := 140) rfl rfl bn140_1 x_var) (a_cons (q_meth0 c e (cl := 46) rfl (ic := 7) rfl (im := 8) rfl (f := 140) rfl rfl bn140_1 (q_smeth c e (ig := 9) rfl (ic := 10) rfl (im := 11) rfl (f := 141) rfl rfl bn141_1 (a_cons x_str a_nil))) (a_cons (q_boo c e (cl := 46) rfl (im := 20) rfl (ib := 21) rfl (f := 146) rfl rfl bn146_1 x_var) a_nil))))) (a_cons (x_lst (a_cons x_str (a_cons x_str (a_cons x_str (a_cons x_bl a_nil))))) a_nil))))
  st_nil))))
theorem b2 (e : GQ tab fx gk cn P w G.K mg base k G cal) : BodyOk G P w G.K mg base n2 d2.io "_law_bag" (defScope s2) fa (defBody s2) k cal L d2.body := fun cdv A outer s H E C hG hfx c hp => by
  subst hG
  exact (st_cons (w_set c (nf hfx) x_int)
  (st_cons (w_fr c hp gp_name (nfs hfx) (pg_name c.nd rfl (by first | exact Or.inl rfl | exact Or.inr rfl)) (i_any c (x_slHi c x_var x_int)) (st_cons (w_set c (nf hfx) (x_bin b_mod (x_toInt c (q_fr e 22 rfl) (x_bin b_add (x_bin b_add (x_bin b_mul x_var x_int) (x_bin b_mul (x_bin b_mod (x_toInt c (q_fr e 22 rfl) x_var) x_int) x_int)) x_int)) x_int))
  st_nil))
  (st_cons (w_ret (x_lst (a_cons (x_toList c (q_fr e 18 rfl) (x_slHi c x_var x_int)) (a_cons x_int (a_cons x_int (a_cons x_var (a_cons x_int a_nil)))))))
  st_nil)))
theorem b51 (e : GQ tab fx gk cn P w G.K mg base k G cal) : BodyOk G P w G.K mg base n51 d51.io "_law_some_form" (defScope s51) fa (defBody s51) k cal L d51.body := fun cdv A outer s H E C hG hfx c hp => by
  subst hG
  exact (st_cons (w_setc c (nf hfx) gp_name (blkOk_by (own := [("_law_name", 4)]) (by rfl)) (i_any c (x_sorted c (q_fr e 19 rfl) x_var)) (fun _ _ _ _ _ => (pg_name c.nd rfl (by first | exact Or.inl rfl | exact Or.inr rfl))) (fun _ _ _ _ _ c1 => (f_one (y_cmp (c_gt c1) (x_call c1 (q_fn e (f := 15) (i := 2) rfl rfl rfl bn15_2) (a_cons x_var (a_cons x_int a_nil))) x_int))) (fun _ _ _ _ _ c1 => (x_tup (a_cons x_var (a_cons (x_call c1 (q_fn e (f := 26) (i := 23) rfl rfl rfl bn26_2) (a_cons x_var (a_cons x_var a_nil))) a_nil)))))
  (st_cons (w_ret (x_tup (a_cons (x_call c (q_fn e (f := 26) (i := 23) rfl rfl rfl bn26_2) (a_cons x_var (a_cons x_var a_nil))) (a_cons (x_dict c (q_fr e 24 rfl) (x_comp c gp_name (blkOk_by (own := [("_law_pair", 5)]) (by rfl)) (i_any c x_var) (fun _ _ _ _ _ => (pg_name c.nd rfl (by first | exact Or.inl rfl | exact Or.inr rfl))) (fun _ _ _ _ _ c1 => (f_one (y_cmp (c_ne c1) (x_idx c1 x_var x_int) x_int))) (fun _ _ _ _ _ c1 => x_var))) a_nil))))
  st_nil))
theorem b50 (e : GQ tab fx gk cn P w G.K mg base k G cal) : BodyOk G P w G.K mg base n50 d50.io "_law_names" (defScope s50) fa (defBody s50) k cal L d50.body := fun cdv A outer s H E C hG hfx c hp => by
  subst hG
  exact (st_cons (w_parfN c ⟨nf hfx, nf hfx⟩ x_str (x_lst a_nil) (pg_name c.nd rfl (by first | exact Or.inl rfl | exact Or.inr rfl)) (pg_name c.nd rfl (by first | exact Or.inl rfl | exact Or.inr rfl)))
  (st_cons (w_fr c hp gp_name (nfs hfx) (pg_name c.nd rfl (by first | exact Or.inl rfl | exact Or.inr rfl)) (i_rng1 c (q_fr e 1 rfl) x_var) (st_cons (w_set c (nf hfx) (x_join c x_str (x_comp c gp_name (blkOk_by (own := [("_law_j", 6)]) (by rfl)) (i_rng1 c (q_fr e 1 rfl) (x_bin b_add x_int (x_call c (q_fn e (f := 15) (i := 2) rfl rfl rfl bn15_2) (a_cons x_var (a_cons (x_call c (q_fn e (f := 17) (i := 25) rfl rfl rfl bn17_2) (a_cons x_var (a_cons (x_lst (a_cons x_int (a_cons x_int (a_cons x_int a_nil)))) a_nil))) a_nil))))) (fun _ _ _ _ _ => (pg_name c.nd rfl (by first | exact Or.inl rfl | exact Or.inr rfl))) (fun _ _ _ _ _ c1 => f_nil) (fun _ _ _ _ _ c1 => (x_call c1 (q_fn e (f := 17) (i := 25) rfl rfl rfl bn17_2) (a_cons x_var (a_cons x_var a_nil)))))))
  (st_cons (w_set c (nf hfx) (x_bin b_add (x_lst (a_cons x_var a_nil)) (x_comp c gp_name (blkOk_by (own := [("_law_letter", 8)]) (by rfl)) (i_any c x_var) (fun _ _ _ _ _ => (pg_name c.nd rfl (by first | exact Or.inl rfl | exact Or.inr rfl))) (fun _ _ _ _ _ c1 => f_nil) (fun _ _ _ _ _ c1 => (x_bin b_add (x_slHi c1 x_var x_int) x_var)))))
  (st_cons (w_app c (x_idx c (x_comp c gp_name (blkOk_by (own := [("_law_one", 9)]) (by rfl)) (i_any c x_var) (fun _ _ _ _ _ => (pg_name c.nd rfl (by first | exact Or.inl rfl | exact Or.inr rfl))) (fun _ _ _ _ _ c1 => (f_one (PW.pt (z_and (y_cmp (c_notin c1) x_var x_var) (z_and1 (y_cmp (c_notin c1) x_var (x_call0 c1 (q_fn e (f := 54) (i := 26) rfl rfl rfl bn54_0)))))))) (fun _ _ _ _ _ c1 => x_var)) x_int) (pv 3))
  st_nil))))
  (st_cons (w_ret x_var)
  st_nil)))
theorem b15 (e : GQ tab fx gk cn P w G.K mg base k G cal) : BodyOk G P w G.K mg base n15 d15.io "_law_take" (defScope s15) fa (defBody s15) k cal L d15.body := fun cdv A outer s H E C hG hfx c hp => by
  subst hG
  exact (st_cons (w_sto c (pv 0) x_int (x_bin b_add (x_idx c x_var x_int) x_int))
  (st_cons (w_ife (PW.pt (z_and (y_cmp (c_eq c) (x_idx c x_var x_int) x_int) (z_and1 (y_cmp (c_lt c) (x_idx c x_var x_int) (x_len c (q_fr e 27 rfl) (x_idx c x_var x_int)))))) (st_cons (w_set c (nf hfx) (x_idx c (x_idx c x_var x_int) (x_idx c x_var x_int)))
  (st_cons (w_sto c (pv 0) x_int (x_bin b_add (x_idx c x_var x_int) x_int))
  (st_cons (w_ife (y_cmp (c_ge c) (x_abs c (q_fr e 28 rfl) x_var) (x_bin b_pow x_int x_int)) (st_cons (w_sto c (pv 0) x_int (x_abs c (q_fr e 28 rfl) x_var))
  st_nil) (st_cons (w_sto c (pv 0) x_int (x_bin b_mod (x_toInt c (q_fr e 22 rfl) (x_bin b_add (x_bin b_add (x_bin b_mul (x_idx c x_var x_int) x_int) (x_bin b_mul (x_bin b_mod (x_toInt c (q_fr e 22 rfl) x_var) x_int) x_int)) x_int)) x_int))
  st_nil))
  st_nil))) st_nil)
  (st_cons (w_ife (y_cmp (c_gt c) (x_idx c x_var x_int) x_int) (st_cons (w_set c (nf hfx) (x_bin b_mod (x_toInt c (q_fr e 22 rfl) (x_idx c x_var x_int)) x_var))
  (st_cons (w_sto c (pv 0) x_int (x_bin b_fdiv (x_idx c x_var x_int) x_var))
  (st_cons (w_ret x_var)
  st_nil))) st_nil)
  (st_cons (w_set c (nf hfx) (x_bin b_mod (x_toInt c (q_fr e 22 rfl) (x_bin b_add (x_bin b_mul (x_idx c x_var x_int) (x_idx c x_var x_int)) (x_bin b_mul (x_idx c x_var x_int) x_int))) x_int))
  (st_cons (w_sto c (pv 0) x_int (x_bin b_mod (x_toInt c (q_fr e 22 rfl) (x_bin b_add (x_bin b_add (x_bin b_mul x_var x_int) (x_bin b_mul (x_idx c x_var x_int) x_int)) x_int)) x_int))
  (st_cons (w_ret (x_bin b_mod (x_toInt c (q_fr e 22 rfl) (x_bin b_fdiv (x_idx c x_var x_int) x_int)) x_var))
  st_nil))))))
theorem b52 (e : GQ tab fx gk cn P w G.K mg base k G cal) : BodyOk G P w G.K mg base n52 d52.io "_law_form" (defScope s52) fa (defBody s52) k cal L d52.body := fun cdv A outer s H E C hG hfx c hp => by
  subst hG
  exact (st_cons (w_ret (q_smeth c e (ig := 9) rfl (ic := 10) rfl (im := 29) rfl (f := 147) rfl rfl bn147_2 (a_cons (x_comp c gp_name (blkOk_by (own := [("_law_name", 1)]) (by rfl)) (i_any c (x_idx c x_var x_int)) (fun _ _ _ _ _ => (pg_name c.nd rfl (by first | exact Or.inl rfl | exact Or.inr rfl))) (fun _ _ _ _ _ c1 => f_nil) (fun _ _ _ _ _ c1 => (x_tup (a_cons x_var (a_cons (x_idx c1 (x_idx c1 x_var x_int) x_var) a_nil))))) (a_cons (x_idx c x_var x_int) a_nil))))
  st_nil)
theorem b126 (e : GQ tab fx gk cn P w G.K mg base k G cal) : BodyOk G P w G.K mg base n126 d126.io "_law_form_text" (defScope s126) fa (defBody s126) k cal L d126.body := fun cdv A outer s H E C hG hfx c hp => by
  subst hG
  exact (st_cons (w_setc c (nf hfx) gp_name (blkOk_by (own := [("_law_name", 2)]) (by rfl)) (i_any c (x_sorted c (q_fr e 19 rfl) (x_toList c (q_fr e 18 rfl) (x_idx c x_var x_int)))) (fun _ _ _ _ _ => (pg_name c.nd rfl (by first | exact Or.inl rfl | exact Or.inr rfl))) (fun _ _ _ _ _ c1 => f_nil) (fun _ _ _ _ _ c1 => (x_tup (a_cons (x_idx c1 (x_idx c1 x_var x_int) x_var) (a_cons x_var a_nil)))))
  (st_cons (w_ife (PW.pt (z_or (y_cmp (c_ne c) (x_idx c x_var x_int) x_int) (z_or1 (y_cmp (c_eq c) x_var (x_lst a_nil))))) (st_cons (w_app c (x_tup (a_cons (x_idx c x_var x_int) (a_cons x_str a_nil))) (pv 1))
  st_nil) st_nil)
  (st_cons (w_set c (nf hfx) (x_lst a_nil))
  (st_cons (w_fr c hp (gp_tup rfl (gps_cons gp_name (gps_cons gp_name gps_nil))) (nfs hfx) (pg_tup c.calm (pgs_cons (pg_name c.nd rfl (by first | exact Or.inl rfl | exact Or.inr rfl)) (pgs_cons (pg_name c.nd rfl (by first | exact Or.inl rfl | exact Or.inr rfl)) pgs_nil))) (i_any c x_var) (st_cons (w_ife (PW.pt (z_or (y_cmp (c_lt c) x_var x_int) (z_or1 (y_cmp (c_ne c) x_var (x_lst a_nil))))) (st_cons (w_app c (x_ite (y_cmp (c_lt c) x_var x_int) x_str x_str) (pv 3))
  st_nil) st_nil)
  (st_cons (w_ife (PW.pt (z_or (y_cmp (c_eq c) x_var x_str) (z_or1 (y_cmp (c_ne c) (x_abs c (q_fr e 28 rfl) x_var) x_int)))) (st_cons (w_app c (x_toStr c (q_fr e 30 rfl) (x_abs c (q_fr e 28 rfl) x_var)) (pv 3))
  st_nil) st_nil)
  (st_cons (w_ife (y_cmp (c_ne c) x_var x_str) (st_cons (w_app c x_var (pv 3))
  st_nil) st_nil)
  st_nil))))
  (st_cons (w_ret (x_join c x_str x_var))
  st_nil)))))
theorem b13 (e : GQ tab fx gk cn P w G.K mg base k G cal) : BodyOk G P w G.K mg base n13 d13.io "_law_same" (defScope s13) fa (defBody s13) k cal L d13.body := fun cdv A outer s H E C hG hfx c hp => by
  subst hG
  exact (st_cons (w_ife (PW.pt (z_or (y_cmp (c_is c) x_var x_non) (z_or1 (y_cmp (c_is c) x_var x_non)))) (st_cons (w_ret (x_and (x_cmp (c_is c) x_var x_non) (x_one (x_cmp (c_is c) x_var x_non))))
  st_nil) st_nil)
  (st_cons (w_ife (y_val (x_isi1 c .dict (q_fr e 31 rfl) (x_cls .dict (by rfl) (q_fr e 24 rfl) rfl) x_var)) (st_cons (w_ife (PW.pt (z_or (y_not (y_val (x_isi1 c .dict (q_fr e 31 rfl) (x_cls .dict (by rfl) (q_fr e 24 rfl) rfl) x_var))) (z_or1 (y_cmp (c_ne c) (x_toList c (q_fr e 18 rfl) x_var) (x_toList c (q_fr e 18 rfl) x_var))))) (st_cons (w_ret x_bl)
  st_nil) st_nil)
  (st_cons (w_ret (x_all c (q_fr e 32 rfl) (x_comp c gp_name (blkOk_by (own := [("_law_key", 2)]) (by rfl)) (i_any c x_var) (fun _ _ _ _ _ => (pg_name c.nd rfl (by first | exact Or.inl rfl | exact Or.inr rfl))) (fun _ _ _ _ _ c1 => f_nil) (fun _ _ _ _ _ c1 => (x_call c1 (q_fn e (f := 13) (i := 12) rfl rfl rfl bn13_2) (a_cons (x_idx c1 x_var x_var) (a_cons (x_idx c1 x_var x_var) a_nil)))))))
  st_nil)) st_nil)
  (st_cons (w_ife (y_val (x_isi2 c .list .tuple (q_fr e 31 rfl) (x_cls .list (by rfl) (q_fr e 18 rfl) rfl) (x_cls .tuple (by rfl) (q_fr e 33 rfl) rfl) x_var)) (st_cons (w_ife (y_cmp (c_ne c) (x_isi1 c .list (q_fr e 31 rfl) (x_cls .list (by rfl) (q_fr e 18 rfl) rfl) x_var) (x_isi1 c .list (q_fr e 31 rfl) (x_cls .list (by rfl) (q_fr e 18 rfl) rfl) x_var)) (st_cons (w_ret x_bl)
  st_nil) st_nil)
  (st_cons (w_ife (PW.pt (z_or (y_cmp (c_ne c) (x_isi1 c .tuple (q_fr e 31 rfl) (x_cls .tuple (by rfl) (q_fr e 33 rfl) rfl) x_var) (x_isi1 c .tuple (q_fr e 31 rfl) (x_cls .tuple (by rfl) (q_fr e 33 rfl) rfl) x_var)) (z_or1 (y_cmp (c_ne c) (x_len c (q_fr e 27 rfl) x_var) (x_len c (q_fr e 27 rfl) x_var))))) (st_cons (w_ret x_bl)
  st_nil) st_nil)
  (st_cons (w_ret (x_all c (q_fr e 32 rfl) (x_comp c (gp_tup rfl (gps_cons gp_name (gps_cons gp_name gps_nil))) (blkOk_by (own := [("_law_a", 3), ("_law_b", 4)]) (by rfl)) (i_zip c (q_fr e 34 rfl) x_var x_var) (fun _ _ _ _ _ => (pg_tup c.calm (pgs_cons (pg_name c.nd rfl (by first | exact Or.inl rfl | exact Or.inr rfl)) (pgs_cons (pg_name c.nd rfl (by first | exact Or.inl rfl | exact Or.inr rfl)) pgs_nil)))) (fun _ _ _ _ _ c1 => f_nil) (fun _ _ _ _ _ c1 => (x_call c1 (q_fn e (f := 13) (i := 12) rfl rfl rfl bn13_2) (a_cons x_var (a_cons x_var a_nil)))))))
  st_nil))) st_nil)
  (st_cons (w_ife (y_val (x_isi3 c .list .tuple .dict (q_fr e 31 rfl) (x_cls .list (by rfl) (q_fr e 18 rfl) rfl) (x_cls .tuple (by rfl) (q_fr e 33 rfl) rfl) (x_cls .dict (by rfl) (q_fr e 24 rfl) rfl) x_var)) (st_cons (w_ret x_bl)
  st_nil) st_nil)
  (st_cons (w_ife (y_cmp (c_ne c) (x_isi1 c .bool (q_fr e 31 rfl) (x_cls .bool (by rfl) (q_fr e 21 rfl) rfl) x_var) (x_isi1 c .bool (q_fr e 31 rfl) (x_cls .bool (by rfl) (q_fr e 21 rfl) rfl) x_var)) (st_cons (w_ret x_bl)
  st_nil) st_nil)
  (st_cons (w_ife (y_cmp (c_ne c) (x_isi1 c .int (q_fr e 31 rfl) (x_cls .int (by rfl) (q_fr e 22 rfl) rfl) x_var) (x_isi1 c .int (q_fr e 31 rfl) (x_cls .int (by rfl) (q_fr e 22 rfl) rfl) x_var)) (st_cons (w_ret x_bl)
  st_nil) st_nil)
  (st_cons (w_ret (x_and (x_cmp (c_eq c) (x_isi1 c .str (q_fr e 31 rfl) (x_cls .str (by rfl) (q_fr e 30 rfl) rfl) x_var) (x_isi1 c .str (q_fr e 31 rfl) (x_cls .str (by rfl) (q_fr e 30 rfl) rfl) x_var)) (x_one (x_cmp (c_eq c) x_var x_var))))
  st_nil)))))))
theorem b140 (e : GQ tab fx gk cn P w G.K mg base k G cal) : BodyOk G P w G.K mg base n140 d140.io "Form.text" (defScope s140) fa (defBody s140) k cal L d140.body := fun cdv A outer s H E C hG hfx c hp => by
  subst hG
  exact (st_cons (w_setc c (nf hfx) gp_name (blkOk_by (own := [("name", 2)]) (by rfl)) (i_any c (q_fld c e (cl := 46) rfl (ic := 7) rfl (i := 35) rfl x_var)) (fun _ _ _ _ _ => (pg_name c.nd rfl (by first | exact Or.inl rfl | exact Or.inr rfl))) (fun _ _ _ _ _ c1 => f_nil) (fun _ _ _ _ _ c1 => (x_tup (a_cons (x_idx c1 (q_fld c1 e (cl := 46) rfl (ic := 7) rfl (i := 35) rfl x_var) x_var) (a_cons x_var a_nil)))))
  (st_cons (w_ife (PW.pt (z_or (y_cmp (c_ne c) (q_fld c e (cl := 46) rfl (ic := 7) rfl (i := 36) rfl x_var) x_int) (z_or1 (y_cmp (c_eq c) x_var (x_lst a_nil))))) (st_cons (w_app c (x_tup (a_cons (q_fld c e (cl := 46) rfl (ic := 7) rfl (i := 36) rfl x_var) (a_cons x_str a_nil))) (pv 1))
  st_nil) st_nil)
  (st_cons (w_set c (nf hfx) (x_ite (y_cmp (c_lt c) (x_idx c (x_idx c x_var x_int) x_int) x_int) x_str x_str))
  (st_cons (w_setc c (nf hfx) (gp_tup rfl (gps_cons gp_name (gps_cons gp_name gps_nil))) (blkOk_by (own := [("number", 5), ("name", 2)]) (by rfl)) (i_any c (x_slLo c x_var x_int)) (fun _ _ _ _ _ => (pg_tup c.calm (pgs_cons (pg_name c.nd rfl (by first | exact Or.inl rfl | exact Or.inr rfl)) (pgs_cons (pg_name c.nd rfl (by first | exact Or.inl rfl | exact Or.inr rfl)) pgs_nil)))) (fun _ _ _ _ _ c1 => f_nil) (fun _ _ _ _ _ c1 => (x_fst (j_cons (j_txt (by decide)) (j_cons (j_fmt (x_ite (y_cmp (c_lt c1) x_var x_int) x_str x_str)) (j_cons (j_txt (by decide)) (j_cons (j_fmt (x_call c1 (q_fn e (f := 148) (i := 37) rfl rfl rfl bn148_2) (a_cons (x_abs c1 (q_fr e 28 rfl) x_var) (a_cons x_var a_nil)))) j_nil)))))))
  (st_cons (w_ret (x_join c x_str (x_lsx (ax_cons x_var (ax_cons (x_call c (q_fn e (f := 148) (i := 37) rfl rfl rfl bn148_2) (a_cons (x_abs c (q_fr e 28 rfl) (x_idx c (x_idx c x_var x_int) x_int)) (a_cons (x_idx c (x_idx c x_var x_int) x_int) a_nil))) (ax_star c x_var ax_nil))))))
  st_nil)))))
theorem b141 (e : GQ tab fx gk cn P w G.K mg base k G cal) : BodyOk G P w G.K mg base n141 d141.io "Form.read" (defScope s141) fa (defBody s141) k cal L d141.body := fun cdv A outer s H E C hG hfx c hp => by
  subst hG
  exact (st_cons (w_ife (y_not (y_val (x_isi1 c .str (q_fr e 31 rfl) (x_cls .str (by rfl) (q_fr e 30 rfl) rfl) x_var))) (st_cons st_nev
  st_nil) st_nil)
  (st_cons (w_set c (nf hfx) (x_split x_var pe_str))
  (st_cons (w_unp c (gp_tup rfl (gps_cons gp_name (gps_cons gp_name gps_nil))) (nfs hfx) (pg_tup c.calm (pgs_cons (pg_name c.nd rfl (by first | exact Or.inl rfl | exact Or.inr rfl)) (pgs_cons (pg_name c.nd rfl (by first | exact Or.inl rfl | exact Or.inr rfl)) pgs_nil))) (x_call c (q_fn e (f := 149) (i := 38) rfl rfl rfl bn149_2) (a_cons x_var (a_cons x_int a_nil))))
  (st_cons (w_ife (y_cmp (c_lt c) x_var (x_len c (q_fr e 27 rfl) x_var)) (st_cons st_nev
  st_nil) st_nil)
  (st_cons (w_ret x_var)
  st_nil)))))
theorem b142 (e : GQ tab fx gk cn P w G.K mg base k G cal) : BodyOk G P w G.K mg base n142 d142.io "Form.__eq__" (defScope s142) fa (defBody s142) k cal L d142.body := fun cdv A outer s H E C hG hfx c hp => by
  subst hG
  exact (st_cons (w_ife (y_not (y_val (q_isc c e (cl := 46) rfl (ig := 9) rfl (ib := 31) rfl ki46_ x_var))) (st_cons (w_ret x_bl)
  st_nil) st_nil)
  (st_cons (w_ret (x_and (x_cmp (c_eq c) (q_fld c e (cl := 46) rfl (ic := 7) rfl (i := 36) rfl x_var) (q_fld c e (cl := 46) rfl (ic := 7) rfl (i := 36) rfl x_var)) (x_one (x_cmp (c_eq c) (q_fld c e (cl := 46) rfl (ic := 7) rfl (i := 35) rfl x_var) (q_fld c e (cl := 46) rfl (ic := 7) rfl (i := 35) rfl x_var)))))
  st_nil))
theorem b143 (e : GQ tab fx gk cn P w G.K mg base k G cal) : BodyOk G P w G.K mg base n143 d143.io "_law_spare_text" (defScope s143) fa (defBody s143) k cal L d143.body := fun cdv A outer s H E C hG hfx c hp => by
  subst hG
  exact (st_cons (w_set c (nf hfx) (x_bin b_add (x_comp c gp_name (blkOk_by (own := [("_law_name", 3)]) (by rfl)) (i_any c (x_idx c x_var x_int)) (fun _ _ _ _ _ => (pg_name c.nd rfl (by first | exact Or.inl rfl | exact Or.inr rfl))) (fun _ _ _ _ _ c1 => f_nil) (fun _ _ _ _ _ c1 => (x_tup (a_cons (x_idx c1 (x_idx c1 x_var x_int) x_var) (a_cons x_var a_nil))))) (x_lst (a_cons (x_tup (a_cons (x_idx c x_var x_int) (a_cons x_str a_nil))) a_nil))))
  (st_cons (w_fr c hp gp_name (nfs hfx) (pg_name c.nd rfl (by first | exact Or.inl rfl | exact Or.inr rfl)) (i_rng1 c (q_fr e 1 rfl) (x_call c (q_fn e (f := 15) (i := 2) rfl rfl rfl bn15_2) (a_cons x_var (a_cons x_int a_nil)))) (st_cons (w_par c ⟨nf hfx, nf hfx⟩ (a_cons (x_call c (q_fn e (f := 17) (i := 25) rfl rfl rfl bn17_2) (a_cons x_var (a_cons (x_bin b_add (x_bin b_add (x_lst (a_cons x_str a_nil)) (x_toList c (q_fr e 18 rfl) (x_idx c x_var x_int))) (x_lst (a_cons x_str a_nil))) a_nil))) (a_cons (x_call c (q_fn e (f := 15) (i := 2) rfl rfl rfl bn15_2) (a_cons x_var (a_cons (x_bin b_pow x_int x_int) a_nil))) a_nil)))
  (st_cons (w_set c (nf hfx) (x_bin b_add x_var (x_lst (a_cons (x_tup (a_cons x_var (a_cons x_var a_nil))) (a_cons (x_tup (a_cons (x_bin b_sub x_int x_var) (a_cons x_var a_nil))) a_nil)))))
  st_nil)))
  (st_cons (w_paro c ⟨nf hfx, nf hfx⟩ (x_lst a_nil) (x_lst a_nil))
  (st_cons (w_fr c hp gp_name (nfs hfx) (pg_name c.nd rfl (by first | exact Or.inl rfl | exact Or.inr rfl)) (i_any c x_var) (st_cons (w_insr c (x_call c (q_fn e (f := 15) (i := 2) rfl rfl rfl bn15_2) (a_cons x_var (a_cons (x_bin b_add (x_len c (q_fr e 27 rfl) x_var) x_int) a_nil))) x_var (pv 6))
  st_nil))
  (st_cons (w_fr c hp (gp_tup rfl (gps_cons gp_name (gps_cons gp_name gps_nil))) (nfs hfx) (pg_tup c.calm (pgs_cons (pg_name c.nd rfl (by first | exact Or.inl rfl | exact Or.inr rfl)) (pgs_cons (pg_name c.nd rfl (by first | exact Or.inl rfl | exact Or.inr rfl)) pgs_nil))) (i_any c x_var) (st_cons (w_ife (PW.pt (z_or (y_cmp (c_ne c) x_var (x_lst a_nil)) (z_or1 (y_cmp (c_lt c) x_var x_int)))) (st_cons (w_app c (x_ite (y_cmp (c_lt c) x_var x_int) x_str x_str) (pv 7))
  st_nil) st_nil)
  (st_cons (w_ife (PW.pt (z_or (y_cmp (c_eq c) x_var x_str) (z_or (y_cmp (c_ne c) (x_abs c (q_fr e 28 rfl) x_var) x_int) (z_or1 (y_cmp (c_eq c) (x_call c (q_fn e (f := 15) (i := 2) rfl rfl rfl bn15_2) (a_cons x_var (a_cons x_int a_nil))) x_int))))) (st_cons (w_app c (x_toStr c (q_fr e 30 rfl) (x_abs c (q_fr e 28 rfl) x_var)) (pv 7))
  st_nil) st_nil)
  (st_cons (w_ife (y_cmp (c_ne c) x_var x_str) (st_cons (w_app c x_var (pv 7))
  st_nil) st_nil)
  st_nil))))
  (st_cons (w_ret (x_join c x_str x_var))
  st_nil))))))
theorem b144 (e : GQ tab fx gk cn P w G.K mg base k G cal) : BodyOk G P w G.K mg base n144 d144.io "Form.constant" (defScope s144) fa (defBody s144) k cal L d144.body := fun cdv A outer s H E C hG hfx c hp => by
  subst hG
  exact (st_cons (w_ret (q_fld c e (cl := 46) rfl (ic := 7) rfl (i := 36) rfl x_var))
  st_nil)
theorem b145 (e : GQ tab fx gk cn P w G.K mg base k G cal) : BodyOk G P w G.K mg base n145 d145.io "Form.names" (defScope s145) fa (defBody s145) k cal L d145.body := fun cdv A outer s H E C hG hfx c hp => by
  subst hG
  exact (st_cons (w_ret (x_toList c (q_fr e 18 rfl) (q_fld c e (cl := 46) rfl (ic := 7) rfl (i := 35) rfl x_var)))
  st_nil)
theorem b146 (e : GQ tab fx gk cn P w G.K mg base k G cal) : BodyOk G P w G.K mg base n146 d146.io "Form.__bool__" (defScope s146) fa (defBody s146) k cal L d146.body := fun cdv A outer s H E C hG hfx c hp => by
  subst hG
  exact (st_cons (w_ret (x_or (x_bool1 c (q_fr e 21 rfl) (x_cmp (c_ne c) (q_fld c e (cl := 46) rfl (ic := 7) rfl (i := 36) rfl x_var) x_int)) (x_one (x_cmp (c_gt c) (x_len c (q_fr e 27 rfl) (q_fld c e (cl := 46) rfl (ic := 7) rfl (i := 35) rfl x_var)) x_int))))
  st_nil)
theorem b26 (e : GQ tab fx gk cn P w G.K mg base k G cal) : BodyOk G P w G.K mg base n26 d26.io "_law_number" (defScope s26) fa (defBody s26) k cal L d26.body := fun cdv A outer s H E C hG hfx c hp => by
  subst hG
  exact (st_cons (w_set c (nf hfx) (x_call c (q_fn e (f := 17) (i := 25) rfl rfl rfl bn17_2) (a_cons x_var (a_cons (x_lst (a_cons x_int (a_cons x_int (a_cons x_int (a_cons x_var a_nil))))) a_nil))))
  (st_cons (w_ret (x_bin b_sub (x_call c (q_fn e (f := 15) (i := 2) rfl rfl rfl bn15_2) (a_cons x_var (a_cons (x_bin b_add (x_bin b_mul x_int x_var) x_int) a_nil))) x_var))
  st_nil))
theorem b17 (e : GQ tab fx gk cn P w G.K mg base k G cal) : BodyOk G P w G.K mg base n17 d17.io "_law_of" (defScope s17) fa (defBody s17) k cal L d17.body := fun cdv A outer s H E C hG hfx c hp => by
  subst hG
  exact (st_cons (w_ret (x_idx c x_var (x_call c (q_fn e (f := 15) (i := 2) rfl rfl rfl bn15_2) (a_cons x_var (a_cons (x_len c (q_fr e 27 rfl) x_var) a_nil)))))
  st_nil)
theorem b54 (e : GQ tab fx gk cn P w G.K mg base k G cal) : BodyOk G P w G.K mg base n54 d54.io "_law_kept" (defScope s54) fa (defBody s54) k cal L d54.body := fun cdv A outer s H E C hG hfx c hp => by
  subst hG
  exact (st_cons (w_ret (x_lst (a_cons x_str (a_cons x_str (a_cons x_str (a_cons x_str (a_cons x_str (a_cons x_str (a_cons x_str (a_cons x_str (a_cons x_str (a_cons x_str (a_cons x_str a_nil)))))))))))))
  st_nil)
theorem b147 (e : GQ tab fx gk cn P w G.K mg base k G cal) : BodyOk G P w G.K mg base n147 d147.io "Form.of" (defScope s147) fa (defBody s147) k cal L d147.body := fun cdv A outer s H E C hG hfx c hp => by
  subst hG
  exact (st_cons (w_ife (y_not (y_val (x_call c (q_fn e (f := 19) (i := 41) rfl rfl rfl bn19_1) (a_cons x_var a_nil)))) (st_cons st_nev
  st_nil) st_nil)
  (st_cons (w_set c (nf hfx) x_dic0)
  (st_cons (w_fr c hp (gp_tup rfl (gps_cons gp_name (gps_cons gp_name gps_nil))) (nfs hfx) (pg_tup c.calm (pgs_cons (pg_name c.nd rfl (by first | exact Or.inl rfl | exact Or.inr rfl)) (pgs_cons (pg_name c.nd rfl (by first | exact Or.inl rfl | exact Or.inr rfl)) pgs_nil))) (i_enum c (q_fr e 42 rfl) x_var) (st_cons (w_ife (PW.pt (z_or (y_not (y_val (x_isi1 c .tuple (q_fr e 31 rfl) (x_cls .tuple (by rfl) (q_fr e 33 rfl) rfl) x_var))) (z_or (y_cmp (c_ne c) (x_len c (q_fr e 27 rfl) x_var) x_int) (z_or (y_not (y_val (x_call c (q_fn e (f := 150) (i := 43) rfl rfl rfl bn150_1) (a_cons (x_idx c x_var x_int) a_nil)))) (z_or1 (y_not (y_val (x_call c (q_fn e (f := 22) (i := 44) rfl rfl rfl bn22_1) (a_cons (x_idx c x_var x_int) a_nil))))))))) (st_cons st_nev
  st_nil) st_nil)
  (st_cons (w_sto c (pv 2) (x_idx c x_var x_int) (x_bin b_add (x_dgt c x_var (x_idx c x_var x_int) x_int) (x_idx c x_var x_int)))
  st_nil)))
  (st_cons (w_ife (y_not (y_val (x_call c (q_fn e (f := 22) (i := 44) rfl rfl rfl bn22_1) (a_cons x_var a_nil)))) (st_cons st_nev
  st_nil) st_nil)
  (st_cons (w_ret (x_call c (q_fn e (f := 151) (i := 45) rfl rfl rfl bn151_2) (a_cons x_var (a_cons x_var a_nil))))
  st_nil)))))
theorem b148 (e : GQ tab fx gk cn P w G.K mg base k G cal) : BodyOk G P w G.K mg base n148 d148.io "term_text" (defScope s148) fa (defBody s148) k cal L d148.body := fun cdv A outer s H E C hG hfx c hp => by
  subst hG
  exact (st_cons (w_ife (y_cmp (c_eq c) x_var x_str) (st_cons (w_ret (x_toStr c (q_fr e 30 rfl) x_var))
  st_nil) st_nil)
  (st_cons (w_ret (x_ite (y_cmp (c_eq c) x_var x_int) x_var (x_fst (j_cons (j_fmt x_var) (j_cons (j_txt (by decide)) (j_cons (j_fmt x_var) j_nil))))))
  st_nil))
theorem b149 (e : GQ tab fx gk cn P w G.K mg base k G cal) : BodyOk G P w G.K mg base n149 d149.io "read_words" (defScope s149) fa (defBody s149) k cal L d149.body := fun cdv A outer s H E C hG hfx c hp => by
  subst hG
  exact (st_cons (w_par3 c ⟨nf hfx, nf hfx, nf hfx⟩ x_int x_dic0 pe_int)
  (st_cons (w_ife (PW.pt (z_and (y_cmp (c_lt c) x_var (x_len c (q_fr e 27 rfl) x_var)) (z_and1 (y_cmp (c_eq c) (x_idx c x_var x_var) x_str)))) (st_cons (w_par c ⟨nf hfx, nf hfx⟩ (a_cons (x_neg x_int) (a_cons (x_bin b_add x_var x_int) a_nil)))
  st_nil) st_nil)
  (st_cons (w_wh hp (y_val x_bl) (st_cons (w_unp c (gp_tup rfl (gps_cons gp_name (gps_cons gp_name (gps_cons gp_name gps_nil)))) (nfs hfx) (pg_tup c.calm (pgs_cons (pg_name c.nd rfl (by first | exact Or.inl rfl | exact Or.inr rfl)) (pgs_cons (pg_name c.nd rfl (by first | exact Or.inl rfl | exact Or.inr rfl)) (pgs_cons (pg_name c.nd rfl (by first | exact Or.inl rfl | exact Or.inr rfl)) pgs_nil)))) (x_call c (q_fn e (f := 152) (i := 46) rfl rfl rfl bn152_2) (a_cons x_var (a_cons x_var a_nil))))
  (st_cons (w_ife (y_cmp (c_eq c) x_var x_str) (st_cons (w_augAdd c (nf hfx) (x_bin b_mul x_var x_var))
  st_nil) (st_cons (w_sto c (pv 3) x_var (x_bin b_add (x_dgt c x_var x_var x_int) (x_bin b_mul x_var x_var)))
  st_nil))
  (st_cons (w_ife (PW.pt (z_or (y_cmp (c_ge c) x_var (x_len c (q_fr e 27 rfl) x_var)) (z_or1 (y_cmp (c_notin c) (x_idx c x_var x_var) (x_tup (a_cons x_str (a_cons x_str a_nil))))))) (st_cons (w_ret (x_tup (a_cons (x_call c (q_fn e (f := 151) (i := 45) rfl rfl rfl bn151_2) (a_cons x_var (a_cons x_var a_nil))) (a_cons x_var a_nil))))
  st_nil) st_nil)
  (st_cons (w_par c ⟨nf hfx, nf hfx⟩ (a_cons (x_ite (y_cmp (c_eq c) (x_idx c x_var x_var) x_str) x_int (x_neg x_int)) (a_cons (x_bin b_add x_var x_int) a_nil)))
  st_nil)))))
  st_nil)))
theorem b19 (e : GQ tab fx gk cn P w G.K mg base k G cal) : BodyOk G P w G.K mg base n19 d19.io "is_list" (defScope s19) fa (defBody s19) k cal L d19.body := fun cdv A outer s H E C hG hfx c hp => by
  subst hG
  exact (st_cons (w_ret (x_isi2 c .list .tuple (q_fr e 31 rfl) (x_cls .list (by rfl) (q_fr e 18 rfl) rfl) (x_cls .tuple (by rfl) (q_fr e 33 rfl) rfl) x_var))
  st_nil)
theorem b150 (e : GQ tab fx gk cn P w G.K mg base k G cal) : BodyOk G P w G.K mg base n150 d150.io "is_name" (defScope s150) fa (defBody s150) k cal L d150.body := fun cdv A outer s H E C hG hfx c hp => by
  subst hG
  exact (st_cons (w_ife (PW.pt (z_or (y_not (y_val (x_isi1 c .str (q_fr e 31 rfl) (x_cls .str (by rfl) (q_fr e 30 rfl) rfl) x_var))) (z_or (y_not (y_chain (c_le c) (c_le c) x_int (x_len c (q_fr e 27 rfl) x_var) (x_glob (q_glob e 0 rfl)))) (z_or1 (y_cmp (c_in c) x_var (x_glob (q_glob e 1 rfl))))))) (st_cons (w_ret x_bl)
  st_nil) st_nil)
  (st_cons (w_ret (x_all c (q_fr e 32 rfl) (x_comp c gp_name (blkOk_by (own := [("letter", 1)]) (by rfl)) (i_any c x_var) (fun _ _ _ _ _ => (pg_name c.nd rfl (by first | exact Or.inl rfl | exact Or.inr rfl))) (fun _ _ _ _ _ c1 => f_nil) (fun _ _ _ _ _ c1 => (x_cmp (c_in c1) x_var (x_glob (q_glob e 2 rfl)))))))
  st_nil))
theorem b22 (e : GQ tab fx gk cn P w G.K mg base k G cal) : BodyOk G P w G.K mg base n22 d22.io "is_whole" (defScope s22) fa (defBody s22) k cal L d22.body := fun cdv A outer s H E C hG hfx c hp => by
  subst hG
  exact (st_cons (w_ret (x_and (x_isi1 c .int (q_fr e 31 rfl) (x_cls .int (by rfl) (q_fr e 22 rfl) rfl) x_var) (x_one (x_not (x_isi1 c .bool (q_fr e 31 rfl) (x_cls .bool (by rfl) (q_fr e 21 rfl) rfl) x_var)))))
  st_nil)
theorem b151 (e : GQ tab fx gk cn P w G.K mg base k G cal) : BodyOk G P w G.K mg base n151 d151.io "form_of" (defScope s151) fa (defBody s151) k cal L d151.body := fun cdv A outer s H E C hG hfx c hp => by
  subst hG
  exact (st_cons (w_set c (nf hfx) (x_call c (q_fn e (f := 153) (i := 47) rfl rfl rfl bn153_1) (a_cons x_var a_nil)))
  (st_cons (w_ret (q_mkW c e (i := 2) (N := (["self", "constant"] : List PySem.Str)) (y0 := ("factors" : PySem.Str)) (cl := 46) rfl (ig := 9) rfl (im := 48) rfl (f := 154) rfl rfl rfl kd154 rfl (a_cons x_var a_nil) rfl (by first | exact Or.inl rfl | exact Or.inr rfl)))
  st_nil))
theorem b152 (e : GQ tab fx gk cn P w G.K mg base k G cal) : BodyOk G P w G.K mg base n152 d152.io "read_term" (defScope s152) fa (defBody s152) k cal L d152.body := fun cdv A outer s H E C hG hfx c hp => by
  subst hG
  exact (st_cons (w_ife (PW.pt (z_and (y_cmp (c_lt c) x_var (x_len c (q_fr e 27 rfl) x_var)) (z_and1 (y_val (x_call c (q_fn e (f := 150) (i := 43) rfl rfl rfl bn150_1) (a_cons (x_idx c x_var x_var) a_nil)))))) (st_cons (w_ret (x_tup (a_cons x_int (a_cons (x_idx c x_var x_var) (a_cons (x_bin b_add x_var x_int) a_nil)))))
  st_nil) st_nil)
  (st_cons (w_ife (PW.pt (z_or (y_cmp (c_ge c) x_var (x_len c (q_fr e 27 rfl) x_var)) (z_or1 (y_not (y_val (x_call c (q_fn e (f := 155) (i := 49) rfl rfl rfl bn155_1) (a_cons (x_idx c x_var x_var) a_nil))))))) (st_cons st_nev
  st_nil) st_nil)
  (st_cons (w_ife (PW.pt (z_and (y_cmp (c_lt c) (x_bin b_add x_var x_int) (x_len c (q_fr e 27 rfl) x_var)) (z_and1 (y_val (x_call c (q_fn e (f := 150) (i := 43) rfl rfl rfl bn150_1) (a_cons (x_idx c x_var (x_bin b_add x_var x_int)) a_nil)))))) (st_cons (w_ret (x_tup (a_cons (x_toInt c (q_fr e 22 rfl) (x_idx c x_var x_var)) (a_cons (x_idx c x_var (x_bin b_add x_var x_int)) (a_cons (x_bin b_add x_var x_int) a_nil)))))
  st_nil) st_nil)
  (st_cons (w_ret (x_tup (a_cons (x_toInt c (q_fr e 22 rfl) (x_idx c x_var x_var)) (a_cons x_str (a_cons (x_bin b_add x_var x_int) a_nil)))))
  st_nil))))
theorem b153 (e : GQ tab fx gk cn P w G.K mg base k G cal) : BodyOk G P w G.K mg base n153 d153.io "kept_factors" (defScope s153) fa (defBody s153) k cal L d153.body := fun cdv A outer s H E C hG hfx c hp => by
  subst hG
  exact (st_cons (w_ret (x_dcm c gp_name (blkOk_by (own := [("name", 1)]) (by rfl)) (i_any c (x_sorted c (q_fr e 19 rfl) (x_toList c (q_fr e 18 rfl) x_var))) (fun _ _ _ _ _ => (pg_name c.nd rfl (by first | exact Or.inl rfl | exact Or.inr rfl))) (fun _ _ _ _ _ c1 => (f_one (y_cmp (c_ne c1) (x_idx c1 x_var x_var) x_int))) (fun _ _ _ _ _ c1 => x_var) (fun _ _ _ _ _ c1 => (x_idx c1 x_var x_var))))
  st_nil)
theorem b154 (e : GQ tab fx gk cn P w G.K mg base k G cal) : BodyOk G P w G.K mg base n154 d154.io "Form.__init__" (defScope s154) fa (defBody s154) k cal L d154.body := fun cdv A outer s H E C hG hfx c hp => by
  subst hG
  exact (st_cons (w_ife (y_not (y_val (x_call c (q_fn e (f := 22) (i := 44) rfl rfl rfl bn22_1) (a_cons x_var a_nil)))) (st_cons st_nev
  st_nil) st_nil)
  (st_cons (w_fr c hp gp_name (nfs hfx) (pg_name c.nd rfl (by first | exact Or.inl rfl | exact Or.inr rfl)) (i_any c (x_toList c (q_fr e 18 rfl) x_var)) (st_cons (w_ife (y_not (y_val (x_call c (q_fn e (f := 150) (i := 43) rfl rfl rfl bn150_1) (a_cons x_var a_nil)))) (st_cons st_nev
  st_nil) st_nil)
  st_nil))
  (st_cons (w_fr c hp gp_name (nfs hfx) (pg_name c.nd rfl (by first | exact Or.inl rfl | exact Or.inr rfl)) (i_any c (x_toList c (q_fr e 18 rfl) x_var)) (st_cons (w_ife (y_not (y_val (x_call c (q_fn e (f := 22) (i := 44) rfl rfl rfl bn22_1) (a_cons (x_idx c x_var x_var) a_nil)))) (st_cons st_nev
  st_nil) st_nil)
  st_nil))
  (st_cons (q_stf c e (cl := 46) rfl (ic := 7) rfl (i := 36) rfl (pv 0) x_var)
  (st_cons (q_stf c e (cl := 46) rfl (ic := 7) rfl (i := 35) rfl (pv 0) (x_call c (q_fn e (f := 153) (i := 47) rfl rfl rfl bn153_1) (a_cons x_var a_nil)))
  st_nil)))))
theorem b155 (e : GQ tab fx gk cn P w G.K mg base k G cal) : BodyOk G P w G.K mg base n155 d155.io "is_numeral" (defScope s155) fa (defBody s155) k cal L d155.body := fun cdv A outer s H E C hG hfx c hp => by
  subst hG
  exact (st_cons (w_ife (PW.pt (z_or (y_not (y_val (x_isi1 c .str (q_fr e 31 rfl) (x_cls .str (by rfl) (q_fr e 30 rfl) rfl) x_var))) (z_or1 (y_not (y_chain (c_le c) (c_le c) x_int (x_len c (q_fr e 27 rfl) x_var) (x_glob (q_glob e 3 rfl))))))) (st_cons (w_ret x_bl)
  st_nil) st_nil)
  (st_cons (w_ret (x_and (x_all c (q_fr e 32 rfl) (x_comp c gp_name (blkOk_by (own := [("digit", 1)]) (by rfl)) (i_any c x_var) (fun _ _ _ _ _ => (pg_name c.nd rfl (by first | exact Or.inl rfl | exact Or.inr rfl))) (fun _ _ _ _ _ c1 => f_nil) (fun _ _ _ _ _ c1 => (x_cmp (c_in c1) x_var (x_glob (q_glob e 4 rfl)))))) (x_one (x_or (x_cmp (c_eq c) x_var x_str) (x_one (x_cmp (c_ne c) (x_idx c x_var x_int) x_str))))))
  st_nil))
end
theorem sc138 : FnScope n138 p138 (defScope s138) := ⟨rfl, rfl, rfl, by decide +kernel, rfl, by decide +kernel, by decide +kernel⟩
theorem sc2 : FnScope n2 p2 (defScope s2) := ⟨rfl, rfl, rfl, by decide +kernel, rfl, by decide +kernel, by decide +kernel⟩
theorem sc51 : FnScope n51 p51 (defScope s51) := ⟨rfl, rfl, rfl, by decide +kernel, rfl, by decide +kernel, by decide +kernel⟩
theorem sc50 : FnScope n50 p50 (defScope s50) := ⟨rfl, rfl, rfl, by decide +kernel, rfl, by decide +kernel, by decide +kernel⟩
theorem sc15 : FnScope n15 p15 (defScope s15) := ⟨rfl, rfl, rfl, by decide +kernel, rfl, by decide +kernel, by decide +kernel⟩
theorem sc52 : FnScope n52 p52 (defScope s52) := ⟨rfl, rfl, rfl, by decide +kernel, rfl, by decide +kernel, by decide +kernel⟩
theorem sc126 : FnScope n126 p126 (defScope s126) := ⟨rfl, rfl, rfl, by decide +kernel, rfl, by decide +kernel, by decide +kernel⟩
theorem sc13 : FnScope n13 p13 (defScope s13) := ⟨rfl, rfl, rfl, by decide +kernel, rfl, by decide +kernel, by decide +kernel⟩
theorem sc140 : FnScope n140 p140 (defScope s140) := ⟨rfl, rfl, rfl, by decide +kernel, rfl, by decide +kernel, by decide +kernel⟩
theorem sc141 : FnScope n141 p141 (defScope s141) := ⟨rfl, rfl, rfl, by decide +kernel, rfl, by decide +kernel, by decide +kernel⟩
theorem sc142 : FnScope n142 p142 (defScope s142) := ⟨rfl, rfl, rfl, by decide +kernel, rfl, by decide +kernel, by decide +kernel⟩
theorem sc143 : FnScope n143 p143 (defScope s143) := ⟨rfl, rfl, rfl, by decide +kernel, rfl, by decide +kernel, by decide +kernel⟩
theorem sc144 : FnScope n144 p144 (defScope s144) := ⟨rfl, rfl, rfl, by decide +kernel, rfl, by decide +kernel, by decide +kernel⟩
theorem sc145 : FnScope n145 p145 (defScope s145) := ⟨rfl, rfl, rfl, by decide +kernel, rfl, by decide +kernel, by decide +kernel⟩
theorem sc146 : FnScope n146 p146 (defScope s146) := ⟨rfl, rfl, rfl, by decide +kernel, rfl, by decide +kernel, by decide +kernel⟩
theorem sc26 : FnScope n26 p26 (defScope s26) := ⟨rfl, rfl, rfl, by decide +kernel, rfl, by decide +kernel, by decide +kernel⟩
theorem sc17 : FnScope n17 p17 (defScope s17) := ⟨rfl, rfl, rfl, by decide +kernel, rfl, by decide +kernel, by decide +kernel⟩
theorem sc54 : FnScope n54 p54 (defScope s54) := ⟨rfl, rfl, rfl, by decide +kernel, rfl, by decide +kernel, by decide +kernel⟩
theorem sc147 : FnScope n147 p147 (defScope s147) := ⟨rfl, rfl, rfl, by decide +kernel, rfl, by decide +kernel, by decide +kernel⟩
theorem sc148 : FnScope n148 p148 (defScope s148) := ⟨rfl, rfl, rfl, by decide +kernel, rfl, by decide +kernel, by decide +kernel⟩
theorem sc149 : FnScope n149 p149 (defScope s149) := ⟨rfl, rfl, rfl, by decide +kernel, rfl, by decide +kernel, by decide +kernel⟩
theorem sc19 : FnScope n19 p19 (defScope s19) := ⟨rfl, rfl, rfl, by decide +kernel, rfl, by decide +kernel, by decide +kernel⟩
theorem sc150 : FnScope n150 p150 (defScope s150) := ⟨rfl, rfl, rfl, by decide +kernel, rfl, by decide +kernel, by decide +kernel⟩
theorem sc22 : FnScope n22 p22 (defScope s22) := ⟨rfl, rfl, rfl, by decide +kernel, rfl, by decide +kernel, by decide +kernel⟩
theorem sc151 : FnScope n151 p151 (defScope s151) := ⟨rfl, rfl, rfl, by decide +kernel, rfl, by decide +kernel, by decide +kernel⟩
theorem sc152 : FnScope n152 p152 (defScope s152) := ⟨rfl, rfl, rfl, by decide +kernel, rfl, by decide +kernel, by decide +kernel⟩
theorem sc153 : FnScope n153 p153 (defScope s153) := ⟨rfl, rfl, rfl, by decide +kernel, rfl, by decide +kernel, by decide +kernel⟩
theorem sc154 : FnScope n154 p154 (defScope s154) := ⟨rfl, rfl, rfl, by decide +kernel, rfl, by decide +kernel, by decide +kernel⟩
theorem sc155 : FnScope n155 p155 (defScope s155) := ⟨rfl, rfl, rfl, by decide +kernel, rfl, by decide +kernel, by decide +kernel⟩
inductive All {α : Type} (P : α → Prop) : List α → Prop
  | nil : All P []
  | cons {a : α} {l : List α} : P a → All P l → All P (a :: l)
theorem All.mem {α : Type} {P : α → Prop} {l : List α} (h : All P l) : ∀ a ∈ l, P a := by
  induction h with
  | nil => intro a h; cases h
  | cons x _ ih =>
    intro a h
    cases h with
    | head => exact x
    | tail _ h => exact ih a h
theorem lookup_mem {β : Type} {f : Nat} {x : β} : ∀ {l : List (Nat × β)}, l.lookup f = some x → (f, x) ∈ l
  | [], h => by cases h
  | (g, y) :: r, h => by
    rw [List.lookup_cons] at h
    cases e : f == g with
    | true => rw [e] at h; cases h; rw [beq_iff_eq.mp e]; exact List.mem_cons_self ..
    | false => rw [e] at h; exact List.mem_cons_of_mem _ (lookup_mem h)
/-- the facts of the top -/
structure Top (K : PySem.W.Frag) (mg : PySem.Str → Option Value) (G : Gm) : Prop where
  eK : G.K = K
  fd : All (fun e : Nat × (He5.DefA × List PySem.Str) => ∃ fd, FunD K e.2.1.name e.2.1.qual e.2.1.params e.2.1.body e.2.1.scope (e.2.1.dvs K) (e.2.1.kws K) (e.2.1.at_ K) fd) tabL
  fxs : ∀ (i : Nat) (f : Fx), fx[i]? = some f → f.ok K = true
  gs : ∀ (i : Nat) (x : PySem.Str) (t : T), gk[i]? = some (x, t) → ∃ u v, mg x = some u ∧ RelV v u ∧ ∀ w, RF G w t v
  glo : ∀ (i : Nat) (x : PySem.Str), fx[i]? = some (.glo x) → mg x = some (.ref (He.ga K x))
  fre : ∀ (i : Nat) (x : PySem.Str), fx[i]? = some (.free x) → mg x = none
  bf : ∀ (i : Nat) (x : PySem.Str) (id : String), fx[i]? = some (.bfun x id) → mg x = some (.builtin id)
  cn : ∀ (c : Nat) (x : PySem.Str), cn[c]? = some x → G.cls c = He.ga K x
theorem all {P : Program} {w : World} {mg : PySem.Str → Option Value} {base : Heap} {G : Gm} {L : Nat} (t : Top G.K mg G) : ∀ k, GQ tab fx gk cn P w G.K mg base k G (callF Γ L k)
  | 0 => ⟨fun f d ps h => by
      obtain ⟨fd, F⟩ := t.fd.mem _ (lookup_mem h)
      exact ⟨fd, F, fn_zeroB.imp fun _ _ _ _ h => h.2⟩, t.fxs, t.gs, t.glo, t.fre, t.bf, t.cn, t.eK⟩
  | k + 1 => by
    have ih := all (P := P) (w := w) (base := base) (L := L) t k
    refine ⟨fun f d ps h => ?_, t.fxs, t.gs, t.glo, t.fre, t.bf, t.cn, t.eK⟩
    refine (All.mem (P := fun e : Nat × (He5.DefA × List PySem.Str) => ∀ fd, FunD G.K e.2.1.name e.2.1.qual e.2.1.params e.2.1.body e.2.1.scope (e.2.1.dvs G.K) (e.2.1.kws G.K) (e.2.1.at_ G.K) fd → ∃ fd, FunD G.K e.2.1.name e.2.1.qual e.2.1.params e.2.1.body e.2.1.scope (e.2.1.dvs G.K) (e.2.1.kws G.K) (e.2.1.at_ G.K) fd ∧ FnB P w G.K mg base (L2.CX P w) (2 * (k + 1)) (e.2.1.at_ G.K) fd e.2.2 (spQ G (callF Γ L (k + 1)) e.1 e.2.1 e.2.2)) ?_ (f, (d, ps)) (lookup_mem h)) _ (t.fd.mem _ (lookup_mem h)).choose_spec
    exact .cons (fun fd F => ⟨fd, F, (Mi.fn_okB F sc138 rfl (d := d138) rfl rfl rfl rfl (by decide) (b138 ih)).imp fun _ _ _ _ h => h.2⟩) (
      .cons (fun fd F => ⟨fd, F, (Mi.fn_okB F sc2 rfl (d := d2) rfl rfl rfl rfl (by decide) (b2 ih)).imp fun _ _ _ _ h => h.2⟩) (
      .cons (fun fd F => ⟨fd, F, (Mi.fn_okB F sc51 rfl (d := d51) rfl rfl rfl rfl (by decide) (b51 ih)).imp fun _ _ _ _ h => h.2⟩) (
      .cons (fun fd F => ⟨fd, F, (Mi.fn_okB F sc50 rfl (d := d50) rfl rfl rfl rfl (by decide) (b50 ih)).imp fun _ _ _ _ h => h.2⟩) (
      .cons (fun fd F => ⟨fd, F, (Mi.fn_okB F sc15 rfl (d := d15) rfl rfl rfl rfl (by decide) (b15 ih)).imp fun _ _ _ _ h => h.2⟩) (
      .cons (fun fd F => ⟨fd, F, (Mi.fn_okB F sc52 rfl (d := d52) rfl rfl rfl rfl (by decide) (b52 ih)).imp fun _ _ _ _ h => h.2⟩) (
      .cons (fun fd F => ⟨fd, F, (Mi.fn_okB F sc126 rfl (d := d126) rfl rfl rfl rfl (by decide) (b126 ih)).imp fun _ _ _ _ h => h.2⟩) (
      .cons (fun fd F => ⟨fd, F, (Mi.fn_okB F sc13 rfl (d := d13) rfl rfl rfl rfl (by decide) (b13 ih)).imp fun _ _ _ _ h => h.2⟩) (
      .cons (fun fd F => ⟨fd, F, (Mi.fn_okB F sc140 rfl (d := d140) rfl rfl rfl rfl (by decide) (b140 ih)).imp fun _ _ _ _ h => h.2⟩) (
      .cons (fun fd F => ⟨fd, F, (Mi.fn_okB F sc141 rfl (d := d141) rfl rfl rfl rfl (by decide) (b141 ih)).imp fun _ _ _ _ h => h.2⟩) (
      .cons (fun fd F => ⟨fd, F, (Mi.fn_okB F sc142 rfl (d := d142) rfl rfl rfl rfl (by decide) (b142 ih)).imp fun _ _ _ _ h => h.2⟩) (
      .cons (fun fd F => ⟨fd, F, (Mi.fn_okB F sc143 rfl (d := d143) rfl rfl rfl rfl (by decide) (b143 ih)).imp fun _ _ _ _ h => h.2⟩) (
      .cons (fun fd F => ⟨fd, F, (Mi.fn_okB F sc144 rfl (d := d144) rfl rfl rfl rfl (by decide) (b144 ih)).imp fun _ _ _ _ h => h.2⟩) (
      .cons (fun fd F => ⟨fd, F, (Mi.fn_okB F sc145 rfl (d := d145) rfl rfl rfl rfl (by decide) (b145 ih)).imp fun _ _ _ _ h => h.2⟩) (
      .cons (fun fd F => ⟨fd, F, (Mi.fn_okB F sc146 rfl (d := d146) rfl rfl rfl rfl (by decide) (b146 ih)).imp fun _ _ _ _ h => h.2⟩) (
      .cons (fun fd F => ⟨fd, F, (Mi.fn_okB F sc26 rfl (d := d26) rfl rfl rfl rfl (by decide) (b26 ih)).imp fun _ _ _ _ h => h.2⟩) (
      .cons (fun fd F => ⟨fd, F, (Mi.fn_okB F sc17 rfl (d := d17) rfl rfl rfl rfl (by decide) (b17 ih)).imp fun _ _ _ _ h => h.2⟩) (
      .cons (fun fd F => ⟨fd, F, (Mi.fn_okB F sc54 rfl (d := d54) rfl rfl rfl rfl (by decide) (b54 ih)).imp fun _ _ _ _ h => h.2⟩) (
      .cons (fun fd F => ⟨fd, F, (Mi.fn_okB F sc147 rfl (d := d147) rfl rfl rfl rfl (by decide) (b147 ih)).imp fun _ _ _ _ h => h.2⟩) (
      .cons (fun fd F => ⟨fd, F, (Mi.fn_okB F sc148 rfl (d := d148) rfl rfl rfl rfl (by decide) (b148 ih)).imp fun _ _ _ _ h => h.2⟩) (
      .cons (fun fd F => ⟨fd, F, (Mi.fn_okB F sc149 rfl (d := d149) rfl rfl rfl rfl (by decide) (b149 ih)).imp fun _ _ _ _ h => h.2⟩) (
      .cons (fun fd F => ⟨fd, F, (Mi.fn_okB F sc19 rfl (d := d19) rfl rfl rfl rfl (by decide) (b19 ih)).imp fun _ _ _ _ h => h.2⟩) (
      .cons (fun fd F => ⟨fd, F, (Mi.fn_okB F sc150 rfl (d := d150) rfl rfl rfl rfl (by decide) (b150 ih)).imp fun _ _ _ _ h => h.2⟩) (
      .cons (fun fd F => ⟨fd, F, (Mi.fn_okB F sc22 rfl (d := d22) rfl rfl rfl rfl (by decide) (b22 ih)).imp fun _ _ _ _ h => h.2⟩) (
      .cons (fun fd F => ⟨fd, F, (Mi.fn_okB F sc151 rfl (d := d151) rfl rfl rfl rfl (by decide) (b151 ih)).imp fun _ _ _ _ h => h.2⟩) (
      .cons (fun fd F => ⟨fd, F, (Mi.fn_okB F sc152 rfl (d := d152) rfl rfl rfl rfl (by decide) (b152 ih)).imp fun _ _ _ _ h => h.2⟩) (
      .cons (fun fd F => ⟨fd, F, (Mi.fn_okB F sc153 rfl (d := d153) rfl rfl rfl rfl (by decide) (b153 ih)).imp fun _ _ _ _ h => h.2⟩) (
      .cons (fun fd F => ⟨fd, F, (Mi.fn_okB F sc154 rfl (d := d154) rfl rfl rfl rfl (by decide) (b154 ih)).imp fun _ _ _ _ h => h.2⟩) (
      .cons (fun fd F => ⟨fd, F, (Mi.fn_okB F sc155 rfl (d := d155) rfl rfl rfl rfl (by decide) (b155 ih)).imp fun _ _ _ _ h => h.2⟩) (
      .nil)))))))))))))))))))))))))))))
end K07
set_option maxHeartbeats 0
namespace K07
open PySem PySem.Spec PyProof.Rows L2 Mi MiDF
abbrev R : PySem.W.OpenRow := PySem.W.OpenLaw.row PySem.Challenge.rw_loneround_k07_whole_texts_of_forms
abbrev qv : Program := PySem.W.view R.prog [38]
def fn : List He5.DefA := tabL.map (·.2.1)
abbrev hk : PySem.W.Hook := hookT 6 fx fn gk
theorem top_of {K : PySem.W.Frag} {h : Heap} {mg : PySem.Str → Option Value} (X : K.In h) (Gn : h.Ns mainGlobals mg) (c : SaysQ fx fn gk K) : Top K mg ⟨K, clsOf K cn⟩ where
  eK := rfl
  fd := .cons (c.def_ 0 rfl) (.cons (c.def_ 1 rfl) (.cons (c.def_ 2 rfl) (.cons (c.def_ 3 rfl) (.cons (c.def_ 4 rfl) (.cons (c.def_ 5 rfl) (.cons (c.def_ 6 rfl) (.cons (c.def_ 7 rfl) (.cons (c.def_ 8 rfl) (.cons (c.def_ 9 rfl) (.cons (c.def_ 10 rfl) (.cons (c.def_ 11 rfl) (.cons (c.def_ 12 rfl) (.cons (c.def_ 13 rfl) (.cons (c.def_ 14 rfl) (.cons (c.def_ 15 rfl) (.cons (c.def_ 16 rfl) (.cons (c.def_ 17 rfl) (.cons (c.def_ 18 rfl) (.cons (c.def_ 19 rfl) (.cons (c.def_ 20 rfl) (.cons (c.def_ 21 rfl) (.cons (c.def_ 22 rfl) (.cons (c.def_ 23 rfl) (.cons (c.def_ 24 rfl) (.cons (c.def_ 25 rfl) (.cons (c.def_ 26 rfl) (.cons (c.def_ 27 rfl) (.cons (c.def_ 28 rfl) (.nil)))))))))))))))))))))))))))))
  fxs := fun i f h => c.fact f (List.mem_of_getElem? h)
  gs := fun i x t h => globK_ok (G := ⟨K, clsOf K cn⟩) X Gn (c.g _ (List.mem_of_getElem? h))
  glo := fun i x h => He.glo_ok X Gn (c.fact _ (List.mem_of_getElem? h))
  fre := fun i x h => He.free_ok X Gn (c.fact _ (List.mem_of_getElem? h))
  bf := fun i x id h => PySem.W.mg_of X Gn (eqv_ok (c.fact _ (List.mem_of_getElem? h)))
  cn := fun c x h => by show clsOf K cn c = _; unfold clsOf; rw [h]
end K07
set_option maxHeartbeats 1000000
/-! rows of names and whole numbers -/
namespace Mi
open PySem PySem.Spec PyProof.Rows L2
abbrev SD := List (PySem.Str × Int)
/-- as a dict -/
abbrev dS (l : SD) : List (Key × T) := l.map fun q => (.inr q.1, .int q.2)
def lookS (l : SD) (a : PySem.Str) : Option Int := (l.find? fun q => decide (q.1 = a)).map (·.2)
def putA (l : SD) (a : PySem.Str) (b : Int) : SD := if (l.any fun q => decide (q.1 = a)) = true then l.map fun q => if q.1 = a then (q.1, b) else q else l ++ [(a, b)]
theorem inr_dec (a b : PySem.Str) : decide ((Sum.inr a : Key) = Sum.inr b) = decide (a = b) := by
  by_cases e : a = b
  · subst e; simp
  · rw [decide_eq_false e, decide_eq_false fun z => e (Sum.inr.inj z)]
theorem any_dS (l : SD) (a : PySem.Str) : ((dS l).any fun kv => decide (kv.1 = (Sum.inr a : Key))) = l.any fun q => decide (q.1 = a) := by
  rw [List.any_map]
  congr 1
  funext q
  exact inr_dec q.1 a
theorem valT_dS (l : SD) (a : PySem.Str) : valT (dS l) (.inr a) = (lookS l a).map T.int := by
  unfold valT lookS
  induction l with
  | nil => rfl
  | cons q r ih =>
    show Option.map _ (List.find? _ ((Sum.inr q.1, T.int q.2) :: dS r)) = _
    rw [List.find?_cons, List.find?_cons, inr_dec]
    cases decide (q.1 = a) with
    | true => rfl
    | false => exact ih
theorem putT_dS (l : SD) (a : PySem.Str) (b : Int) : putT (dS l) (.inr a) (.int b) = dS (putA l a b) := by
  unfold putT putA
  rw [any_dS]
  split
  · unfold dS
    rw [List.map_map, List.map_map]
    apply List.map_congr_left
    intro q _
    show (if decide ((Sum.inr q.1 : Key) = Sum.inr a) = true then _ else _) = _
    rw [inr_dec]
    by_cases e : q.1 = a
    · rw [if_pos (by simpa using e)]
      show _ = ((Sum.inr (if q.1 = a then (q.1, b) else q).1, T.int (if q.1 = a then (q.1, b) else q).2) : Key × T)
      rw [if_pos e]
    · rw [if_neg (by simpa using e)]
      show _ = ((Sum.inr (if q.1 = a then (q.1, b) else q).1, T.int (if q.1 = a then (q.1, b) else q).2) : Key × T)
      rw [if_neg e]
  · unfold dS; rw [List.map_append]; rfl
abbrev keysS (l : SD) : List PySem.Str := l.map (·.1)
/-- the number at a name -/
def atS (l : SD) (a : PySem.Str) : Int := (lookS l a).getD 0
theorem lookS_none {l : SD} {a : PySem.Str} : lookS l a = none ↔ a ∉ keysS l := by
  unfold lookS
  rw [Option.map_eq_none_iff, List.find?_eq_none]
  constructor
  · intro h hm
    obtain ⟨q, h1, h2⟩ := List.mem_map.mp hm
    exact h q h1 (by simpa using h2)
  · intro h q hq z
    exact h (List.mem_map.mpr ⟨q, hq, by simpa using z⟩)
theorem lookS_some {l : SD} {a : PySem.Str} (h : a ∈ keysS l) : ∃ b, lookS l a = some b := by
  cases e : lookS l a with
  | none => exact absurd h (lookS_none.mp e)
  | some b => exact ⟨b, rfl⟩
theorem lookS_mem {l : SD} (hn : (keysS l).Nodup) {a : PySem.Str} {b : Int} (h : (a, b) ∈ l) : lookS l a = some b := by
  unfold lookS
  induction l with
  | nil => cases h
  | cons q r ih =>
    rw [List.find?_cons]
    have h1 := List.nodup_cons.mp hn
    rcases List.mem_cons.mp h with rfl | h
    · rw [decide_eq_true rfl]; rfl
    · have : q.1 ≠ a := fun e => h1.1 (List.mem_map.mpr ⟨_, h, e.symm⟩)
      rw [decide_eq_false this]
      exact ih h1.2 h
theorem keys_putA (l : SD) (a : PySem.Str) (b : Int) : keysS (putA l a b) = if a ∈ keysS l then keysS l else keysS l ++ [a] := by
  unfold putA
  by_cases e : a ∈ keysS l
  · have : (l.any fun q => decide (q.1 = a)) = true := by
      obtain ⟨q, h1, h2⟩ := List.mem_map.mp e
      exact List.any_eq_true.mpr ⟨q, h1, by simpa using h2⟩
    rw [if_pos this, if_pos e]
    unfold keysS
    rw [List.map_map]
    apply List.map_congr_left
    intro q _
    show (if q.1 = a then (q.1, b) else q).1 = q.1
    split <;> rfl
  · have : ¬ (l.any fun q => decide (q.1 = a)) = true := fun z => by
      obtain ⟨q, h1, h2⟩ := List.any_eq_true.mp z
      exact e (List.mem_map.mpr ⟨q, h1, by simpa using h2⟩)
    rw [if_neg this, if_neg e]
    unfold keysS
    rw [List.map_append]
    rfl
theorem nodup_putA {l : SD} (h : (keysS l).Nodup) (a : PySem.Str) (b : Int) : (keysS (putA l a b)).Nodup := by
  rw [keys_putA]
  split
  · exact h
  · rename_i hn
    rw [List.nodup_append]
    refine ⟨h, by simp, fun x hx y hy => ?_⟩
    simp only [List.mem_singleton] at hy
    subst hy
    exact fun e => hn (e ▸ hx)
theorem lookS_cons (q : PySem.Str × Int) (r : SD) (a : PySem.Str) : lookS (q :: r) a = if q.1 = a then some q.2 else lookS r a := by
  unfold lookS
  rw [List.find?_cons]
  by_cases e : q.1 = a
  · rw [decide_eq_true e, if_pos e]; rfl
  · rw [decide_eq_false e, if_neg e]
theorem lookS_app (l r : SD) (a : PySem.Str) : lookS (l ++ r) a = (lookS l a).or (lookS r a) := by
  induction l with
  | nil => rfl
  | cons q l ih =>
    rw [List.cons_append, lookS_cons, lookS_cons, ih]
    split <;> rfl
theorem look_putA (l : SD) (a : PySem.Str) (b : Int) (x : PySem.Str) : lookS (putA l a b) x = if x = a then some b else lookS l x := by
  unfold putA
  split
  · rename_i h
    induction l with
    | nil => cases h
    | cons q r ih =>
      rw [List.map_cons, lookS_cons, lookS_cons]
      by_cases e : q.1 = a
      · rw [if_pos e]
        by_cases e2 : x = a
        · subst e2
          rw [if_pos rfl, if_pos e]
        · rw [if_neg e2, if_neg (by rw [e]; exact fun z => e2 z.symm), if_neg (fun z : q.1 = x => e2 (z.symm.trans e))]
          cases hr : r.any fun q => decide (q.1 = a) with
          | true =>
            have := ih hr
            rw [if_neg e2] at this
            exact this
          | false =>
            have hh : ∀ l : SD, (l.any fun q => decide (q.1 = a)) = false → (l.map fun q => if q.1 = a then (q.1, b) else q) = l := by
              intro l hl
              induction l with
              | nil => rfl
              | cons p l ih2 =>
                rw [List.any_cons, Bool.or_eq_false_iff] at hl
                rw [List.map_cons, ih2 hl.2, if_neg (by simpa using hl.1)]
            rw [hh r hr]
      · rw [if_neg e]
        have h' : (r.any fun q => decide (q.1 = a)) = true := by
          rw [List.any_cons, decide_eq_false e, Bool.false_or] at h
          exact h
        by_cases e3 : q.1 = x
        · rw [if_pos e3, if_pos e3, if_neg (fun z => e (e3.trans z))]
        · rw [if_neg e3, if_neg e3]
          exact ih h'
  · rename_i h
    rw [lookS_app]
    by_cases e : x = a
    · subst e
      have : lookS l x = none := lookS_none.mpr fun hm => h (by
        obtain ⟨q, h1, h2⟩ := List.mem_map.mp hm
        exact List.any_eq_true.mpr ⟨q, h1, by simpa using h2⟩)
      rw [this, if_pos rfl, lookS_cons, if_pos rfl]
      rfl
    · rw [if_neg e, lookS_cons, if_neg (fun z => e z.symm)]
      cases lookS l x <;> rfl
theorem at_putA (l : SD) (a : PySem.Str) (b : Int) (x : PySem.Str) : atS (putA l a b) x = if x = a then b else atS l x := by
  unfold atS
  rw [look_putA]
  split <;> rfl
/-- ascending by names, without 0 -/
def keptS (l : SD) : SD := ((sortT (keysS l)).filter fun a => decide (atS l a ≠ 0)).map fun a => (a, atS l a)
/-- rows that are kept as they stand -/
structure CanS (l : SD) : Prop where
  asc : (keysS l).Pairwise fun x y => leT x y = true ∧ x ≠ y
  nz : ∀ q ∈ l, q.2 ≠ 0
theorem CanS.nodup {l : SD} (h : CanS l) : (keysS l).Nodup := h.asc.imp fun z => z.2
theorem CanS.at {l : SD} (h : CanS l) {q : PySem.Str × Int} (hq : q ∈ l) : atS l q.1 = q.2 := by
  unfold atS
  rw [lookS_mem h.nodup (a := q.1) (b := q.2) hq]
  rfl
theorem sortT_asc {l : List PySem.Str} (h : l.Nodup) : (sortT l).Pairwise fun x y => leT x y = true ∧ x ≠ y := by
  have h1 := sortT_srt l
  have h2 : (sortT l).Nodup := (sortT_perm l).nodup_iff.mpr h
  exact List.Pairwise.and h1 h2
theorem sortT_same {l : List PySem.Str} (h : l.Pairwise fun x y => leT x y = true) : sortT l = l := srtT_one (sortT_perm l) (sortT_srt l) h
theorem keptS_can {l : SD} (h : (keysS l).Nodup) : CanS (keptS l) := by
  have e : keysS (keptS l) = (sortT (keysS l)).filter fun a => decide (atS l a ≠ 0) := by
    unfold keptS keysS
    rw [List.map_map]
    exact List.map_id _
  refine ⟨?_, fun q hq => ?_⟩
  · rw [e]
    exact (sortT_asc h).filter _
  · obtain ⟨a, h1, rfl⟩ := List.mem_map.mp hq
    simpa using (List.mem_filter.mp h1).2
theorem keptS_same {l : SD} (h : CanS l) : keptS l = l := by
  unfold keptS
  rw [sortT_same (h.asc.imp fun z => z.1)]
  have : (keysS l).filter (fun a => decide (atS l a ≠ 0)) = keysS l := by
    rw [List.filter_eq_self]
    intro a ha
    obtain ⟨q, h1, h2⟩ := List.mem_map.mp ha
    subst h2
    rw [h.at h1]
    simpa using h.nz q h1
  rw [this]
  unfold keysS
  rw [List.map_map]
  conv => rhs; rw [← List.map_id l]
  apply List.map_congr_left
  intro q hq
  show (q.1, atS l q.1) = q
  rw [h.at hq]
theorem atS_none {l : SD} {a : PySem.Str} (h : a ∉ keysS l) : atS l a = 0 := by
  unfold atS
  rw [lookS_none.mpr h]
  rfl
theorem at_keptS {l : SD} (h : (keysS l).Nodup) (x : PySem.Str) : atS (keptS l) x = atS l x := by
  by_cases hx : x ∈ keysS (keptS l)
  · obtain ⟨q, h1, h2⟩ := List.mem_map.mp hx
    subst h2
    rw [(keptS_can h).at h1]
    obtain ⟨a, h3, rfl⟩ := List.mem_map.mp h1
    rfl
  · rw [atS_none hx]
    by_cases hz : atS l x = 0
    · exact hz.symm
    · refine absurd ?_ hx
      have hk : x ∈ keysS l := Decidable.byContradiction fun z => hz (atS_none z)
      exact List.mem_map.mpr ⟨(x, atS l x), List.mem_map.mpr ⟨x, List.mem_filter.mpr ⟨(sortT_perm _).mem_iff.mpr hk, by simpa using hz⟩, rfl⟩, rfl⟩
/-- two such rows with the same numbers are the same -/
theorem can_ext {l k : SD} (hl : CanS l) (hk : CanS k) (h : ∀ x, atS l x = atS k x) : l = k := by
  have mem : ∀ {l k : SD}, CanS l → CanS k → (∀ x, atS l x = atS k x) → ∀ x, x ∈ keysS l → x ∈ keysS k := by
    intro l k hl hk h x hx
    refine Decidable.byContradiction fun z => ?_
    obtain ⟨q, h1, h2⟩ := List.mem_map.mp hx
    subst h2
    have := h q.1
    rw [hl.at h1, atS_none z] at this
    exact hl.nz q h1 this
  have hp : (keysS l).Perm (keysS k) := (List.perm_ext_iff_of_nodup hl.nodup hk.nodup).mpr fun x => ⟨mem hl hk h x, mem hk hl (fun x => (h x).symm) x⟩
  have e : keysS l = keysS k := srtT_one hp (hl.asc.imp fun z => z.1) (hk.asc.imp fun z => z.1)
  have r : ∀ {l : SD}, CanS l → l = (keysS l).map fun a => (a, atS l a) := by
    intro l h
    unfold keysS
    rw [List.map_map]
    conv => lhs; rw [← List.map_id l]
    apply List.map_congr_left
    intro q hq
    show q = (q.1, atS l q.1)
    rw [h.at hq]
  rw [r hl, r hk, e]
  apply List.map_congr_left
  intro a _
  rw [h a]
/-- terms added up -/
def addS (l : SD) (q : PySem.Str × Int) : SD := putA l q.1 (atS l q.1 + q.2)
def sumS (acc : SD) (ts : SD) : SD := ts.foldl addS acc
theorem at_addS (l : SD) (q : PySem.Str × Int) (x : PySem.Str) : atS (addS l q) x = atS l x + if q.1 = x then q.2 else 0 := by
  unfold addS
  rw [at_putA]
  by_cases e : x = q.1
  · subst e; rw [if_pos rfl, if_pos rfl]
  · rw [if_neg e, if_neg (fun z => e z.symm), Int.add_zero]
theorem nodup_sumS : ∀ (ts : SD) {acc : SD}, (keysS acc).Nodup → (keysS (sumS acc ts)).Nodup
  | [], _, h => h
  | q :: r, acc, h => nodup_sumS r (nodup_putA h _ _)
/-- what the terms of a name add up to -/
def totS (ts : SD) (x : PySem.Str) : Int := match ts with
  | [] => 0
  | q :: r => (if q.1 = x then q.2 else 0) + totS r x
theorem at_sumS : ∀ (ts : SD) (acc : SD) (x : PySem.Str), atS (sumS acc ts) x = atS acc x + totS ts x
  | [], acc, x => by rw [totS, Int.add_zero]; rfl
  | q :: r, acc, x => by
    show atS (sumS (addS acc q) r) x = _
    rw [at_sumS r, at_addS, totS, Int.add_assoc]
theorem totS_can {l : SD} (h : CanS l) (x : PySem.Str) : totS l x = atS l x := by
  obtain ⟨h1, h2⟩ := h
  induction l with
  | nil => rfl
  | cons q r ih =>
    have h3 := List.pairwise_cons.mp h1
    rw [totS, ih h3.2 fun p hp => h2 p (List.mem_cons_of_mem _ hp)]
    unfold atS
    rw [lookS_cons]
    by_cases e : q.1 = x
    · subst e
      rw [if_pos rfl, if_pos rfl, lookS_none.mpr fun z => (h3.1 _ z).2 rfl]
      show q.2 + 0 = q.2
      omega
    · rw [if_neg e, if_neg e, Int.zero_add]
/-- the rows of a form from its terms -/
theorem kept_sum {l ts : SD} (h : CanS l) (e : ∀ x, totS ts x = atS l x) : keptS (sumS [] ts) = l := by
  have hn : (keysS (sumS [] ts)).Nodup := nodup_sumS ts (acc := []) (by show ([] : List PySem.Str).Nodup; exact List.Pairwise.nil)
  refine can_ext (keptS_can hn) h fun x => ?_
  rw [at_keptS hn, at_sumS, e x]
  show (0 : Int) + _ = _
  rw [Int.zero_add]
/-! names -/
abbrev keptT : List T := [.str "and", .str "or", .str "not", .str "of", .str "let", .str "none", .str "odd", .str "open", .str "phase", .str "round", .str "self"]
abbrev abcS : PySem.Str := "abcdefghijklmnopqrstuvwxyz"
structure NameOk (s : PySem.Str) : Prop where
  l1 : 1 ≤ s.length
  l6 : s.length ≤ 6
  kept : (keptT.any fun y => eqT y (.str s)) = false
  low : ∀ c ∈ s.cps.toList, c ∈ abcS.cps.toList
section
variable {P : R → Prop}
theorem wo_lenS {s : PySem.Str} (h : s.length ≤ sizeLine) (q : P (.fz (.int s.length))) : wO .len [.str s] P := .of (if_pos h) q
theorem bools_mapF {α : Type} (g : α → Bool) : ∀ l : List α, bools (l.map fun a => T.bl (g a)) = some (l.map g)
  | [] => rfl
  | a :: l => by show (bools (l.map fun a => T.bl (g a))).map _ = _; rw [bools_mapF g l]; rfl
theorem wo_all {α : Type} {g : α → Bool} {l : List α} (q : P (.fz (.bl (l.all g)))) : wO .all [.lst (l.map fun a => T.bl (g a))] P := .of (by
  show (bools (l.map fun a => T.bl (g a))).bind _ = _
  rw [bools_mapF]
  show fB ((l.map g).all id) = fB (l.all g)
  rw [List.all_map]
  rfl) q
theorem wo_idxS {l : SD} {a : PySem.Str} (h : a ∈ keysS l) (q : P (.fz (.int (atS l a)))) : wO .idx [.dic (dS l), .str a] P := .of (by
  show (valT (dS l) (.inr a)).map R.fz = _
  rw [valT_dS]
  obtain ⟨b, hb⟩ := lookS_some h
  unfold atS
  rw [hb]
  rfl) q
theorem wo_listS {l : SD} (q : P (.ow (.lst ((keysS l).map T.str)))) : wO .list [.dic (dS l)] P := .of (by
  show some (R.ow (.lst ((dS l).map fun kv => unkey kv.1))) = _
  unfold dS keysS
  rw [List.map_map, List.map_map]
  rfl) q
theorem puts_dS : ∀ (l acc : SD), (keysS (acc ++ l)).Nodup → putsT (dS acc) (dS l) = dS (acc ++ l)
  | [], acc, _ => by rw [List.append_nil]; rfl
  | q :: r, acc, h => by
    show putsT (putT (dS acc) (.inr q.1) (.int q.2)) (dS r) = _
    have e : putA acc q.1 q.2 = acc ++ [q] := by
      unfold putA
      rw [if_neg]
      intro z
      obtain ⟨p, h1, h2⟩ := List.any_eq_true.mp z
      unfold keysS at h
      rw [List.map_append, List.nodup_append] at h
      exact h.2.2 p.1 (List.mem_map.mpr ⟨p, h1, rfl⟩) q.1 (by simp) (by simpa using h2)
    rw [putT_dS, e, puts_dS r (acc ++ [q]) (by rw [List.append_assoc]; exact h), List.append_assoc]
    rfl
theorem name_ne {s : PySem.Str} (h : NameOk s) : (["self", "constant"] : List PySem.Str).contains s = false := by
  have h1 := h.kept
  have h6 := h.l6
  rw [List.contains_cons, List.contains_cons, List.contains_nil, Bool.or_false, Bool.or_eq_false_iff]
  constructor
  · rw [beq_eq_false_iff_ne]
    rintro rfl
    revert h1
    decide
  · rw [beq_eq_false_iff_ne]
    rintro rfl
    revert h6
    decide
theorem wo_kwd {l : SD} (h : ∀ a ∈ keysS l, NameOk a) (q : P (.ow (.dic (dS l)))) : wO (.kwd ["self", "constant"]) [.dic (dS l)] P := .of (by
  show (if _ then _ else _) = _
  refine if_pos (List.all_eq_true.mpr fun kv hkv => ?_)
  obtain ⟨p, h1, rfl⟩ := List.mem_map.mp hkv
  show (!(["self", "constant"] : List PySem.Str).contains p.1) = true
  rw [name_ne (h p.1 (List.mem_map.mpr ⟨p, h1, rfl⟩))]
  rfl) q
end
theorem kept_names {l : SD} (h : ∀ a ∈ keysS l, NameOk a) : ∀ a ∈ keysS (keptS l), NameOk a := fun a ha => by
  obtain ⟨q, h1, rfl⟩ := List.mem_map.mp ha
  obtain ⟨b, h2, rfl⟩ := List.mem_map.mp h1
  exact h b ((sortT_perm _).mem_iff.mp (List.mem_filter.mp h2).1)
theorem kept_len (l : SD) : (keptS l).length ≤ l.length := by
  unfold keptS
  rw [List.length_map]
  refine Nat.le_trans (List.length_filter_le _ _) ?_
  rw [(sortT_perm _).length_eq]
  unfold keysS
  rw [List.length_map]
  exact Nat.le_refl _
theorem dgt_dS (l : SD) (a : PySem.Str) : (valT (dS l) (.inr a)).getD (.int 0) = .int (atS l a) := by
  rw [valT_dS]
  unfold atS
  cases lookS l a <;> rfl
/-- a pair told -/
abbrev prT (q : PySem.Str × Int) : T := .tup [.str q.1, .int q.2]
abbrev prsT (ts : SD) : List T := ts.map prT
theorem sum_keys : ∀ (ts acc : SD) (a : PySem.Str), a ∈ keysS (sumS acc ts) → a ∈ keysS acc ∨ a ∈ keysS ts
  | [], _, _, h => .inl h
  | q :: r, acc, a, h => by
    rcases sum_keys r (addS acc q) a h with h | h
    · unfold addS at h
      rw [keys_putA] at h
      split at h
      · exact .inl h
      · rcases List.mem_append.mp h with h | h
        · exact .inl h
        · exact .inr (by rw [List.mem_singleton.mp h]; exact List.mem_cons_self)
    · exact .inr (List.mem_cons_of_mem _ h)
theorem putA_len (l : SD) (a : PySem.Str) (b : Int) : (putA l a b).length ≤ l.length + 1 := by
  unfold putA
  split
  · rw [List.length_map]; omega
  · rw [List.length_append]; exact Nat.le_refl _
theorem sum_len : ∀ (ts acc : SD), (sumS acc ts).length ≤ acc.length + ts.length
  | [], acc => Nat.le_refl _
  | q :: r, acc => by
    have h1 := sum_len r (addS acc q)
    have h2 := putA_len acc q.1 (atS acc q.1 + q.2)
    show (sumS (addS acc q) r).length ≤ _
    unfold addS at h1 ⊢
    rw [List.length_cons]
    omega
theorem sum_app (ts us acc : SD) : sumS acc (ts ++ us) = sumS (sumS acc ts) us := List.foldl_append ..
section
variable {cal : Nat → List Slot → CRes} {L : Nat} {m : List Slot} {D : En}
/-- d[name] = value -/
theorem wp_stoS {i : Nat} {k v : E} (h : wE cal v m fun rv m1 => ∃ o, m1[i]? = some (.ow o) ∧ wE cal k m1 fun rk m2 => ∃ t m3 a kvs, esc m2 rv.opd = some (t, m3) ∧ der m3 rk.opd = some (.str a) ∧ m3[i]? = some (.ow (.dic kvs)) ∧ kvs.length < sizeLine ∧ D.nx (m3.set i (.ow (.dic (putT kvs (.inr a) t))))) : wT cal L (.sto i k v) m D := by
  unfold wE at h
  unfold wT
  obtain ⟨rv, m1, h1, o, h2, h⟩ := h
  (try unfold wE at h)
  obtain ⟨rk, m2, h3, t, m3, a, kvs, h4, h5, h6, h7, q⟩ := h
  rw [evS, h1]
  simp only [ofR, h2]
  rw [h3]
  simp only [ofR, h4, h5, h6, keyT, if_pos h7]
  exact q
end
theorem hits_dS (k : SD) : ∀ l : SD, hitsT (dS k) (dS l) = some (l.all fun q => decide (lookS k q.1 = some q.2))
  | [] => rfl
  | q :: r => by
    show (match valT (dS k) (.inr q.1) with
      | none => some false
      | some u => if sameK (.int q.2) u = true then (hitsT (dS k) (dS r)).map fun b => eqT (.int q.2) u && b else none) = _
    rw [valT_dS, hits_dS k r, List.all_cons]
    cases e : lookS k q.1 with
    | none =>
      show some false = _
      rw [decide_eq_false (by intro z; cases z), Bool.false_and]
    | some b =>
      show some ((q.2 == b) && _) = _
      by_cases e2 : b = q.2
      · subst e2
        rw [decide_eq_true rfl, beq_self_eq_true]
      · rw [decide_eq_false (fun z => e2 (Option.some.inj z)), beq_eq_false_iff_ne.mpr fun z => e2 z.symm]
theorem sub_all {α : Type} [DecidableEq α] : ∀ (l k : List α), l.Nodup → (∀ x ∈ l, x ∈ k) → k.length ≤ l.length → ∀ x ∈ k, x ∈ l
  | [], k, _, _, h, x, hx => by
    have : k = [] := List.length_eq_zero_iff.mp (by simpa using h)
    rw [this] at hx
    cases hx
  | a :: r, k, hn, hs, h, x, hx => by
    have h1 := List.nodup_cons.mp hn
    have ha := hs a List.mem_cons_self
    by_cases e : x = a
    · subst e; exact List.mem_cons_self
    · refine List.mem_cons_of_mem _ (sub_all r (k.erase a) h1.2 (fun y hy => ?_) ?_ x ((List.mem_erase_of_ne e).mpr hx))
      · exact (List.mem_erase_of_ne (fun z => h1.1 (by rw [← z]; exact hy))).mpr (hs y (List.mem_cons_of_mem _ hy))
      · rw [List.length_erase_of_mem ha]
        simp only [List.length_cons] at h
        omega
theorem eq_dS (f : Bool → Bool) {l k : SD} (hl : CanS l) (hk : CanS k) : eqF (.dic (dS l)) (.dic (dS k)) f = fB (f (decide (l = k))) := by
  show eqD f (dS l) (dS k) = _
  unfold eqD
  have e1 : (dS l).length = l.length := List.length_map ..
  have e2 : (dS k).length = k.length := List.length_map ..
  rw [e1, e2]
  by_cases hlen : l.length = k.length
  · rw [if_pos hlen, hits_dS]
    simp only
    congr 2
    rw [Bool.eq_iff_iff, decide_eq_true_iff]
    constructor
    · intro h
      have h := List.all_eq_true.mp h
      have sub : ∀ x ∈ keysS l, x ∈ keysS k := fun x hx => by
        obtain ⟨q, h1, rfl⟩ := List.mem_map.mp hx
        refine Decidable.byContradiction fun z => ?_
        have h2 := of_decide_eq_true (h q h1)
        rw [lookS_none.mpr z] at h2
        cases h2
      have hp := sub_all (keysS l) (keysS k) hl.nodup sub (by unfold keysS; rw [List.length_map, List.length_map]; omega)
      refine can_ext hl hk fun x => ?_
      by_cases hx : x ∈ keysS l
      · obtain ⟨q, h1, rfl⟩ := List.mem_map.mp hx
        have h2 := of_decide_eq_true (h q h1)
        rw [hl.at h1]
        unfold atS
        rw [h2]
        rfl
      · rw [atS_none hx, atS_none fun z => hx (hp x z)]
    · rintro rfl
      exact List.all_eq_true.mpr fun q hq => decide_eq_true (lookS_mem hl.nodup hq)
  · rw [if_neg hlen, decide_eq_false (fun z => hlen (by rw [z]))]
theorem wo_eqS {P : R → Prop} {l k : SD} (hl : CanS l) (hk : CanS k) (q : P (.fz (.bl (decide (l = k))))) : wO .eq [.dic (dS l), .dic (dS k)] P := .of (eq_dS id hl hk) q
theorem keys_dS (l : SD) : (dS l).map (fun kv => unkey kv.1) = l.map fun q => T.str q.1 := by
  unfold dS
  rw [List.map_map]
  rfl
end Mi
set_option maxHeartbeats 2000000
namespace FrmP
open PySem PySem.Spec PyProof.Rows L2 Mi MiDF
local macro_rules
  | `(tactic| infer_instance) => `(tactic| first
    | refine dp_nil ?_ | refine dp_cons ?_ | refine wp_var rfl ?_ | refine wp_bo rfl ?_ | refine wp_c ?_ | refine wp_op ?_ | refine wp_lst ?_ | refine wp_tup ?_
    | refine wp_call ?_ | refine wp_prop ?_ | refine wp_meth ?_ | refine wp_mk ?_ | refine wp_bop ?_ | refine wp_uop ?_ | refine wp_fld ?_ | refine wp_spc ?_ | refine wp_ceq ?_ | refine wp_inn ?_ | refine wp_nt ?_ | refine wp_fst ?_ | refine jp_cons ?_ | refine jp_nil ?_ | refine wp_isc ?_ | refine wp_dsc rfl rfl ?_ | refine wp_dic0 ?_ | refine wp_dgt ?_ | refine wp_ccm ?_ | refine wp_anP ?_ | refine wp_orP ?_ | refine wp_ite ?_
    | refine sp_it ?_ | refine sp_rng1 ?_ | refine sp_enum ?_ | refine sp_zip ?_ | refine wp_lr ?_
    | refine bp_nil ?_ | refine bp_cons ?_ | refine wp_set ?_ | refine wp_ret ?_ | refine wp_stf ?_ | refine wp_par ?_ | refine wp_ife ?_ | refine wp_ex ?_
    | refine wk_go rfl ?_ | refine wC.fz (by assumption) ?_ | refine wC.ow (by assumption) ?_ | refine wp_stoS ?_ | refine wo_all ?_ | refine wo_idxS (by assumption) ?_ | refine wo_neI ?_ | refine ap_one ?_ | refine wo_listS ?_ | exact ⟨rfl, rfl⟩ | refine ⟨rfl, ?_⟩ | refine wO.of rfl ?_ | refine ap_nil ?_
    | refine ⟨_, _, _, _, _, rfl, rfl, rfl, ?_⟩ | refine ⟨_, _, _, rfl, rfl, ?_⟩ | refine ⟨_, _, _, rfl, rfl, rfl, ?_⟩ | refine ⟨_, _, rfl, rfl, ?_⟩ | refine ⟨_, _, rfl, ?_⟩ | refine ⟨_, rfl, rfl, ?_⟩ | refine ⟨_, rfl, ?_⟩ | refine ⟨rfl, _, _, rfl, ?_⟩ | refine ⟨⟨_, rfl⟩, ?_⟩ | refine And.intro (fun _ z => nomatch z) ?_ | exact rfl)
/-- a form -/
abbrev frmT (c : Int) (l : SD) : T := .ins 46 [("own_constant", .int c), ("own_factors", .dic (dS l))]
abbrev frmO (c : Int) (l : SD) : O := .ins 46 [("own_constant", .int c), ("own_factors", .dic (dS l))]
section
variable {Γ : Nat → Option Def} {L k : Nat} (hΓ : ∀ f d, pg f = some d → Γ f = some d)
include hΓ
theorem whole_ok {i : Int} : callF Γ L (k + 1) 22 [.fz (.int i)] = .ok (.fz (.bl true)) [.no] := by
  refine wC.eq_fz (wp_run (d := d22) (hΓ _ _ rfl) rfl ?_)
  generalize callF Γ L k = cal at *
  unfold d22
  repeat infer_instance
theorem isname_ok {s : PySem.Str} (h : NameOk s) : callF Γ L (k + 1) 150 [.fz (.str s)] = .ok (.fz (.bl true)) [.no] := by
  refine wC.eq_fz (wp_run (d := d150) (hΓ _ _ rfl) rfl ?_)
  generalize callF Γ L k = cal at *
  unfold d150
  repeat infer_instance
  have l1 := h.l1
  have l6 := h.l6
  have hz : s.length ≤ sizeLine := by rw [sizeLine_eq]; omega
  refine wp_ch ?_
  repeat infer_instance
  refine wo_lenS hz ?_
  repeat infer_instance
  refine wif1 (decide_eq_true (by omega)) ?_
  repeat infer_instance
  refine wif0 (by
    show (!true || (!(decide ((s.length : Int) ≤ 6)) || (keptT.any fun y => eqT y (.str s)))) = false
    rw [h.kept, decide_eq_true (by omega)]
    rfl) ?_
  repeat infer_instance
  refine wp_comp (α := Nat) ?_
  refine sp_it (wp_var rfl ⟨_, _, _, rfl, if_pos hz, ?_⟩)
  refine ⟨s.cps.toList, fun c => .str ⟨#[c]⟩, fun _ => true, fun c => .bl (decide (c ∈ abcS.cps.toList)), rfl, rfl, rfl, fun c hc => ⟨_, rfl, rfl, ap_nil ⟨rfl, rfl⟩, fun _ => ?_⟩, by show s.cps.toList.length ≤ sizeLine; rw [Array.length_toList]; exact hz, ?_⟩
  · unfold e150_0
    repeat infer_instance
  · rw [List.filter_eq_self.mpr fun _ _ => rfl]
    repeat infer_instance
    have e : (s.cps.toList.all fun c => decide (c ∈ abcS.cps.toList)) = true := List.all_eq_true.mpr fun c hc => decide_eq_true (h.low c hc)
    rw [e]
    repeat infer_instance
theorem kept_ok {l : SD} (hn : (keysS l).Nodup) (hl : l.length < 64) : callF Γ L (k + 1) 153 [.fz (.dic (dS l))] = .ok (.ow (.dic (dS (keptS l)))) [.no] := by
  have hl2 : (keysS l).length < 64 := by unfold keysS; rw [List.length_map]; exact hl
  refine wC.eq_ow (wp_run (d := d153) (hΓ _ _ rfl) rfl ?_)
  generalize callF Γ L k = cal at *
  unfold d153
  refine bp_cons (wp_ret (wp_dcm (α := PySem.Str) ?_))
  repeat infer_instance
  refine wo_srtS hl2 ?_
  repeat infer_instance
  refine ⟨sortT (keysS l), T.str, fun a => decide (atS l a ≠ 0), fun a => .inr a, fun a => .int (atS l a), rfl, rfl, rfl, fun a ha => ⟨_, rfl, rfl, ?_, fun _ => ⟨?_, ?_⟩⟩, ?_, ?_⟩
  · have hk : a ∈ keysS l := (sortT_perm _).mem_iff.mp ha
    repeat infer_instance
    refine ⟨?_, rfl⟩
    show R.fz (.bl (!(atS l a == 0))) = R.fz (.bl (decide (atS l a ≠ 0)))
    by_cases e : atS l a = 0
    · rw [e]; rfl
    · rw [decide_eq_true e, beq_eq_false_iff_ne.mpr e]; rfl
  · repeat infer_instance
  · have hk : a ∈ keysS l := (sortT_perm _).mem_iff.mp ha
    repeat infer_instance
  · rw [(sortT_perm _).length_eq, sizeLine_eq]; omega
  · have e : ((sortT (keysS l)).filter fun a => decide (atS l a ≠ 0)).map (fun a => ((Sum.inr a : Key), T.int (atS l a))) = dS (keptS l) := by
      unfold dS keptS
      rw [List.map_map]
      rfl
    rw [e]
    have e2 : putsT [] (dS (keptS l)) = dS (keptS l) := puts_dS (keptS l) [] (keptS_can hn).nodup
    rw [e2]
    repeat infer_instance
theorem init_ok {c : Int} {l : SD} (hn : (keysS l).Nodup) (hl : l.length < 64) (hk : ∀ a ∈ keysS l, NameOk a) :
    callF Γ L (k + 2) 154 [.ow (.ins 46 []), .fz (.int c), .fz (.dic (dS l))] = .ok (.fz .non) [.ow (frmO c (keptS l)), .no, .no] := by
  have c1 : ∀ i : Int, callF Γ L (k + 1) 22 [.fz (.int i)] = .ok (.fz (.bl true)) [.no] := fun i => whole_ok hΓ
  have c2 : ∀ a, NameOk a → callF Γ L (k + 1) 150 [.fz (.str a)] = .ok (.fz (.bl true)) [.no] := fun a h => isname_ok hΓ h
  have c3 := kept_ok hΓ (L := L) (k := k) hn hl
  refine wC.eq_fz (wp_run (d := d154) (hΓ _ _ rfl) rfl ?_)
  generalize callF Γ L (k + 1) = cal at *
  unfold d154
  have c4 := c1 c
  repeat infer_instance
  refine wif0 rfl ?_
  repeat infer_instance
  have mk : ∀ a ∈ keysS l, a ∈ keysS l := fun _ h => h
  refine wp_fr ?_
  repeat infer_instance
  refine ⟨fun xs m => ∃ s, m = [.ow (.ins 46 []), .fz (.int c), .fz (.dic (dS l)), s] ∧ ∃ as : List PySem.Str, xs = as.map T.str ∧ ∀ a ∈ as, a ∈ keysS l, ⟨_, rfl, _, rfl, mk⟩, ?_, ?_⟩
  · rintro x xs m2 ⟨s, rfl, as, e, h⟩
    cases as with
    | nil => cases e
    | cons a as =>
      cases e
      have ha := h a List.mem_cons_self
      have c5 := c2 a (hk a ha)
      refine ⟨_, rfl, ?_⟩
      unfold l154_0
      repeat infer_instance
      refine wif0 rfl ?_
      repeat infer_instance
      exact fun b hb => h b (List.mem_cons_of_mem _ hb)
  rintro m2 ⟨s, rfl, _⟩
  repeat infer_instance
  refine wp_fr ?_
  repeat infer_instance
  refine ⟨fun xs m => ∃ s, m = [.ow (.ins 46 []), .fz (.int c), .fz (.dic (dS l)), s] ∧ ∃ as : List PySem.Str, xs = as.map T.str ∧ ∀ a ∈ as, a ∈ keysS l, ⟨_, rfl, _, rfl, mk⟩, ?_, ?_⟩
  · rintro x xs m2 ⟨s, rfl, as, e, h⟩
    cases as with
    | nil => cases e
    | cons a as =>
      cases e
      have ha := h a List.mem_cons_self
      have c5 := c1 (atS l a)
      refine ⟨_, rfl, ?_⟩
      unfold l154_1
      repeat infer_instance
      refine wif0 rfl ?_
      repeat infer_instance
      exact fun b hb => h b (List.mem_cons_of_mem _ hb)
  rintro m2 ⟨s, rfl, _⟩
  repeat infer_instance
theorem formof_ok {c : Int} {l : SD} (hn : (keysS l).Nodup) (hl : l.length < 64) (hk : ∀ a ∈ keysS l, NameOk a) :
    callF Γ L (k + 3) 151 [.fz (.int c), .fz (.dic (dS l))] = .ok (.ow (frmO c (keptS l))) [.no, .no] := by
  have c1 := kept_ok hΓ (L := L) (k := k + 1) hn hl
  have hc := keptS_can hn
  have c2 := init_ok hΓ (L := L) (k := k) (c := c) hc.nodup (Nat.lt_of_le_of_lt (kept_len l) hl) (kept_names hk)
  rw [keptS_same hc] at c2
  refine wC.eq_ow (wp_run (d := d151) (hΓ _ _ rfl) rfl ?_)
  generalize callF Γ L (k + 2) = cal at *
  unfold d151
  repeat infer_instance
  refine wo_kwd (kept_names hk) ?_
  repeat infer_instance
theorem islist_ok {xs : List T} : callF Γ L (k + 1) 19 [.fz (.lst xs)] = .ok (.fz (.bl true)) [.no] := by
  refine wC.eq_fz (wp_run (d := d19) (hΓ _ _ rfl) rfl ?_)
  generalize callF Γ L k = cal at *
  unfold d19
  repeat infer_instance
theorem of_ok {c : Int} {ts : SD} (hl : ts.length < 64) (hk : ∀ a ∈ keysS ts, NameOk a) :
    callF Γ L (k + 4) 147 [.fz (.lst (prsT ts)), .fz (.int c)] = .ok (.ow (frmO c (keptS (sumS [] ts)))) [.no, .no] := by
  have c1 : ∀ i : Int, callF Γ L (k + 3) 22 [.fz (.int i)] = .ok (.fz (.bl true)) [.no] := fun i => whole_ok hΓ
  have c2 : ∀ a, NameOk a → callF Γ L (k + 3) 150 [.fz (.str a)] = .ok (.fz (.bl true)) [.no] := fun a h => isname_ok hΓ h
  have c3 : callF Γ L (k + 3) 19 [.fz (.lst (prsT ts))] = .ok (.fz (.bl true)) [.no] := islist_ok hΓ
  have hs : (keysS ([] : SD)).Nodup := by show ([] : List PySem.Str).Nodup; exact List.Pairwise.nil
  have hsl := sum_len ts []
  have c4 := formof_ok hΓ (L := L) (k := k) (c := c) (l := sumS [] ts) (nodup_sumS ts hs) (by simp only [List.length_nil] at hsl; omega) (fun a ha => hk a ((sum_keys ts [] a ha).resolve_left fun z => by cases z))
  refine wC.eq_ow (wp_run (d := d147) (hΓ _ _ rfl) rfl ?_)
  generalize callF Γ L (k + 3) = cal at *
  unfold d147
  have c5 := c1 c
  repeat infer_instance
  refine wif0 rfl ?_
  repeat infer_instance
  refine wp_fr ?_
  repeat infer_instance
  refine ⟨fun xs m => ∃ (n : Nat) (dn as : SD) (x y : Mi.Slot), xs = enumT n (prsT as) ∧ m = [.fz (.lst (prsT ts)), .fz (.int c), .ow (.dic (dS (sumS [] dn))), x, y] ∧ dn ++ as = ts, ⟨0, [], ts, _, _, rfl, rfl, rfl⟩, ?_, ?_⟩
  · rintro x xs m2 ⟨n, dn, as, x3, x4, e, rfl, hd⟩
    cases as with
    | nil => cases e
    | cons q as =>
      cases e
      have hq : q.1 ∈ keysS ts := by rw [← hd]; exact List.mem_map.mpr ⟨q, by simp, rfl⟩
      have c6 := c2 q.1 (hk q.1 hq)
      have c7 := c1 q.2
      refine ⟨_, rfl, ?_⟩
      unfold l147_0
      repeat infer_instance
      refine wif0 rfl ?_
      repeat infer_instance
      refine ⟨_, _, _, _, rfl, rfl, rfl, rfl, rfl, ?_⟩
      rw [dgt_dS]
      repeat infer_instance
      have hlen : (dS (sumS [] dn)).length < sizeLine := by
        have h1 := sum_len dn []
        have h2 : ts.length = dn.length + (as.length + 1) := by rw [← hd, List.length_append]; rfl
        unfold dS
        rw [List.length_map, sizeLine_eq]
        simp only [List.length_nil] at h1
        omega
      refine ⟨_, _, _, _, rfl, rfl, rfl, hlen, ?_⟩
      repeat infer_instance
      refine ⟨n + 1, dn ++ [q], as, .fz (.int n), .fz (prT q), rfl, ?_, by rw [List.append_assoc]; exact hd⟩
      rw [putT_dS, sum_app]
      rfl
  rintro m2 ⟨n, dn, as, x3, x4, e, rfl, hd⟩
  have has : as = [] := by
    cases as with
    | nil => rfl
    | cons q as => cases e
  subst has
  rw [List.append_nil] at hd
  subst hd
  repeat infer_instance
  refine wif0 rfl ?_
  repeat infer_instance
end
end FrmP
set_option maxHeartbeats 2000000
namespace FrmP
open PySem PySem.Spec PyProof.Rows L2 Mi MiDF
local macro_rules
  | `(tactic| infer_instance) => `(tactic| first
    | refine dp_nil ?_ | refine dp_cons ?_ | refine wp_var rfl ?_ | refine wp_bo rfl ?_ | refine wp_c ?_ | refine wp_op ?_ | refine wp_lst ?_ | refine wp_tup ?_
    | refine wp_call ?_ | refine wp_prop ?_ | refine wp_meth ?_ | refine wp_mk ?_ | refine wp_bop ?_ | refine wp_uop ?_ | refine wp_fld ?_ | refine wp_spc ?_ | refine wp_ceq ?_ | refine wp_inn ?_ | refine wp_nt ?_ | refine wp_fst ?_ | refine jp_cons ?_ | refine jp_nil ?_ | refine wp_isc ?_ | refine wp_dsc rfl rfl ?_ | refine wp_dic0 ?_ | refine wp_dgt ?_ | refine wp_ccm ?_ | refine wp_anP ?_ | refine wp_orP ?_ | refine wp_ite ?_
    | refine sp_it ?_ | refine sp_rng1 ?_ | refine sp_enum ?_ | refine sp_zip ?_ | refine wp_lr ?_
    | refine bp_nil ?_ | refine bp_cons ?_ | refine wp_set ?_ | refine wp_ret ?_ | refine wp_stf ?_ | refine wp_par ?_ | refine wp_ife ?_ | refine wp_ex ?_
    | refine wk_go rfl ?_ | refine wC.fz (by assumption) ?_ | refine wC.ow (by assumption) ?_ | refine wp_stoS ?_ | refine wo_all ?_ | refine wo_idxS (by assumption) ?_ | refine wo_listS ?_ | refine wo_eqS (by assumption) (by assumption) ?_ | exact ⟨rfl, rfl⟩ | refine ⟨rfl, ?_⟩ | refine wO.of rfl ?_ | refine ap_nil ?_ | refine ap_one ?_
    | refine ⟨_, _, _, _, _, rfl, rfl, rfl, ?_⟩ | refine ⟨_, _, _, rfl, rfl, ?_⟩ | refine ⟨_, _, _, rfl, rfl, rfl, ?_⟩ | refine ⟨_, _, rfl, rfl, ?_⟩ | refine ⟨_, _, rfl, ?_⟩ | refine ⟨_, rfl, rfl, ?_⟩ | refine ⟨_, rfl, ?_⟩ | refine ⟨rfl, _, _, rfl, ?_⟩ | refine ⟨⟨_, rfl⟩, ?_⟩ | refine And.intro (fun _ z => nomatch z) ?_ | exact rfl)
/-- a spec: the constant, the rows -/
abbrev spT (c : Int) (l : SD) : T := .tup [.int c, .dic (dS l)]
section
variable {Γ : Nat → Option Def} {L k : Nat} (hΓ : ∀ f d, pg f = some d → Γ f = some d)
include hΓ
theorem const_ok {c : Int} {l : SD} : callF Γ L (k + 1) 144 [.fz (frmT c l)] = .ok (.fz (.int c)) [.no] := by
  refine wC.eq_fz (wp_run (d := d144) (hΓ _ _ rfl) rfl ?_)
  generalize callF Γ L k = cal at *
  unfold d144
  repeat infer_instance
theorem names_ok {c : Int} {l : SD} : callF Γ L (k + 1) 145 [.fz (frmT c l)] = .ok (.ow (.lst ((keysS l).map .str))) [.no] := by
  refine wC.eq_ow (wp_run (d := d145) (hΓ _ _ rfl) rfl ?_)
  generalize callF Γ L k = cal at *
  unfold d145
  repeat infer_instance
theorem bool_ok {c : Int} {l : SD} : callF Γ L (k + 1) 146 [.fz (frmT c l)] = .ok (.fz (.bl (!decide (c = 0) || decide (0 < l.length)))) [.no] := by
  refine wC.eq_fz (wp_run (d := d146) (hΓ _ _ rfl) rfl ?_)
  generalize callF Γ L k = cal at *
  unfold d146
  repeat infer_instance
  refine ⟨?_, rfl⟩
  show R.fz (.bl (!(c == 0) || decide ((0 : Int) < ((dS l).length : Int)))) = _
  have e1 : (dS l).length = l.length := List.length_map ..
  rw [e1]
  by_cases e : c = 0
  · subst e
    rw [decide_eq_true rfl]
    show R.fz (.bl (decide ((0 : Int) < (l.length : Int)))) = R.fz (.bl (decide (0 < l.length)))
    congr 2
    rw [decide_eq_decide]
    omega
  · rw [beq_eq_false_iff_ne.mpr e, decide_eq_false e]
    rfl
theorem eq_ok {c c' : Int} {l l' : SD} (h : CanS l) (h' : CanS l') : callF Γ L (k + 1) 142 [.fz (frmT c l), .fz (frmT c' l')] = .ok (.fz (.bl (decide (c = c') && decide (l = l')))) [.no, .no] := by
  refine wC.eq_fz (wp_run (d := d142) (hΓ _ _ rfl) rfl ?_)
  generalize callF Γ L k = cal at *
  unfold d142
  repeat infer_instance
  refine wif0 rfl ?_
  repeat infer_instance
theorem lform_ok {c : Int} {l : SD} (h : CanS l) (hl : l.length < 64) (hk : ∀ a ∈ keysS l, NameOk a) : callF Γ L (k + 5) 52 [.fz (spT c l)] = .ok (.ow (frmO c l)) [.no] := by
  have c1 := of_ok hΓ (L := L) (k := k) (c := c) hl hk
  rw [kept_sum h (totS_can h)] at c1
  refine wC.eq_ow (wp_run (d := d52) (hΓ _ _ rfl) rfl ?_)
  generalize callF Γ L (k + 4) = cal at *
  unfold d52
  refine bp_cons (wp_ret (wp_call ?_))
  refine dp_cons (wp_comp (α := PySem.Str × Int) ?_)
  repeat infer_instance
  refine ⟨l, fun q => .str q.1, fun _ => true, fun q => .tup [.str q.1, .int (atS l q.1)], keys_dS l, rfl, rfl, fun q hq => ⟨_, rfl, rfl, ap_nil ⟨rfl, rfl⟩, fun _ => ?_⟩, by rw [sizeLine_eq]; omega, ?_⟩
  · have hm : q.1 ∈ keysS l := List.mem_map.mpr ⟨q, hq, rfl⟩
    unfold e52_0
    repeat infer_instance
  · have e : (l.filter fun _ => true).map (fun q : PySem.Str × Int => T.tup [.str q.1, .int (atS l q.1)]) = prsT l := by
      rw [List.filter_eq_self.mpr fun _ _ => rfl]
      exact List.map_congr_left fun q hq => by rw [h.at hq]
    rw [e]
    repeat infer_instance
end
end FrmP
set_option maxHeartbeats 2000000
namespace FrmP
open PySem PySem.Spec PyProof.Rows L2 Mi MiDF
local macro_rules
  | `(tactic| infer_instance) => `(tactic| first
    | refine dp_nil ?_ | refine dp_cons ?_ | refine wp_var rfl ?_ | refine wp_bo rfl ?_ | refine wp_c ?_ | refine wp_op ?_ | refine wp_lst ?_ | refine wp_tup ?_
    | refine wp_call ?_ | refine wp_prop ?_ | refine wp_meth ?_ | refine wp_mk ?_ | refine wp_bop ?_ | refine wp_uop ?_ | refine wp_fld ?_ | refine wp_spc ?_ | refine wp_ceq ?_ | refine wp_inn ?_ | refine wp_nt ?_ | refine wp_fst ?_ | refine jp_nil ?_ | refine wp_isc ?_ | refine wp_dsc rfl rfl ?_ | refine wp_dic0 ?_ | refine wp_dgt ?_ | refine wp_ccm ?_ | refine wp_anP ?_ | refine wp_orP ?_ | refine wp_ite ?_
    | refine sp_it ?_ | refine sp_rng1 ?_ | refine sp_enum ?_ | refine sp_zip ?_ | refine wp_lr ?_
    | refine bp_nil ?_ | refine bp_cons ?_ | refine wp_set ?_ | refine wp_ret ?_ | refine wp_stf ?_ | refine wp_par ?_ | refine wp_ife ?_ | refine wp_ex ?_
    | refine wk_go rfl ?_ | refine wC.fz (by assumption) ?_ | refine wC.ow (by assumption) ?_ | refine wp_stoS ?_ | refine wo_all ?_ | refine wo_idxS (by assumption) ?_ | refine wo_listS ?_ | refine wo_eqS (by assumption) (by assumption) ?_ | exact ⟨rfl, rfl⟩ | refine ⟨rfl, ?_⟩ | refine wO.of rfl ?_ | refine ap_nil ?_ | refine ap_one ?_
    | refine ⟨_, _, _, _, _, rfl, rfl, rfl, ?_⟩ | refine ⟨_, _, _, rfl, rfl, ?_⟩ | refine ⟨_, _, _, rfl, rfl, rfl, ?_⟩ | refine ⟨_, _, rfl, rfl, ?_⟩ | refine ⟨_, _, rfl, ?_⟩ | refine ⟨_, rfl, rfl, ?_⟩ | refine ⟨_, rfl, ?_⟩ | refine ⟨rfl, _, _, rfl, ?_⟩ | refine ⟨⟨_, rfl⟩, ?_⟩ | refine And.intro (fun _ z => nomatch z) ?_ | exact rfl)
theorem bp_via {cal : Nat → List Mi.Slot → CRes} {L : Nat} {s : S} {r : Ss} {m X : List Mi.Slot} {D : En} (h1 : wT cal L s m (D.seq fun m1 => m1 = X)) (h2 : wB cal L r X D) : wB cal L (.cons s r) m D := by
  refine bp_cons ?_
  unfold wT at *
  exact Fl.sat_mono h1 (fun m e => by subst e; exact h2) (fun _ _ q => q) (fun _ q => q) (fun _ q => q)
theorem jp_int {cal : Nat → List Mi.Slot → CRes} {m : List Mi.Slot} {e : E} {r : Es} {acc : PySem.Str} {Q : PySem.Str → List Mi.Slot → Prop} (h : wE cal e m fun x m1 => ∃ i : Int, x = .fz (.int i) ∧ ((acc ++ istr i).length ≤ sizeLine ∧ Small i) ∧ wJ cal r (acc ++ istr i) m1 Q) : wJ cal (.cons e r) acc m Q := by
  unfold wE at h
  unfold wJ at *
  obtain ⟨x, m1, h1, i, rfl, h2, z, m2, h3, q⟩ := h
  refine ⟨z, m2, ?_, q⟩
  rw [evJs, h1]
  exact (if_pos h2).trans h3
abbrev spc : PySem.Str := " "
/-- a term's text, its number not below 0 -/
def ttS (n : Int) (a : PySem.Str) : PySem.Str := if a = "" then istr n else if n = 1 then a else ((PySem.Str.empty ++ istr n) ++ spc) ++ a
def absI (n : Int) : Int := if n < 0 then -n else n
section
variable {Γ : Nat → Option Def} {L k : Nat} (hΓ : ∀ f d, pg f = some d → Γ f = some d)
include hΓ
theorem term_ok {n : Int} {a : PySem.Str} (hn : Small n) (hl : (istr n).length ≤ 1000) (ha : a.length ≤ 1000) : callF Γ L (k + 1) 148 [.fz (.int n), .fz (.str a)] = .ok (.fz (.str (ttS n a))) [.no, .no] := by
  refine wC.eq_fz (wp_run (d := d148) (hΓ _ _ rfl) rfl ?_)
  generalize callF Γ L k = cal at *
  unfold d148
  repeat infer_instance
  by_cases e : a = ""
  · refine wif1 (by rw [e]; rfl) ?_
    repeat infer_instance
    refine wO.of (str_int hn) ?_
    have h1 : ttS n a = istr n := if_pos e
    rw [h1]
    repeat infer_instance
  · refine wif0 (beq_eq_false_iff_ne.mpr e) ?_
    repeat infer_instance
    by_cases e1 : n = 1
    · refine wif1 (by rw [e1]; rfl) ?_
      have h1 : ttS n a = a := by unfold ttS; rw [if_neg e, if_pos e1]
      rw [h1]
      repeat infer_instance
    · refine wif0 (beq_eq_false_iff_ne.mpr e1) ?_
      have h1 : ttS n a = ((PySem.Str.empty ++ istr n) ++ spc) ++ a := by unfold ttS; rw [if_neg e, if_neg e1]
      rw [h1]
      have z0 : (PySem.Str.empty ++ istr n).length = (istr n).length := by rw [PySem.Str.length_append]; exact Nat.zero_add _
      have z1 : ((PySem.Str.empty ++ istr n) ++ spc).length = (istr n).length + 1 := by rw [PySem.Str.length_append, z0]; rfl
      have z2 : (((PySem.Str.empty ++ istr n) ++ spc) ++ a).length = (istr n).length + 1 + a.length := by rw [PySem.Str.length_append, z1]
      repeat infer_instance
      refine jp_int (wp_var rfl ⟨_, rfl, ⟨by rw [z0, sizeLine_eq]; omega, hn⟩, ?_⟩)
      refine jp_cons (wp_c ⟨_, rfl, by rw [z1, sizeLine_eq]; omega, ?_⟩)
      refine jp_cons (wp_var rfl ⟨_, rfl, by rw [z2, sizeLine_eq]; omega, ?_⟩)
      repeat infer_instance
end
/-- a term told -/
abbrev tmT (t : Int × PySem.Str) : T := .tup [.int t.1, .str t.2]
theorem tms_py : ∀ ts : List (Int × PySem.Str), (∀ t ∈ ts, PyData.canLay0 (.str t.2) = true) → ∃ ds, pyTs (ts.map tmT) = some ds ∧ PyData.canLayAll0 ds = true ∧ PyData.depthAll ds ≤ 2 ∧ (ds = [] ↔ ts = [])
  | [], _ => ⟨[], rfl, rfl, by decide, by simp⟩
  | t :: r, h => by
    obtain ⟨ds, f1, f2, f3, _⟩ := tms_py r fun x hx => h x (List.mem_cons_of_mem _ hx)
    refine ⟨.tuple [.int t.1, .str t.2] :: ds, ?_, ?_, ?_, by simp⟩
    · rw [List.map_cons, pyTs, f1]
      rfl
    · rw [PyData.canLayAll0, f2, PyData.canLay0, PyData.canLayAll0, PyData.canLayAll0, PyData.canLayAll0, h t List.mem_cons_self]
      rfl
    · rw [PyData.depthAll]
      have : PyData.depth (.tuple [.int t.1, .str t.2]) ≤ 2 := by
        rw [PyData.depth, PyData.depthAll, PyData.depthAll, PyData.depthAll]
        simp [PyData.depth]
      omega
theorem eq_tms (k : Bool → Bool) {ts : List (Int × PySem.Str)} (h : ∀ t ∈ ts, PyData.canLay0 (.str t.2) = true) : eqF (.lst (ts.map tmT)) (.lst []) k = fB (k (decide (ts = []))) := by
  obtain ⟨ds, f1, f2, f3, f4⟩ := tms_py ts h
  show (match (pyTs (ts.map tmT)).map PyData.list, pyT (.lst []) with
    | some d, some e => if SeqAt.shaped d = true ∧ SeqAt.shaped e = true then fB (k (PyData.eqv d e)) else none
    | _, _ => _) = _
  have s : SeqAt.shaped (.list ds) = true := by
    show (PyData.canLay0 (.list ds) && decide (PyData.depth (.list ds) ≤ 64)) = true
    rw [PyData.canLay0, f2, Bool.true_and, decide_eq_true_eq, PyData.depth]
    omega
  have s0 : SeqAt.shaped (.list []) = true := by decide
  have e0 : pyT (.lst []) = some (.list []) := rfl
  rw [f1, e0]
  simp only [Option.map_some]
  rw [if_pos ⟨s, s0⟩]
  congr 2
  cases ds with
  | nil =>
    rw [decide_eq_true (f4.mp rfl)]
    rfl
  | cons d r =>
    rw [decide_eq_false fun z => by cases f4.mpr z]
    rfl
theorem wo_eqT {P : R → Prop} {ts : List (Int × PySem.Str)} (h : ∀ t ∈ ts, PyData.canLay0 (.str t.2) = true) (q : P (.fz (.bl (decide (ts = []))))) : wO .eq [.lst (ts.map tmT), .lst []] P := .of (eq_tms id h) q
theorem wo_idx0 {P : R → Prop} {x : T} {xs : List T} (q : P (.fz x)) : wO .idx [.lst (x :: xs), .int 0] P := .of (by
  show (atI (x :: xs) 0).map R.fz = _
  rw [atI_nat (x := x) (n := 0) (by omega) rfl]
  rfl) q
theorem cut_tail {x : T} {xs : List T} : cutT (x :: xs) (some 1) none = xs := by
  show ((x :: xs).drop (min 1 (x :: xs).length)).take ((x :: xs).length - min 1 (x :: xs).length) = xs
  rw [show min 1 (x :: xs).length = 1 from by simp only [List.length_cons]; omega]
  show xs.take (xs.length + 1 - 1) = xs
  rw [Nat.add_sub_cancel, List.take_length]
/-- the terms of a form -/
def termsS (c : Int) (l : SD) : List (Int × PySem.Str) := l.map (fun q => (q.2, q.1)) ++ (if (!decide (c = 0) || decide (l = [])) = true then [(c, ("" : PySem.Str))] else [])
def sgnS (n : Int) : PySem.Str := if n < 0 then "-" else "+"
/-- a later term's piece -/
def ptS (t : Int × PySem.Str) : PySem.Str := (((PySem.Str.empty ++ spc) ++ sgnS t.1) ++ spc) ++ ttS (absI t.1) t.2
def ftS (ts : List (Int × PySem.Str)) : PySem.Str := match ts with
  | [] => ""
  | t :: r => Txt.join "" ([(if t.1 < 0 then ("- " : PySem.Str) else ""), ttS (absI t.1) t.2] ++ r.map ptS)
theorem tt_len (n : Int) (a : PySem.Str) : (ttS n a).length ≤ (istr n).length + 1 + a.length := by
  unfold ttS
  split
  · omega
  · split
    · omega
    · rw [PySem.Str.length_append, PySem.Str.length_append, PySem.Str.length_append]
      show 0 + (istr n).length + 1 + a.length ≤ _
      omega
theorem sgn_len (n : Int) : (((PySem.Str.empty ++ spc) ++ sgnS n) ++ spc).length = 3 := by
  unfold sgnS
  split <;> decide
theorem sgn_len2 (n : Int) : ((PySem.Str.empty ++ spc) ++ sgnS n).length = 2 := by
  unfold sgnS
  split <;> decide
theorem sum_le {B : Nat} : ∀ ys : List PySem.Str, (∀ y ∈ ys, y.length ≤ B) → (ys.map (·.length)).sum ≤ ys.length * B
  | [], _ => Nat.zero_le _
  | a :: r, h => by
    have h1 := sum_le r fun y hy => h y (List.mem_cons_of_mem _ hy)
    have h2 := h a List.mem_cons_self
    rw [List.map_cons, List.sum_cons, List.length_cons, Nat.succ_mul]
    omega
theorem join0_ok {ys : List PySem.Str} (h1 : ys.length ≤ 100) (h2 : ∀ y ∈ ys, y.length ≤ 5000) : joinF (.str "") (.lst (tS ys)) = some (.fz (.str (Txt.join "" ys))) := by
  show (strsT (tS ys)).bind (fun ys => if (ys.map (·.length)).sum + ys.length * PySem.Str.length "" ≤ 16777216 then fS (Txt.join "" ys) else none) = _
  rw [strs_tS]
  refine if_pos ?_
  have h3 := sum_le ys h2
  have h4 : ys.length * 5000 ≤ 100 * 5000 := Nat.mul_le_mul_right _ h1
  have h5 : ys.length * PySem.Str.length "" = 0 := Nat.mul_zero _
  omega
theorem escs_ts {m : List Mi.Slot} : ∀ ts : List T, escs m (ts.map Opd.t) = some (ts, m)
  | [] => rfl
  | t :: r => by
    show (match (some (t, m) : Option (T × List Mi.Slot)) with
      | some (t, m1) => (match escs m1 (r.map Opd.t) with
        | some (ts, m2) => some (t :: ts, m2)
        | none => none)
      | none => none) = _
    simp only
    rw [escs_ts r]
/-- what the terms of a form may be -/
structure TmsOk (ts : List (Int × PySem.Str)) : Prop where
  len : ts.length < 64
  sm : ∀ t ∈ ts, Small (absI t.1) ∧ (istr (absI t.1)).length ≤ 1000 ∧ t.2.length ≤ 1000 ∧ PyData.canLay0 (.str t.2) = true
section
variable {Γ : Nat → Option Def} {L k : Nat} (hΓ : ∀ f d, pg f = some d → Γ f = some d)
include hΓ
theorem text_ok {c : Int} {l : SD} (h : CanS l) (ht : TmsOk (termsS c l)) : callF Γ L (k + 2) 140 [.fz (frmT c l)] = .ok (.fz (.str (ftS (termsS c l)))) [.no] := by
  have c1 : ∀ t ∈ termsS c l, callF Γ L (k + 1) 148 [.fz (.int (absI t.1)), .fz (.str t.2)] = .ok (.fz (.str (ttS (absI t.1) t.2))) [.no, .no] := fun t hm => term_ok hΓ (ht.sm t hm).1 (ht.sm t hm).2.1 (ht.sm t hm).2.2.1
  have hl : l.length < 64 := by
    have := ht.len
    unfold termsS at this
    rw [List.length_append, List.length_map] at this
    omega
  have hL : ∀ t ∈ l.map (fun q : PySem.Str × Int => (q.2, q.1)), PyData.canLay0 (.str t.2) = true := fun t hm => (ht.sm t (by unfold termsS; exact List.mem_append_left _ hm)).2.2.2
  refine wC.eq_fz (wp_run (d := d140) (hΓ _ _ rfl) rfl ?_)
  generalize callF Γ L (k + 1) = cal at *
  unfold d140
  refine bp_via (X := [.fz (frmT c l), .ow (.lst ((l.map fun q : PySem.Str × Int => (q.2, q.1)).map tmT)), .no, .no, .no, .no]) (wp_set (wp_comp (α := PySem.Str × Int) ?_)) ?_
  repeat infer_instance
  refine ⟨l, fun q => .str q.1, fun _ => true, fun q => .tup [.int (atS l q.1), .str q.1], keys_dS l, rfl, rfl, fun q hq => ⟨_, rfl, rfl, ap_nil ⟨rfl, rfl⟩, fun _ => ?_⟩, by rw [sizeLine_eq]; omega, ?_⟩
  · have hm : q.1 ∈ keysS l := List.mem_map.mpr ⟨q, hq, rfl⟩
    unfold e140_0
    repeat infer_instance
  · have e : (l.filter fun _ => true).map (fun q : PySem.Str × Int => T.tup [.int (atS l q.1), .str q.1]) = (l.map fun q : PySem.Str × Int => (q.2, q.1)).map tmT := by
      rw [List.filter_eq_self.mpr fun _ _ => rfl, List.map_map]
      exact List.map_congr_left fun q hq => by rw [h.at hq]; rfl
    rw [e]
    repeat infer_instance
  refine bp_via (X := [.fz (frmT c l), .ow (.lst ((termsS c l).map tmT)), .no, .no, .no, .no]) ?_ ?_
  · repeat infer_instance
    refine wo_eqT hL ?_
    repeat infer_instance
    have ec : (!eqT (.int c) (.int 0) || decide (l.map (fun q : PySem.Str × Int => (q.2, q.1)) = [])) = (!decide (c = 0) || decide (l = [])) := by
      congr 1
      rw [decide_eq_decide]
      exact List.map_eq_nil_iff
    rw [ec]
    by_cases hb : (!decide (c = 0) || decide (l = [])) = true
    · refine wif1 hb ?_
      refine bp_cons (wp_app ⟨_, rfl, ?_⟩)
      repeat infer_instance
      refine ⟨by rw [List.length_map, List.length_map, sizeLine_eq]; omega, ?_⟩
      repeat infer_instance
      have e2 : termsS c l = l.map (fun q : PySem.Str × Int => (q.2, q.1)) ++ [(c, ("" : PySem.Str))] := by unfold termsS; rw [if_pos hb]
      rw [e2, List.map_append]
      rfl
    · refine wif0 (Bool.eq_false_iff.mpr hb) ?_
      repeat infer_instance
      have e2 : termsS c l = l.map (fun q => (q.2, q.1)) := by unfold termsS; rw [if_neg hb, List.append_nil]
      rw [e2]
  obtain ⟨t, r, et⟩ : ∃ t r, termsS c l = t :: r := by
    cases e : termsS c l with
    | cons t r => exact ⟨t, r, rfl⟩
    | nil =>
      unfold termsS at e
      obtain ⟨e1, e2⟩ := List.append_eq_nil_iff.mp e
      have hl0 : l = [] := List.map_eq_nil_iff.mp e1
      subst hl0
      rw [if_pos (by simp)] at e2
      cases e2
  rw [et] at c1 ht ⊢
  have c2 := c1 t List.mem_cons_self
  refine bp_via (X := [.fz (frmT c l), .ow (.lst ((t :: r).map tmT)), .no, .fz (.str (if t.1 < 0 then ("- " : PySem.Str) else "")), .no, .no]) ?_ ?_
  · repeat infer_instance
    refine wo_idx0 ?_
    repeat infer_instance
    by_cases hn : t.1 < 0
    · refine wif1 (decide_eq_true hn) ?_
      rw [if_pos hn]
      repeat infer_instance
    · refine wif0 (decide_eq_false hn) ?_
      rw [if_neg hn]
      repeat infer_instance
  refine bp_via (X := [.fz (frmT c l), .ow (.lst ((t :: r).map tmT)), .no, .fz (.str (if t.1 < 0 then ("- " : PySem.Str) else "")), .ow (.lst (r.map fun t => .str (ptS t))), .no]) ?_ ?_
  · refine wp_set (wp_comp (α := Int × PySem.Str) ?_)
    repeat infer_instance
    refine ⟨r, tmT, fun _ => true, fun t => .str (ptS t), cut_tail, rfl, rfl, fun u hu => ⟨_, rfl, rfl, ap_nil ⟨rfl, rfl⟩, fun _ => ?_⟩, ?_, ?_⟩
    · have c3 := c1 u (List.mem_cons_of_mem _ hu)
      unfold e140_1
      have hs := ht.sm u (List.mem_cons_of_mem _ hu)
      have tl := tt_len (absI u.1) u.2
      have fin : ((((PySem.Str.empty ++ spc) ++ sgnS u.1) ++ spc) ++ ttS (absI u.1) u.2).length ≤ sizeLine := by
        rw [PySem.Str.length_append, sgn_len, sizeLine_eq]
        have h1 := hs.2.1
        have h2 := hs.2.2.1
        omega
      refine wp_fst (jp_cons (wp_c ⟨_, rfl, by decide, jp_cons (wp_ite ?_)⟩))
      repeat infer_instance
      have rest : ∀ (D : PySem.Str → List Mi.Slot → Prop) (m : List Mi.Slot), m[5]? = some (.fz (.int u.1)) → m[2]? = some (.fz (.str u.2)) → D (ptS u) m → wJ cal (.cons (.c (.str " ")) (.cons (.call 148 [false, false] (.cons (.op .abs (.cons (.var 5) .nil)) (.cons (.var 2) .nil))) .nil)) ((PySem.Str.empty ++ spc) ++ sgnS u.1) m D := by
        intro D m m5 m2 q
        refine jp_cons (wp_c ⟨_, rfl, ?_, jp_cons (wp_call (dp_cons (wp_op (dp_cons (wp_var m5 (dp_nil ⟨_, rfl, wO.of rfl ?_⟩))))))⟩)
        · show ((((PySem.Str.empty ++ spc) ++ sgnS u.1) ++ spc)).length ≤ sizeLine
          rw [sgn_len, sizeLine_eq]; decide
        refine dp_cons (wp_var m2 (dp_nil (wk_go rfl (wC.fz c3 ⟨_, rfl, _, rfl, fin, jp_nil q⟩))))
      by_cases hn : u.1 < 0
      · refine wif1 (decide_eq_true hn) (wp_c ⟨_, rfl, by decide, ?_⟩)
        have e1 : sgnS u.1 = "-" := if_pos hn
        rw [e1] at rest
        exact rest _ _ rfl rfl ⟨rfl, rfl⟩
      · refine wif0 (decide_eq_false hn) (wp_c ⟨_, rfl, by decide, ?_⟩)
        have e1 : sgnS u.1 = "+" := if_neg hn
        rw [e1] at rest
        exact rest _ _ rfl rfl ⟨rfl, rfl⟩
    · have := ht.len
      simp only [List.length_cons] at this
      rw [sizeLine_eq]; omega
    · rw [List.filter_eq_self.mpr fun _ _ => rfl]
      repeat infer_instance
  have hlen := ht.len
  simp only [List.length_cons] at hlen
  have hs := ht.sm t List.mem_cons_self
  refine bp_cons (wp_ret (wp_jn (wp_c ⟨_, rfl, wp_lsx (xp_one (wp_var rfl (xp_one (wp_call ?_))))⟩)))
  repeat infer_instance
  refine wo_idx0 ?_
  repeat infer_instance
  refine wo_idx0 ?_
  repeat infer_instance
  refine xp_star (wp_bo rfl ⟨_, rfl, xp_nil ?_⟩)
  refine ⟨_, _, by
    rw [List.append_nil]
    exact escs_ts (.str (if t.1 < 0 then ("- " : PySem.Str) else "") :: .str (ttS (absI t.1) t.2) :: r.map fun t => T.str (ptS t)), ?_, _, .fz (.str (ftS (t :: r))), rfl, ?_, ?_⟩
  · simp only [List.length_cons, List.length_map]
    rw [sizeLine_eq]; omega
  · have e3 : (T.str (if t.1 < 0 then ("- " : PySem.Str) else "") :: T.str (ttS (absI t.1) t.2) :: r.map fun t => T.str (ptS t)) = tS ((if t.1 < 0 then ("- " : PySem.Str) else "") :: ttS (absI t.1) t.2 :: r.map ptS) := by
      unfold tS
      rw [List.map_cons, List.map_cons, List.map_map]
      rfl
    show joinF (.str "") (.lst _) = _
    rw [e3]
    refine join0_ok ?_ ?_
    · simp only [List.length_cons, List.length_map]
      omega
    · intro y hy
      rcases List.mem_cons.mp hy with rfl | hy
      · split <;> decide
      rcases List.mem_cons.mp hy with rfl | hy
      · have := tt_len (absI t.1) t.2
        have h1 := hs.2.1
        have h2 := hs.2.2.1
        omega
      · obtain ⟨u, hu, rfl⟩ := List.mem_map.mp hy
        have hs2 := ht.sm u (List.mem_cons_of_mem _ hu)
        have := tt_len (absI u.1) u.2
        have h1 := hs2.2.1
        have h2 := hs2.2.2.1
        unfold ptS
        rw [PySem.Str.length_append, sgn_len]
        omega
  · repeat infer_instance
end
end FrmP
set_option maxHeartbeats 2000000
namespace FrmP
open PySem PySem.Spec PyProof.Rows L2 Mi MiDF
local macro_rules
  | `(tactic| infer_instance) => `(tactic| first
    | refine dp_nil ?_ | refine dp_cons ?_ | refine wp_var rfl ?_ | refine wp_bo rfl ?_ | refine wp_c ?_ | refine wp_op ?_ | refine wp_lst ?_ | refine wp_tup ?_
    | refine wp_call ?_ | refine wp_prop ?_ | refine wp_meth ?_ | refine wp_mk ?_ | refine wp_bop ?_ | refine wp_uop ?_ | refine wp_fld ?_ | refine wp_spc ?_ | refine wp_ceq ?_ | refine wp_inn ?_ | refine wp_nt ?_ | refine wp_fst ?_ | refine jp_nil ?_ | refine wp_isc ?_ | refine wp_dsc rfl rfl ?_ | refine wp_dic0 ?_ | refine wp_dgt ?_ | refine wp_ccm ?_ | refine wp_anP ?_ | refine wp_orP ?_ | refine wp_ite ?_
    | refine sp_it ?_ | refine sp_rng1 ?_ | refine sp_enum ?_ | refine sp_zip ?_ | refine wp_lr ?_
    | refine bp_nil ?_ | refine bp_cons ?_ | refine wp_set ?_ | refine wp_ret ?_ | refine wp_stf ?_ | refine wp_par ?_ | refine wp_ife ?_ | refine wp_ex ?_
    | refine wk_go rfl ?_ | refine wC.fz (by assumption) ?_ | refine wC.ow (by assumption) ?_ | refine wp_stoS ?_ | refine wo_all ?_ | refine wo_idxS (by assumption) ?_ | refine wo_listS ?_ | refine wo_eqS (by assumption) (by assumption) ?_ | refine wo_neW (by assumption) ?_ | exact ⟨rfl, rfl⟩ | refine ⟨rfl, ?_⟩ | refine wO.of rfl ?_ | refine ap_nil ?_ | refine ap_one ?_
    | refine ⟨_, _, _, _, _, rfl, rfl, rfl, ?_⟩ | refine ⟨_, _, _, rfl, rfl, ?_⟩ | refine ⟨_, _, _, rfl, rfl, rfl, ?_⟩ | refine ⟨_, _, rfl, rfl, ?_⟩ | refine ⟨_, _, rfl, ?_⟩ | refine ⟨_, rfl, rfl, ?_⟩ | refine ⟨_, rfl, ?_⟩ | refine ⟨rfl, _, _, rfl, ?_⟩ | refine ⟨⟨_, rfl⟩, ?_⟩ | refine And.intro (fun _ z => nomatch z) ?_ | exact rfl)
/-! the words of a text -/
def sgW (ws : List PySem.Str) (t : Int × PySem.Str) : List PySem.Str := ws ++ (if (decide (t.1 < 0) || !decide (ws = [])) = true then [sgnS t.1] else [])
def nuW (t : Int × PySem.Str) : List PySem.Str := if (decide (t.2 = "") || !decide (absI t.1 = 1)) = true then [istr (absI t.1)] else []
def naW (t : Int × PySem.Str) : List PySem.Str := if (!decide (t.2 = "")) = true then [t.2] else []
def stW (ws : List PySem.Str) (t : Int × PySem.Str) : List PySem.Str := (sgW ws t ++ nuW t) ++ naW t
def wsW (ts : List (Int × PySem.Str)) : List PySem.Str := ts.foldl stW []
def WOk (ws : List PySem.Str) : Prop := ∀ w ∈ ws, PyData.canLay0 (.str w) = true
theorem strs_py : ∀ ws : List PySem.Str, WOk ws → ∃ ds, pyTs (tS ws) = some ds ∧ PyData.canLayAll0 ds = true ∧ PyData.depthAll ds ≤ 1 ∧ (ds = [] ↔ ws = [])
  | [], _ => ⟨[], rfl, rfl, by decide, by simp⟩
  | t :: r, h => by
    obtain ⟨ds, f1, f2, f3, _⟩ := strs_py r fun x hx => h x (List.mem_cons_of_mem _ hx)
    refine ⟨.str t :: ds, ?_, ?_, ?_, by simp⟩
    · show pyTs (T.str t :: tS r) = _
      rw [pyTs, f1]
      rfl
    · rw [PyData.canLayAll0, f2, h t List.mem_cons_self]
      rfl
    · rw [PyData.depthAll]
      have : PyData.depth (.str t) ≤ 1 := by simp [PyData.depth]
      omega
theorem eq_ws (k : Bool → Bool) {ws : List PySem.Str} (h : WOk ws) : eqF (.lst (tS ws)) (.lst []) k = fB (k (decide (ws = []))) := by
  obtain ⟨ds, f1, f2, f3, f4⟩ := strs_py ws h
  show (match (pyTs (tS ws)).map PyData.list, pyT (.lst []) with
    | some d, some e => if SeqAt.shaped d = true ∧ SeqAt.shaped e = true then fB (k (PyData.eqv d e)) else none
    | _, _ => _) = _
  have s : SeqAt.shaped (.list ds) = true := by
    show (PyData.canLay0 (.list ds) && decide (PyData.depth (.list ds) ≤ 64)) = true
    rw [PyData.canLay0, f2, Bool.true_and, decide_eq_true_eq, PyData.depth]
    omega
  have s0 : SeqAt.shaped (.list []) = true := by decide
  have e0 : pyT (.lst []) = some (.list []) := rfl
  rw [f1, e0]
  simp only [Option.map_some]
  rw [if_pos ⟨s, s0⟩]
  congr 2
  cases ds with
  | nil => rw [decide_eq_true (f4.mp rfl)]; rfl
  | cons d r => rw [decide_eq_false fun z => by cases f4.mpr z]; rfl
theorem wo_neW {P : R → Prop} {ws : List PySem.Str} (h : WOk ws) (q : P (.fz (.bl (!decide (ws = []))))) : wO .ne [.lst (tS ws), .lst []] P := .of (eq_ws not h) q
theorem tS_app (ws : List PySem.Str) (w : PySem.Str) : tS ws ++ [T.str w] = tS (ws ++ [w]) := by unfold tS; rw [List.map_append]; rfl
theorem str_dec (a b : PySem.Str) : (a == b) = decide (a = b) := by
  by_cases e : a = b
  · rw [decide_eq_true e, e, beq_self_eq_true]
  · rw [decide_eq_false e, beq_eq_false_iff_ne.mpr e]
theorem ws_ok (hi : ∀ i : Int, PyData.canLay0 (.str (istr i)) = true) : ∀ (ts : List (Int × PySem.Str)) (ws : List PySem.Str), (∀ t ∈ ts, PyData.canLay0 (.str t.2) = true) → WOk ws → WOk (ts.foldl stW ws)
  | [], _, _, h => h
  | t :: r, ws, ht, h => by
    refine ws_ok hi r _ (fun u hu => ht u (List.mem_cons_of_mem _ hu)) fun w hw => ?_
    have hs : PyData.canLay0 (.str (sgnS t.1)) = true := by unfold sgnS; split <;> decide +kernel
    unfold stW at hw
    rcases List.mem_append.mp hw with hw | hw
    · rcases List.mem_append.mp hw with hw | hw
      · unfold sgW at hw
        rcases List.mem_append.mp hw with hw | hw
        · exact h w hw
        · split at hw
          · rw [List.mem_singleton.mp hw]; exact hs
          · cases hw
      · unfold nuW at hw
        split at hw
        · rw [List.mem_singleton.mp hw]; exact hi _
        · cases hw
    · unfold naW at hw
      split at hw
      · rw [List.mem_singleton.mp hw]; exact ht t List.mem_cons_self
      · cases hw
theorem ws_len : ∀ (ts : List (Int × PySem.Str)) (ws : List PySem.Str), (ts.foldl stW ws).length ≤ ws.length + 3 * ts.length
  | [], ws => Nat.le_refl _
  | t :: r, ws => by
    have h1 := ws_len r (stW ws t)
    have h2 : (stW ws t).length ≤ ws.length + 3 := by
      unfold stW sgW nuW naW
      rw [List.length_append, List.length_append, List.length_append]
      have e : ∀ (b : Bool) (x : PySem.Str), (if b = true then [x] else []).length ≤ 1 := fun b x => by cases b <;> first | exact Nat.le_refl _ | exact Nat.zero_le _
      have e1 := e (decide (t.1 < 0) || !decide (ws = [])) (sgnS t.1)
      have e2 := e (decide (t.2 = "") || !decide (absI t.1 = 1)) (istr (absI t.1))
      have e3 := e (!decide (t.2 = "")) t.2
      omega
    show (r.foldl stW (stW ws t)).length ≤ _
    rw [List.length_cons]
    omega
section
variable {Γ : Nat → Option Def} {L k : Nat}
/-- one term written -/
theorem lft_step {cal : Nat → List Mi.Slot → CRes} {D : En} {sp ts x2 x4 : Mi.Slot} {ws : List PySem.Str} {t : Int × PySem.Str} (hw : WOk ws) (hn : Small (absI t.1)) (hl : ws.length < 1000)
    (q : D.nx [sp, ts, .fz (.str t.2), .ow (.lst (tS (stW ws t))), .fz (.int t.1)]) : wB cal L l126_0 [sp, ts, .fz (.str t.2), .ow (.lst (tS ws)), .fz (.int t.1)] D := by
  unfold l126_0
  refine bp_via (X := [sp, ts, .fz (.str t.2), .ow (.lst (tS (sgW ws t))), .fz (.int t.1)]) ?_ ?_
  · repeat infer_instance
    refine wo_neW hw ?_
    repeat infer_instance
    unfold sgW
    show ((decide (t.1 < 0) || !decide (ws = [])) = true → _) ∧ ((decide (t.1 < 0) || !decide (ws = [])) = false → _)
    cases hb : (decide (t.1 < 0) || !decide (ws = [])) with
    | false =>
      refine wif0 rfl ?_
      rw [if_neg (by decide), List.append_nil]
      repeat infer_instance
    | true =>
      refine wif1 rfl ?_
      rw [if_pos rfl, ← tS_app]
      refine bp_cons (wp_app ⟨_, rfl, ?_⟩)
      repeat infer_instance
      by_cases hn0 : t.1 < 0
      · refine wif1 (decide_eq_true hn0) ?_
        have e1 : sgnS t.1 = "-" := if_pos hn0
        rw [e1]
        repeat infer_instance
        refine ⟨by unfold tS; rw [List.length_map, sizeLine_eq]; omega, ?_⟩
        repeat infer_instance
      · refine wif0 (decide_eq_false hn0) ?_
        have e1 : sgnS t.1 = "+" := if_neg hn0
        rw [e1]
        repeat infer_instance
        refine ⟨by unfold tS; rw [List.length_map, sizeLine_eq]; omega, ?_⟩
        repeat infer_instance
  have l1 : (sgW ws t).length ≤ ws.length + 1 := by
    unfold sgW
    rw [List.length_append]
    split
    · exact Nat.le_refl _
    · exact Nat.le_succ _
  refine bp_via (X := [sp, ts, .fz (.str t.2), .ow (.lst (tS (sgW ws t ++ nuW t))), .fz (.int t.1)]) ?_ ?_
  · repeat infer_instance
    unfold nuW
    have eb : (id (eqT (.str t.2) (.str "")) || !eqT (.int (if t.1 < 0 then -t.1 else t.1)) (.int 1)) = (decide (t.2 = "") || !decide (absI t.1 = 1)) := by
      show ((t.2 == "") || !(absI t.1 == 1)) = _
      rw [str_dec]
      by_cases e1 : absI t.1 = 1
      · rw [e1, decide_eq_true rfl]; rfl
      · rw [decide_eq_false e1, beq_eq_false_iff_ne.mpr e1]
    rw [eb]
    cases hb : (decide (t.2 = "") || !decide (absI t.1 = 1)) with
    | false =>
      refine wif0 rfl ?_
      rw [if_neg (by decide), List.append_nil]
      repeat infer_instance
    | true =>
      refine wif1 rfl ?_
      rw [if_pos rfl, ← tS_app]
      refine bp_cons (wp_app ⟨_, rfl, ?_⟩)
      refine wp_op (dp_cons (wp_op (dp_cons (wp_var rfl (dp_nil ⟨_, rfl, wO.of rfl (dp_nil ⟨_, rfl, wO.of (str_int hn) ?_⟩)⟩)))))
      refine ⟨_, _, _, rfl, rfl, ?_, ?_⟩
      · unfold tS; rw [List.length_map, sizeLine_eq]; omega
      · repeat infer_instance
  have l2 : (sgW ws t ++ nuW t).length ≤ ws.length + 2 := by
    rw [List.length_append]
    unfold nuW
    split
    · exact Nat.succ_le_succ l1
    · exact Nat.le_succ_of_le l1
  repeat infer_instance
  have eb : (!eqT (.str t.2) (.str "")) = !decide (t.2 = "") := by
    show (!(t.2 == "")) = _
    rw [str_dec]
  rw [eb]
  have es : stW ws t = (sgW ws t ++ nuW t) ++ naW t := rfl
  rw [es] at q
  unfold naW at q
  cases hb : (!decide (t.2 = "")) with
  | false =>
    rw [hb, if_neg (by decide), List.append_nil] at q
    refine wif0 rfl ?_
    repeat infer_instance
    exact q
  | true =>
    rw [hb, if_pos rfl, ← tS_app] at q
    refine wif1 rfl ?_
    refine bp_cons (wp_app ⟨_, rfl, wp_var rfl ⟨_, _, _, rfl, rfl, ?_, ?_⟩⟩)
    · unfold tS; rw [List.length_map, sizeLine_eq]; omega
    · repeat infer_instance
      exact q
variable (hΓ : ∀ f d, pg f = some d → Γ f = some d)
include hΓ
theorem ltext_ok {c : Int} {l : SD} (h : CanS l) (ht : TmsOk (termsS c l)) (hi : ∀ i : Int, PyData.canLay0 (.str (istr i)) = true) (hj : JoinOk (wsW (termsS c l))) : callF Γ L (k + 1) 126 [.fz (spT c l)] = .ok (.fz (.str (Txt.join " " (wsW (termsS c l))))) [.no] := by
  have hl : l.length < 64 := by
    have := ht.len
    unfold termsS at this
    rw [List.length_append, List.length_map] at this
    omega
  have hl2 : (keysS l).length < 64 := by unfold keysS; rw [List.length_map]; exact hl
  have hL : ∀ t ∈ l.map (fun q : PySem.Str × Int => (q.2, q.1)), PyData.canLay0 (.str t.2) = true := fun t hm => (ht.sm t (by unfold termsS; exact List.mem_append_left _ hm)).2.2.2
  refine wC.eq_fz (wp_run (d := d126) (hΓ _ _ rfl) rfl ?_)
  generalize callF Γ L k = cal at *
  unfold d126
  refine bp_via (X := [.fz (spT c l), .ow (.lst ((l.map fun q : PySem.Str × Int => (q.2, q.1)).map tmT)), .no, .no, .no]) (wp_set (wp_comp (α := PySem.Str × Int) ?_)) ?_
  · repeat infer_instance
    refine wo_srtS hl2 ?_
    rw [sortT_same (h.asc.imp fun z => z.1)]
    repeat infer_instance
    refine ⟨l, fun q => .str q.1, fun _ => true, fun q => .tup [.int (atS l q.1), .str q.1], by unfold keysS; rw [List.map_map]; rfl, rfl, rfl, fun q hq => ⟨_, rfl, rfl, ap_nil ⟨rfl, rfl⟩, fun _ => ?_⟩, by rw [sizeLine_eq]; omega, ?_⟩
    · have hm : q.1 ∈ keysS l := List.mem_map.mpr ⟨q, hq, rfl⟩
      unfold e126_0
      repeat infer_instance
    · have e : (l.filter fun _ => true).map (fun q : PySem.Str × Int => T.tup [.int (atS l q.1), .str q.1]) = (l.map fun q : PySem.Str × Int => (q.2, q.1)).map tmT := by
        rw [List.filter_eq_self.mpr fun _ _ => rfl, List.map_map]
        exact List.map_congr_left fun q hq => by rw [h.at hq]; rfl
      rw [e]
      repeat infer_instance
  refine bp_via (X := [.fz (spT c l), .ow (.lst ((termsS c l).map tmT)), .no, .no, .no]) ?_ ?_
  · repeat infer_instance
    refine wo_eqT hL ?_
    repeat infer_instance
    have ec : (!eqT (.int c) (.int 0) || decide (l.map (fun q : PySem.Str × Int => (q.2, q.1)) = [])) = (!decide (c = 0) || decide (l = [])) := by
      congr 1
      rw [decide_eq_decide]
      exact List.map_eq_nil_iff
    rw [ec]
    by_cases hb : (!decide (c = 0) || decide (l = [])) = true
    · refine wif1 hb ?_
      refine bp_cons (wp_app ⟨_, rfl, ?_⟩)
      repeat infer_instance
      refine ⟨by rw [List.length_map, List.length_map, sizeLine_eq]; omega, ?_⟩
      repeat infer_instance
      have e2 : termsS c l = l.map (fun q : PySem.Str × Int => (q.2, q.1)) ++ [(c, ("" : PySem.Str))] := by unfold termsS; rw [if_pos hb]
      rw [e2, List.map_append]
      rfl
    · refine wif0 (Bool.eq_false_iff.mpr hb) ?_
      repeat infer_instance
      have e2 : termsS c l = l.map (fun q => (q.2, q.1)) := by unfold termsS; rw [if_neg hb, List.append_nil]
      rw [e2]
  generalize termsS c l = ts at ht hj ⊢
  refine bp_via (X := [.fz (spT c l), .ow (.lst (ts.map tmT)), .no, .ow (.lst (tS [])), .no]) (by repeat infer_instance) ?_
  refine bp_cons (wp_fr ?_)
  refine sp_it (wp_bo rfl ⟨_, _, _, rfl, rfl, ?_⟩)
  refine ⟨fun xs m => ∃ (dn rs : List (Int × PySem.Str)) (x2 x4 : Mi.Slot), xs = rs.map tmT ∧ dn ++ rs = ts ∧ m = [.fz (spT c l), .fz (.lst (ts.map tmT)), x2, .ow (.lst (tS (wsW dn))), x4], ⟨[], ts, _, _, rfl, rfl, rfl⟩, ?_, ?_⟩
  · rintro x xs m2 ⟨dn, rs, x2, x4, e, hd, rfl⟩
    cases rs with
    | nil => cases e
    | cons t rs =>
      cases e
      have hm : t ∈ ts := by rw [← hd]; simp
      refine ⟨_, rfl, lft_step (x2 := x2) (x4 := x4) ?_ (ht.sm t hm).1 ?_ ?_⟩
      · exact ws_ok hi dn [] (fun u hu => (ht.sm u (by rw [← hd]; exact List.mem_append_left _ hu)).2.2.2) (fun w hw => by cases hw)
      · have h1 := ws_len dn []
        have h2 : dn.length ≤ ts.length := by rw [← hd, List.length_append]; omega
        have h3 := ht.len
        show (dn.foldl stW []).length < 1000
        simp only [List.length_nil] at h1
        omega
      · refine ⟨dn ++ [t], rs, .fz (.str t.2), .fz (.int t.1), rfl, by rw [List.append_assoc]; exact hd, ?_⟩
        unfold wsW
        rw [List.foldl_append]
        rfl
  rintro m2 ⟨dn, rs, x2, x4, e, hd, rfl⟩
  have hrs : rs = [] := by
    cases rs with
    | nil => rfl
    | cons t rs => cases e
  subst hrs
  rw [List.append_nil] at hd
  subst hd
  refine bp_cons (wp_ret (wp_jn (wp_c ⟨_, rfl, wp_bo rfl ⟨_, _, rfl, join_sp hj, ?_⟩⟩)))
  repeat infer_instance
end
end FrmP
set_option maxHeartbeats 2000000
/-! the words' text is the form's text -/
namespace FrmP
open PySem PySem.Spec PyProof.Rows L2 Mi MiDF
theorem s_assoc (a b c : PySem.Str) : (a ++ b) ++ c = a ++ (b ++ c) := by
  obtain ⟨x⟩ := a
  obtain ⟨y⟩ := b
  obtain ⟨z⟩ := c
  show PySem.Str.mk ((x ++ y) ++ z) = PySem.Str.mk (x ++ (y ++ z))
  rw [Array.append_assoc]
theorem s_nil (a : PySem.Str) : PySem.Str.empty ++ a = a := by
  obtain ⟨x⟩ := a
  show PySem.Str.mk (#[] ++ x) = _
  rw [Array.empty_append]
theorem s_nil2 (a : PySem.Str) : ("" : PySem.Str) ++ a = a := s_nil a
theorem s_nilr (a : PySem.Str) : a ++ ("" : PySem.Str) = a := by
  obtain ⟨x⟩ := a
  show PySem.Str.mk (x ++ #[]) = _
  rw [Array.append_empty]
abbrev J (ws : List PySem.Str) : PySem.Str := PySem.Str.join spc ws
theorem j_cons {a b : PySem.Str} {r : List PySem.Str} : J (a :: b :: r) = (a ++ spc) ++ J (b :: r) := rfl
theorem j_app : ∀ {ws us : List PySem.Str}, ws ≠ [] → us ≠ [] → J (ws ++ us) = (J ws ++ spc) ++ J us
  | [], _, h, _ => absurd rfl h
  | [a], [], _, h => absurd rfl h
  | [a], u :: us, _, _ => rfl
  | a :: b :: r, us, _, h => by
    have ih := j_app (ws := b :: r) (us := us) (by simp) h
    show J (a :: b :: (r ++ us)) = _
    rw [j_cons, j_cons]
    show (a ++ spc) ++ J ((b :: r) ++ us) = _
    rw [ih]
    simp only [s_assoc]
abbrev boW (t : Int × PySem.Str) : List PySem.Str := nuW t ++ naW t
theorem bo_ne (t : Int × PySem.Str) : boW t ≠ [] := by
  unfold boW nuW naW
  by_cases e : t.2 = ""
  · rw [decide_eq_true e]; simp
  · rw [decide_eq_false e]; simp
theorem j_bo (t : Int × PySem.Str) : J (boW t) = ttS (absI t.1) t.2 := by
  unfold boW nuW naW ttS
  by_cases e : t.2 = ""
  · rw [decide_eq_true e, if_pos e]
    rfl
  · rw [decide_eq_false e, if_neg e]
    by_cases e1 : absI t.1 = 1
    · rw [decide_eq_true e1, if_pos e1]
      rfl
    · rw [decide_eq_false e1, if_neg e1]
      show J [istr (absI t.1), t.2] = _
      rw [s_nil]
      rfl
theorem st_ne {ws : List PySem.Str} (h : ws ≠ []) (t : Int × PySem.Str) : stW ws t = ws ++ (sgnS t.1 :: boW t) := by
  unfold stW sgW
  rw [decide_eq_false h]
  rw [if_pos (by simp)]
  rw [List.append_assoc, List.append_assoc]
  rfl
theorem j_cons1 (a : PySem.Str) {us : List PySem.Str} (h : us ≠ []) : J (a :: us) = (a ++ spc) ++ J us := by
  cases us with
  | nil => exact absurd rfl h
  | cons b r => rfl
def cat : List PySem.Str → PySem.Str
  | [] => ""
  | a :: r => a ++ cat r
theorem j_fold : ∀ (r : List (Int × PySem.Str)) (ws : List PySem.Str), ws ≠ [] → J (r.foldl stW ws) = J ws ++ cat (r.map ptS)
  | [], ws, _ => by rw [List.map_nil, cat, s_nilr]; rfl
  | u :: r, ws, h => by
    have h2 : stW ws u ≠ [] := by rw [st_ne h]; simp
    show J (r.foldl stW (stW ws u)) = _
    rw [j_fold r _ h2, st_ne h, j_app h (by simp), j_cons1 _ (bo_ne u), j_bo, List.map_cons, cat]
    unfold ptS
    rw [s_nil]
    simp only [s_assoc]
theorem join0_cat : ∀ ws : List PySem.Str, PySem.Str.join "" ws = cat ws
  | [] => rfl
  | [a] => by rw [cat, cat, s_nilr]; rfl
  | a :: b :: r => by
    show (a ++ "") ++ PySem.Str.join "" (b :: r) = _
    rw [join0_cat (b :: r), s_nilr]
    rfl
theorem text_eq (t : Int × PySem.Str) (r : List (Int × PySem.Str)) : Txt.join " " (wsW (t :: r)) = ftS (t :: r) := by
  rw [join_eq]
  show J (r.foldl stW (stW [] t)) = Txt.join "" _
  rw [join_eq, join0_cat]
  show _ = (if t.1 < 0 then ("- " : PySem.Str) else "") ++ (ttS (absI t.1) t.2 ++ cat (r.map ptS))
  by_cases hn : t.1 < 0
  · have e : stW [] t = ("-" : PySem.Str) :: boW t := by
      unfold stW sgW
      rw [decide_eq_true hn, if_pos (by simp)]
      have : sgnS t.1 = "-" := if_pos hn
      rw [this, List.append_assoc]
      rfl
    rw [e, j_fold _ _ (by simp), j_cons1 _ (bo_ne t), j_bo, if_pos hn, s_assoc]
    rfl
  · have e : stW [] t = boW t := by
      unfold stW sgW
      rw [decide_eq_false hn, if_neg (by simp)]
      rfl
    rw [e, j_fold _ _ (bo_ne t), j_bo, if_neg hn, s_nil2]
end FrmP
set_option maxHeartbeats 2000000
namespace FrmP
open PySem PySem.Spec PyProof.Rows L2 Mi MiDF
local macro_rules
  | `(tactic| infer_instance) => `(tactic| first
    | refine dp_nil ?_ | refine dp_cons ?_ | refine wp_var rfl ?_ | refine wp_bo rfl ?_ | refine wp_c ?_ | refine wp_op ?_ | refine wp_lst ?_ | refine wp_tup ?_
    | refine wp_call ?_ | refine wp_prop ?_ | refine wp_meth ?_ | refine wp_mk ?_ | refine wp_bop ?_ | refine wp_uop ?_ | refine wp_fld ?_ | refine wp_spc ?_ | refine wp_ceq ?_ | refine wp_inn ?_ | refine wp_nt ?_ | refine wp_fst ?_ | refine jp_nil ?_ | refine wp_isc ?_ | refine wp_dsc rfl rfl ?_ | refine wp_dic0 ?_ | refine wp_dgt ?_ | refine wp_ccm ?_ | refine wp_anP ?_ | refine wp_orP ?_ | refine wp_ite ?_
    | refine sp_it ?_ | refine sp_rng1 ?_ | refine sp_enum ?_ | refine sp_zip ?_ | refine wp_lr ?_
    | refine bp_nil ?_ | refine bp_cons ?_ | refine wp_set ?_ | refine wp_ret ?_ | refine wp_stf ?_ | refine wp_par ?_ | refine wp_ife ?_ | refine wp_ex ?_
    | refine wk_go rfl ?_ | refine wC.fz (by assumption) ?_ | refine wC.ow (by assumption) ?_ | refine wp_stoS ?_ | refine wo_all ?_ | refine wo_idxS (by assumption) ?_ | refine wo_listS ?_ | refine wo_eqS (by assumption) (by assumption) ?_ | refine wo_neW (by assumption) ?_ | exact ⟨rfl, rfl⟩ | refine ⟨rfl, ?_⟩ | refine wO.of rfl ?_ | refine ap_nil ?_ | refine ap_one ?_
    | refine ⟨_, _, _, _, _, rfl, rfl, rfl, ?_⟩ | refine ⟨_, _, _, rfl, rfl, ?_⟩ | refine ⟨_, _, _, rfl, rfl, rfl, ?_⟩ | refine ⟨_, _, rfl, rfl, ?_⟩ | refine ⟨_, _, rfl, ?_⟩ | refine ⟨_, rfl, rfl, ?_⟩ | refine ⟨_, rfl, ?_⟩ | refine ⟨rfl, _, _, rfl, ?_⟩ | refine ⟨⟨_, rfl⟩, ?_⟩ | refine And.intro (fun _ z => nomatch z) ?_ | exact rfl)
/-! numerals -/
abbrev decS : PySem.Str := "0123456789"
theorem num_cps (n : Nat) : (istr (n : Int)).cps.toList = TL.numL n := TL.tl_num n
theorem num_len (n : Nat) : (istr (n : Int)).length = (TL.numL n).length := by
  rw [← num_cps, Array.length_toList]
  rfl
theorem num_dec {n : Nat} : ∀ c ∈ (istr (n : Int)).cps.toList, c ∈ decS.cps.toList := fun c hc => by
  rw [num_cps] at hc
  have h := TL.numL_digits n c hc
  have : ∀ c : Nat, c < 58 → 48 ≤ c → c ∈ decS.cps.toList := by decide
  exact this c (by omega) (by omega)
theorem num_pos (n : Nat) : 1 ≤ (istr (n : Int)).length := by
  rw [num_len]
  cases e : TL.numL n with
  | nil => exact absurd e (TL.numL_ne n)
  | cons a r => simp
theorem num_noabc (n : Nat) : ((istr (n : Int)).cps.toList.all fun c => decide (c ∈ abcS.cps.toList)) = false := by
  rw [num_cps]
  cases e : TL.numL n with
  | nil => exact absurd e (TL.numL_ne n)
  | cons a r =>
    have h := TL.numL_digits n a (by rw [e]; exact List.mem_cons_self)
    have h2 : ∀ c : Nat, c < 58 → 48 ≤ c → c ∉ abcS.cps.toList := by decide
    rw [List.all_cons, decide_eq_false (h2 a (by omega) (by omega)), Bool.false_and]
theorem num_head {n : Nat} (h : 0 < n) : (TL.numL n).head? ≠ some 48 := by
  induction n using Nat.strongRecOn with
  | _ n ih =>
    by_cases h1 : n < 10
    · rw [TL.numL_lt h1]
      intro z
      have : 48 + n = 48 := Option.some.inj z
      omega
    · rw [TL.numL_step (by omega)]
      have h2 := ih (n / 10) (by omega) (by omega)
      cases e : TL.numL (n / 10) with
      | nil => exact absurd e (TL.numL_ne _)
      | cons a r =>
        rw [e] at h2
        exact h2
theorem num_h0 (n : Nat) : (decide (istr (n : Int) = "0") || !decide ((istr (n : Int)).cps.toList.head? = some 48)) = true := by
  by_cases h : n = 0
  · subst h
    have e : istr ((0 : Nat) : Int) = "0" := by decide
    rw [decide_eq_true e]
    rfl
  · rw [num_cps, decide_eq_false (num_head (by omega))]
    rw [Bool.not_false, Bool.or_true]
section
variable {Γ : Nat → Option Def} {L k : Nat} (hΓ : ∀ f d, pg f = some d → Γ f = some d)
include hΓ
theorem noname_ok {s : PySem.Str} (h1 : 1 ≤ s.length) (hz : s.length ≤ 1000) (h : (s.cps.toList.all fun c => decide (c ∈ abcS.cps.toList)) = false) : callF Γ L (k + 1) 150 [.fz (.str s)] = .ok (.fz (.bl false)) [.no] := by
  refine wC.eq_fz (wp_run (d := d150) (hΓ _ _ rfl) rfl ?_)
  generalize callF Γ L k = cal at *
  unfold d150
  have hz : s.length ≤ sizeLine := by rw [sizeLine_eq]; omega
  repeat infer_instance
  refine wp_ch ?_
  repeat infer_instance
  refine wo_lenS hz ?_
  repeat infer_instance
  refine wif1 (decide_eq_true (by omega)) ?_
  repeat infer_instance
  refine ⟨fun _ => by repeat infer_instance, fun _ => ?_⟩
  repeat infer_instance
  refine wp_comp (α := Nat) ?_
  refine sp_it (wp_var rfl ⟨_, _, _, rfl, if_pos hz, ?_⟩)
  refine ⟨s.cps.toList, fun c => .str ⟨#[c]⟩, fun _ => true, fun c => .bl (decide (c ∈ abcS.cps.toList)), rfl, rfl, rfl, fun c hc => ⟨_, rfl, rfl, ap_nil ⟨rfl, rfl⟩, fun _ => ?_⟩, by show s.cps.toList.length ≤ sizeLine; rw [Array.length_toList]; exact hz, ?_⟩
  · unfold e150_0
    repeat infer_instance
  · rw [List.filter_eq_self.mpr fun _ _ => rfl]
    repeat infer_instance
    rw [h]
    repeat infer_instance
theorem numeral_ok {n : Nat} (hn : n < 10 ^ 18) : callF Γ L (k + 1) 155 [.fz (.str (istr (n : Int)))] = .ok (.fz (.bl true)) [.no] := by
  have l1 := num_pos n
  have l18 : (istr (n : Int)).length ≤ 18 := by rw [num_len]; exact TL.numL_len (by decide) hn
  have hd : ∀ c ∈ (istr (n : Int)).cps.toList, c ∈ decS.cps.toList := num_dec
  have h0 : (decide (istr (n : Int) = "0") || !decide ((istr (n : Int)).cps.toList.head? = some 48)) = true := by
    exact num_h0 n
  generalize istr (n : Int) = s at *
  refine wC.eq_fz (wp_run (d := d155) (hΓ _ _ rfl) rfl ?_)
  generalize callF Γ L k = cal at *
  unfold d155
  have hz : s.length ≤ sizeLine := by rw [sizeLine_eq]; omega
  repeat infer_instance
  refine wp_ch ?_
  repeat infer_instance
  refine wo_lenS hz ?_
  repeat infer_instance
  refine wif1 (decide_eq_true (by omega)) ?_
  repeat infer_instance
  refine wif0 (by
    show (!true || !decide ((s.length : Int) ≤ 18)) = false
    rw [decide_eq_true (by omega)]
    rfl) ?_
  repeat infer_instance
  refine wp_comp (α := Nat) ?_
  refine sp_it (wp_var rfl ⟨_, _, _, rfl, if_pos hz, ?_⟩)
  refine ⟨s.cps.toList, fun c => .str ⟨#[c]⟩, fun _ => true, fun c => .bl (decide (c ∈ decS.cps.toList)), rfl, rfl, rfl, fun c hc => ⟨_, rfl, rfl, ap_nil ⟨rfl, rfl⟩, fun _ => ?_⟩, by show s.cps.toList.length ≤ sizeLine; rw [Array.length_toList]; exact hz, ?_⟩
  · unfold e155_0
    repeat infer_instance
  · rw [List.filter_eq_self.mpr fun _ _ => rfl]
    repeat infer_instance
    have e : (s.cps.toList.all fun c => decide (c ∈ decS.cps.toList)) = true := List.all_eq_true.mpr fun c hc => decide_eq_true (hd c hc)
    rw [e]
    repeat infer_instance
    cases ec : s.cps.toList with
    | nil =>
      have : s.cps.toList.length = s.length := Array.length_toList
      rw [ec] at this
      simp only [List.length_nil] at this
      omega
    | cons a r =>
      rw [ec] at h0
      refine wO.of (show idxF (.str s) (.int 0) = some (.fz (.str ⟨#[a]⟩)) from by
        show (if s.length ≤ sizeLine then (atI s.cps.toList 0).map fun c => R.fz (.str ⟨#[c]⟩) else none) = _
        rw [if_pos hz, ec, atI_nat (x := a) (n := 0) (by omega) rfl]
        rfl) ?_
      repeat infer_instance
      have eb : (id (eqT (.str s) (.str "0")) || !(eqT (.str ⟨#[a]⟩) (.str "0"))) = true := by
        show ((s == ("0" : PySem.Str)) || !((⟨#[a]⟩ : PySem.Str) == ("0" : PySem.Str))) = true
        rw [str_dec, str_dec]
        have e3 : decide ((⟨#[a]⟩ : PySem.Str) = ("0" : PySem.Str)) = decide ((a :: r).head? = some 48) := by
          rw [decide_eq_decide]
          constructor
          · intro z
            have : #[a] = #[48] := congrArg PySem.Str.cps z
            have : a = 48 := by simpa using this
            rw [this]
            rfl
          · intro z
            have : a = 48 := Option.some.inj z
            rw [this]
            rfl
        rw [e3]
        exact h0
      refine ⟨?_, rfl⟩
      rw [eb]
      rfl
end
end FrmP
set_option maxHeartbeats 2000000
namespace FrmP
open PySem PySem.Spec PyProof.Rows L2 Mi MiDF
local macro_rules
  | `(tactic| infer_instance) => `(tactic| first
    | refine dp_nil ?_ | refine dp_cons ?_ | refine wp_var rfl ?_ | refine wp_bo rfl ?_ | refine wp_c ?_ | refine wp_op ?_ | refine wp_lst ?_ | refine wp_tup ?_
    | refine wp_call ?_ | refine wp_prop ?_ | refine wp_meth ?_ | refine wp_mk ?_ | refine wp_bop ?_ | refine wp_uop ?_ | refine wp_fld ?_ | refine wp_spc ?_ | refine wp_ceq ?_ | refine wp_inn ?_ | refine wp_nt ?_ | refine wp_fst ?_ | refine jp_nil ?_ | refine wp_isc ?_ | refine wp_dsc rfl rfl ?_ | refine wp_dic0 ?_ | refine wp_dgt ?_ | refine wp_ccm ?_ | refine wp_anP ?_ | refine wp_orP ?_ | refine wp_ite ?_
    | refine sp_it ?_ | refine sp_rng1 ?_ | refine sp_enum ?_ | refine sp_zip ?_ | refine wp_lr ?_
    | refine bp_nil ?_ | refine bp_cons ?_ | refine wp_set ?_ | refine wp_ret ?_ | refine wp_stf ?_ | refine wp_par ?_ | refine wp_ife ?_ | refine wp_ex ?_
    | refine wk_go rfl ?_ | refine wC.fz (by assumption) ?_ | refine wC.ow (by assumption) ?_ | refine wp_stoS ?_ | refine wo_all ?_ | refine wo_idxS (by assumption) ?_ | refine wo_listS ?_ | refine wo_eqS (by assumption) (by assumption) ?_ | refine wo_neW (by assumption) ?_ | exact ⟨rfl, rfl⟩ | refine ⟨rfl, ?_⟩ | refine wO.of rfl ?_ | refine ap_nil ?_ | refine ap_one ?_
    | refine ⟨_, _, _, _, _, rfl, rfl, rfl, ?_⟩ | refine ⟨_, _, _, rfl, rfl, ?_⟩ | refine ⟨_, _, _, rfl, rfl, rfl, ?_⟩ | refine ⟨_, _, rfl, rfl, ?_⟩ | refine ⟨_, _, rfl, ?_⟩ | refine ⟨_, rfl, rfl, ?_⟩ | refine ⟨_, rfl, ?_⟩ | refine ⟨rfl, _, _, rfl, ?_⟩ | refine ⟨⟨_, rfl⟩, ?_⟩ | refine And.intro (fun _ z => nomatch z) ?_ | exact rfl)
/-! numerals -/
theorem wo_idxW {P : R → Prop} {W : List PySem.Str} {n : Nat} {i : Int} {w : PySem.Str} (hi : i = (n : Int)) (h : W[n]? = some w) (q : P (.fz (.str w))) : wO .idx [.lst (tS W), .int i] P := .of (by
  show (atI (tS W) i).map R.fz = _
  rw [atI_nat (x := .str w) (n := n) hi (by unfold tS; rw [List.getElem?_map, h]; rfl)]
  rfl) q
theorem wo_lenW {P : R → Prop} {W : List PySem.Str} (q : P (.fz (.int W.length))) : wO .len [.lst (tS W)] P := .of (by
  show some (R.fz (.int (tS W).length)) = _
  unfold tS
  rw [List.length_map]) q
theorem wo_intN {P : R → Prop} {m : Nat} (h : m < 10 ^ 18) (q : P (.fz (.int m))) : wO .int [.str (istr (m : Int))] P := .of (by
  have hl : (TL.numL m).length ≤ 18 := TL.numL_len (by decide) h
  have e : PySem.intText? (istr (m : Int)) = some (m : Int) := TL.int_num (by omega)
  show (match PySem.intText? (istr (m : Int)) with
    | some n => if (istr (m : Int)).length ≤ 640 then fI n else none
    | none => none) = _
  rw [e]
  exact if_pos (by rw [num_len]; omega)) q
section
variable {Γ : Nat → Option Def} {L k : Nat} (hΓ : ∀ f d, pg f = some d → Γ f = some d)
include hΓ
theorem rt_name {W : List PySem.Str} {n : Nat} {a : PySem.Str} (hw : W[n]? = some a) (ha : NameOk a) : callF Γ L (k + 2) 152 [.fz (.lst (tS W)), .fz (.int (n : Int))] = .ok (.fz (.tup [.int 1, .str a, .int (n + 1)])) [.no, .no] := by
  have c1 := isname_ok hΓ (L := L) (k := k) ha
  have hlt : n < W.length := (List.getElem?_eq_some_iff.mp hw).1
  refine wC.eq_fz (wp_run (d := d152) (hΓ _ _ rfl) rfl ?_)
  generalize callF Γ L (k + 1) = cal at *
  unfold d152
  have hL : (tS W).length = W.length := List.length_map ..
  repeat infer_instance
  refine wo_idxW rfl hw ?_
  repeat infer_instance
  refine wif1 (by show (decide ((n : Int) < ((tS W).length : Int)) && true) = true; rw [hL, decide_eq_true (by omega)]; rfl) ?_
  repeat infer_instance
  refine wo_idxW rfl hw ?_
  repeat infer_instance
/-- a numeral, a name behind it -/
theorem rt_both {W : List PySem.Str} {n m : Nat} {a : PySem.Str} (hw : W[n]? = some (istr (m : Int))) (hm : m < 10 ^ 18) (hv : W[n + 1]? = some a) (ha : NameOk a) : callF Γ L (k + 2) 152 [.fz (.lst (tS W)), .fz (.int (n : Int))] = .ok (.fz (.tup [.int m, .str a, .int (n + 2)])) [.no, .no] := by
  have c1 := isname_ok hΓ (L := L) (k := k) ha
  have hl18 : (istr (m : Int)).length ≤ 18 := by rw [num_len]; exact TL.numL_len (by decide) hm
  have c2 := noname_ok hΓ (L := L) (k := k) (num_pos m) (by omega) (num_noabc m)
  have c3 := numeral_ok hΓ (L := L) (k := k) hm
  have hlt : n < W.length := (List.getElem?_eq_some_iff.mp hw).1
  have hlt1 : n + 1 < W.length := (List.getElem?_eq_some_iff.mp hv).1
  have hL : (tS W).length = W.length := List.length_map ..
  refine wC.eq_fz (wp_run (d := d152) (hΓ _ _ rfl) rfl ?_)
  generalize callF Γ L (k + 1) = cal at *
  unfold d152
  repeat infer_instance
  refine wo_idxW rfl hw ?_
  repeat infer_instance
  refine wif0 (by rw [Bool.and_false]) ?_
  repeat infer_instance
  refine wo_idxW rfl hw ?_
  repeat infer_instance
  refine wif0 (by show (decide ((n : Int) ≥ ((tS W).length : Int)) || !true) = false; rw [hL, decide_eq_false (by omega)]; rfl) ?_
  repeat infer_instance
  refine wo_idxW (n := n + 1) (by omega) hv ?_
  repeat infer_instance
  refine wif1 (by show (decide ((n : Int) + 1 < ((tS W).length : Int)) && true) = true; rw [hL, decide_eq_true (by omega)]; rfl) ?_
  repeat infer_instance
  refine wo_idxW rfl hw ?_
  repeat infer_instance
  refine wo_intN hm ?_
  repeat infer_instance
  refine wo_idxW (n := n + 1) (by omega) hv ?_
  repeat infer_instance
/-- a numeral alone -/
theorem rt_num {W : List PySem.Str} {n m : Nat} (hw : W[n]? = some (istr (m : Int))) (hm : m < 10 ^ 18) (hv : W[n + 1]? = none ∨ W[n + 1]? = some "+" ∨ W[n + 1]? = some "-") : callF Γ L (k + 2) 152 [.fz (.lst (tS W)), .fz (.int (n : Int))] = .ok (.fz (.tup [.int m, .str "", .int (n + 1)])) [.no, .no] := by
  have hl18 : (istr (m : Int)).length ≤ 18 := by rw [num_len]; exact TL.numL_len (by decide) hm
  have c2 := noname_ok hΓ (L := L) (k := k) (num_pos m) (by omega) (num_noabc m)
  have c3 := numeral_ok hΓ (L := L) (k := k) hm
  have c4 := noname_ok hΓ (L := L) (k := k) (s := "+") (by decide) (by decide) (by decide)
  have c5 := noname_ok hΓ (L := L) (k := k) (s := "-") (by decide) (by decide) (by decide)
  have hlt : n < W.length := (List.getElem?_eq_some_iff.mp hw).1
  have hL : (tS W).length = W.length := List.length_map ..
  refine wC.eq_fz (wp_run (d := d152) (hΓ _ _ rfl) rfl ?_)
  generalize callF Γ L (k + 1) = cal at *
  unfold d152
  refine bp_via (X := [.fz (.lst (tS W)), .fz (.int (n : Int))]) ?_ ?_
  · repeat infer_instance
    refine wo_idxW rfl hw ?_
    repeat infer_instance
    refine wif0 (by rw [Bool.and_false]) ?_
    repeat infer_instance
  refine bp_via (X := [.fz (.lst (tS W)), .fz (.int (n : Int))]) ?_ ?_
  · repeat infer_instance
    refine wo_idxW rfl hw ?_
    repeat infer_instance
    refine wif0 (by show (decide ((n : Int) ≥ ((tS W).length : Int)) || !true) = false; rw [hL, decide_eq_false (by omega)]; rfl) ?_
    repeat infer_instance
  refine bp_via (X := [.fz (.lst (tS W)), .fz (.int (n : Int))]) ?_ ?_
  · refine wp_ife (wp_an ?_)
    repeat infer_instance
    show (decide ((n : Int) + 1 < ((tS W).length : Int)) = true → _) ∧ (decide ((n : Int) + 1 < ((tS W).length : Int)) = false → _)
    by_cases hlt1 : n + 1 < W.length
    · refine wif1 (by rw [hL, decide_eq_true (by omega)]) ?_
      rcases hv with hv | hv | hv
      · rw [List.getElem?_eq_none_iff] at hv
        omega
      all_goals
        repeat infer_instance
        refine wo_idxW (n := n + 1) (by omega) hv ?_
        repeat infer_instance
        refine wif0 rfl ?_
        repeat infer_instance
    · refine wif0 (by rw [hL, decide_eq_false (by omega)]) ?_
      refine ⟨_, rfl, wif0 rfl ?_⟩
      repeat infer_instance
  repeat infer_instance
  refine wo_idxW rfl hw ?_
  repeat infer_instance
  refine wo_intN hm ?_
  repeat infer_instance
end
end FrmP
set_option maxHeartbeats 2000000
namespace FrmP
open PySem PySem.Spec PyProof.Rows L2 Mi MiDF
local macro_rules
  | `(tactic| infer_instance) => `(tactic| first
    | refine dp_nil ?_ | refine dp_cons ?_ | refine wp_var rfl ?_ | refine wp_bo rfl ?_ | refine wp_c ?_ | refine wp_op ?_ | refine wp_lst ?_ | refine wp_tup ?_
    | refine wp_call ?_ | refine wp_prop ?_ | refine wp_meth ?_ | refine wp_mk ?_ | refine wp_bop ?_ | refine wp_uop ?_ | refine wp_fld ?_ | refine wp_spc ?_ | refine wp_ceq ?_ | refine wp_inn ?_ | refine wp_nt ?_ | refine wp_fst ?_ | refine jp_nil ?_ | refine wp_isc ?_ | refine wp_dsc rfl rfl ?_ | refine wp_dic0 ?_ | refine wp_dgt ?_ | refine wp_ccm ?_ | refine wp_anP ?_ | refine wp_orP ?_ | refine wp_ite ?_
    | refine sp_it ?_ | refine sp_rng1 ?_ | refine sp_enum ?_ | refine sp_zip ?_ | refine wp_lr ?_
    | refine bp_nil ?_ | refine bp_cons ?_ | refine wp_set ?_ | refine wp_ret ?_ | refine wp_stf ?_ | refine wp_par ?_ | refine wp_ife ?_ | refine wp_ex ?_
    | refine wk_go rfl ?_ | refine wC.fz (by assumption) ?_ | refine wC.ow (by assumption) ?_ | refine wp_stoS ?_ | refine wo_all ?_ | refine wo_idxS (by assumption) ?_ | refine wo_listS ?_ | refine wo_eqS (by assumption) (by assumption) ?_ | refine wo_neW (by assumption) ?_ | exact ⟨rfl, rfl⟩ | refine ⟨rfl, ?_⟩ | refine wO.of rfl ?_ | refine ap_nil ?_ | refine ap_one ?_
    | refine ⟨_, _, _, _, _, rfl, rfl, rfl, ?_⟩ | refine ⟨_, _, _, rfl, rfl, ?_⟩ | refine ⟨_, _, _, rfl, rfl, rfl, ?_⟩ | refine ⟨_, _, rfl, rfl, ?_⟩ | refine ⟨_, _, rfl, ?_⟩ | refine ⟨_, rfl, rfl, ?_⟩ | refine ⟨_, rfl, ?_⟩ | refine ⟨rfl, _, _, rfl, ?_⟩ | refine ⟨⟨_, rfl⟩, ?_⟩ | refine And.intro (fun _ z => nomatch z) ?_ | exact rfl)
/-! numerals -/
/-- a written term: number, name, whether the number is shown -/
structure WT where
  n : Int
  a : PySem.Str
  sh : Bool
structure WT.Ok (t : WT) : Prop where
  lt : t.n.natAbs < 10 ^ 18
  one : t.sh = false → absI t.n = 1 ∧ t.a ≠ ""
  nm : t.a ≠ "" → NameOk t.a
def bW (t : WT) : List PySem.Str := (if t.sh = true then [istr (absI t.n)] else []) ++ (if t.a = "" then [] else [t.a])
def lW (r : List WT) : List PySem.Str := r.flatMap fun u => sgnS u.n :: bW u
def cW (ts : List WT) : Int := match ts with
  | [] => 0
  | t :: r => (if t.a = "" then t.n else 0) + cW r
def fW (ts : List WT) : SD := match ts with
  | [] => []
  | t :: r => (if t.a = "" then [] else [(t.a, t.n)]) ++ fW r
theorem cW_app (r : List WT) (u : WT) : cW (r ++ [u]) = cW r + if u.a = "" then u.n else 0 := by
  induction r with
  | nil => show _ + 0 = 0 + _; omega
  | cons t r ih =>
    show _ + cW (r ++ [u]) = (_ + cW r) + _
    rw [ih]
    omega
theorem fW_app (r : List WT) (u : WT) : fW (r ++ [u]) = fW r ++ if u.a = "" then [] else [(u.a, u.n)] := by
  induction r with
  | nil => show _ ++ [] = [] ++ _; rw [List.append_nil]; rfl
  | cons t r ih =>
    show _ ++ fW (r ++ [u]) = (_ ++ fW r) ++ _
    rw [ih, List.append_assoc]
def sg1 (n : Int) : Int := if n < 0 then -1 else 1
theorem sg_abs (n : Int) : sg1 n * absI n = n := by
  unfold sg1 absI
  split <;> omega
theorem abs_nat (n : Int) : absI n = ((n.natAbs : Nat) : Int) := by
  unfold absI
  split <;> omega
section
variable {Γ : Nat → Option Def} {L k : Nat} (hΓ : ∀ f d, pg f = some d → Γ f = some d)
include hΓ
/-- a term is read -/
theorem rt_ok {W pre post : List PySem.Str} {u : WT} (hu : u.Ok) (hW : W = pre ++ (bW u ++ post)) (hp : post = [] ∨ ∃ r, post = ("+" : PySem.Str) :: r ∨ post = ("-" : PySem.Str) :: r) :
    callF Γ L (k + 2) 152 [.fz (.lst (tS W)), .fz (.int (pre.length : Int))] = .ok (.fz (.tup [.int (absI u.n), .str u.a, .int ((pre.length + (bW u).length : Nat) : Int)])) [.no, .no] := by
  have at0 : ∀ (x : PySem.Str) (r : List PySem.Str), W = pre ++ (x :: r) → W[pre.length]? = some x := fun x r e => by rw [e, List.getElem?_append_right (Nat.le_refl _), Nat.sub_self]; rfl
  have at1 : ∀ (x : PySem.Str) (r : List PySem.Str), W = pre ++ (x :: r) → W[pre.length + 1]? = r[0]? := fun x r e => by
    rw [e, List.getElem?_append_right (by omega), show pre.length + 1 - pre.length = 1 from by omega]; rfl
  unfold bW at hW ⊢
  by_cases ea : u.a = ""
  · have es : u.sh = true := by
      cases e : u.sh with
      | true => rfl
      | false => exact absurd ea (hu.one e).2
    rw [es, if_pos rfl, if_pos ea] at hW ⊢
    rw [ea, abs_nat] at *
    have hW2 : W = pre ++ (istr ((u.n.natAbs : Nat) : Int) :: post) := hW
    refine rt_num hΓ (at0 _ _ hW2) hu.lt ?_
    rw [at1 _ _ hW2]
    rcases hp with rfl | ⟨r, rfl | rfl⟩
    · exact .inl rfl
    · exact .inr (.inl rfl)
    · exact .inr (.inr rfl)
  · rw [if_neg ea] at hW ⊢
    cases es : u.sh with
    | true =>
      rw [es, if_pos rfl] at hW
      rw [if_pos rfl]
      rw [abs_nat] at *
      have hW2 : W = pre ++ (istr ((u.n.natAbs : Nat) : Int) :: (u.a :: post)) := hW
      exact rt_both hΓ (at0 _ _ hW2) hu.lt (by rw [at1 _ _ hW2]; rfl) (hu.nm ea)
    | false =>
      rw [es, if_neg (by decide)] at hW
      rw [if_neg (by decide)]
      rw [(hu.one es).1]
      have hW2 : W = pre ++ (u.a :: post) := hW
      exact rt_name hΓ (at0 _ _ hW2) (hu.nm ea)
end
end FrmP
set_option maxHeartbeats 2000000
namespace FrmP
open PySem PySem.Spec PyProof.Rows L2 Mi MiDF
local macro_rules
  | `(tactic| infer_instance) => `(tactic| first
    | refine dp_nil ?_ | refine dp_cons ?_ | refine wp_var rfl ?_ | refine wp_bo rfl ?_ | refine wp_c ?_ | refine wp_op ?_ | refine wp_lst ?_ | refine wp_tup ?_
    | refine wp_call ?_ | refine wp_prop ?_ | refine wp_meth ?_ | refine wp_mk ?_ | refine wp_bop ?_ | refine wp_uop ?_ | refine wp_fld ?_ | refine wp_spc ?_ | refine wp_ceq ?_ | refine wp_inn ?_ | refine wp_nt ?_ | refine wp_fst ?_ | refine jp_nil ?_ | refine wp_isc ?_ | refine wp_dsc rfl rfl ?_ | refine wp_dic0 ?_ | refine wp_dgt ?_ | refine wp_ccm ?_ | refine wp_anP ?_ | refine wp_orP ?_ | refine wp_ite ?_
    | refine sp_it ?_ | refine sp_rng1 ?_ | refine sp_enum ?_ | refine sp_zip ?_ | refine wp_lr ?_
    | refine bp_nil ?_ | refine bp_cons ?_ | refine wp_set ?_ | refine wp_ret ?_ | refine wp_stf ?_ | refine wp_par ?_ | refine wp_ife ?_ | refine wp_ex ?_
    | refine wk_go rfl ?_ | refine wC.fz (by assumption) ?_ | refine wC.ow (by assumption) ?_ | refine wp_stoS ?_ | refine wo_all ?_ | refine wo_idxS (by assumption) ?_ | refine wo_listS ?_ | refine wo_eqS (by assumption) (by assumption) ?_ | refine wo_neW (by assumption) ?_ | exact ⟨rfl, rfl⟩ | refine ⟨rfl, ?_⟩ | refine wO.of rfl ?_ | refine ap_nil ?_ | refine ap_one ?_
    | refine ⟨_, _, _, _, _, rfl, rfl, rfl, ?_⟩ | refine ⟨_, _, _, rfl, rfl, ?_⟩ | refine ⟨_, _, _, rfl, rfl, rfl, ?_⟩ | refine ⟨_, _, rfl, rfl, ?_⟩ | refine ⟨_, _, rfl, ?_⟩ | refine ⟨_, rfl, rfl, ?_⟩ | refine ⟨_, rfl, ?_⟩ | refine ⟨rfl, _, _, rfl, ?_⟩ | refine ⟨⟨_, rfl⟩, ?_⟩ | refine And.intro (fun _ z => nomatch z) ?_ | exact rfl)
/-! reading words -/
theorem cW_last (r : List WT) (u : WT) (h : u.a = "") : cW (r ++ [u]) = cW r + u.n := by rw [cW_app, if_pos h]
theorem cW_lst0 (r : List WT) (u : WT) (h : u.a ≠ "") : cW (r ++ [u]) = cW r := by rw [cW_app, if_neg h, Int.add_zero]
theorem fW_last (r : List WT) (u : WT) (h : u.a ≠ "") : fW (r ++ [u]) = fW r ++ [(u.a, u.n)] := by rw [fW_app, if_neg h]
theorem fW_lst0 (r : List WT) (u : WT) (h : u.a = "") : fW (r ++ [u]) = fW r := by rw [fW_app, if_pos h, List.append_nil]
theorem fW_len : ∀ ts : List WT, (fW ts).length ≤ ts.length
  | [] => Nat.le_refl _
  | t :: r => by
    show (_ ++ fW r).length ≤ r.length + 1
    rw [List.length_append]
    have := fW_len r
    split <;> simp <;> omega
theorem fW_names : ∀ {ts : List WT}, (∀ t ∈ ts, t.Ok) → ∀ a ∈ keysS (fW ts), NameOk a
  | [], _, a, ha => by cases ha
  | t :: r, h, a, ha => by
    have ih := fW_names (ts := r) fun x hx => h x (List.mem_cons_of_mem _ hx)
    have ha2 : a ∈ keysS ((if t.a = "" then [] else [(t.a, t.n)]) ++ fW r) := ha
    unfold keysS at ha2
    rw [List.map_append, List.mem_append] at ha2
    rcases ha2 with h1 | h1
    · by_cases e : t.a = ""
      · rw [if_pos e] at h1; cases h1
      · rw [if_neg e] at h1
        simp at h1
        rw [h1]
        exact (h t List.mem_cons_self).nm e
    · exact ih a h1
theorem log_le {n : Nat} (h : n < 10 ^ 18) : n.log2 < 60 := by
  by_cases e : n = 0
  · rw [e]; decide
  · rw [Nat.log2_lt e]
    exact Nat.lt_trans h (by decide)
theorem wo_sgn {P : R → Prop} {n sg : Int} (h : n.natAbs < 10 ^ 18) (h1 : sg.natAbs = 1) (h5 : sg * absI n = n) (q : P (.fz (.int n))) : wO .mul [.int sg, .int (absI n)] P := .of (by
  show (if sg.natAbs.log2 + (absI n).natAbs.log2 < 1000000 then some (R.fz (.int (sg * absI n))) else none) = _
  have h2 : (absI n).natAbs = n.natAbs := by unfold absI; split <;> omega
  have h3 : (1 : Nat).log2 = 0 := by decide
  have h4 := log_le h
  rw [h5, h1, h2, h3]
  exact if_pos (by omega)) q
theorem lW_post (r : List WT) : lW r = [] ∨ ∃ q, lW r = ("+" : PySem.Str) :: q ∨ lW r = ("-" : PySem.Str) :: q := by
  cases r with
  | nil => exact .inl rfl
  | cons u r =>
    refine .inr ⟨bW u ++ lW r, ?_⟩
    have e : lW (u :: r) = sgnS u.n :: (bW u ++ lW r) := rfl
    rw [e]
    unfold sgnS
    split
    · exact .inr rfl
    · exact .inl rfl
section
variable {Γ : Nat → Option Def} {L k : Nat} (hΓ : ∀ f d, pg f = some d → Γ f = some d)
include hΓ
/-- the words of a list of terms are read -/
theorem words_gen {sg0 : Int} {W hd : List PySem.Str} {t : WT} {r : List WT} (hL : r.length + 1 < L) (h64 : r.length + 1 < 64) (hu : ∀ u ∈ t :: r, u.Ok)
    (hs0 : sg0 * absI t.n = t.n) (hh : (sg0 = -1 ∧ hd = [("-" : PySem.Str)]) ∨ (sg0 = 1 ∧ hd = [])) (hW : W = hd ++ (bW t ++ lW r)) (hne : ∃ w ws, bW t = w :: ws ∧ w ≠ ("-" : PySem.Str)) :
    callF Γ L (k + 4) 149 [.fz (.lst (tS W)), .fz (.int 0)] = .ok (.fz (.tup [frmT (cW (t :: r)) (keptS (sumS [] (fW (t :: r)))), .int W.length])) [.no, .no] := by
  have c1 : ∀ (pre post : List PySem.Str) (u : WT), u.Ok → W = pre ++ (bW u ++ post) → (post = [] ∨ ∃ r, post = ("+" : PySem.Str) :: r ∨ post = ("-" : PySem.Str) :: r) →
      callF Γ L (k + 3) 152 [.fz (.lst (tS W)), .fz (.int (pre.length : Int))] = .ok (.fz (.tup [.int (absI u.n), .str u.a, .int ((pre.length + (bW u).length : Nat) : Int)])) [.no, .no] := fun pre post u h1 h2 h3 => rt_ok hΓ h1 h2 h3
  have hlen : ∀ dn rest : List WT, ∀ u : WT, dn ++ u :: rest = t :: r → (fW (dn ++ [u])).length < 64 := fun dn rest u e => by
    have h1 := fW_len (dn ++ [u])
    have h2 : (dn ++ u :: rest).length = r.length + 1 := by rw [e]; rfl
    rw [List.length_append] at h1 h2
    simp only [List.length_cons, List.length_nil] at h1 h2
    omega
  have hs : (keysS ([] : SD)).Nodup := by show ([] : List PySem.Str).Nodup; exact List.Pairwise.nil
  have c2 := formof_ok hΓ (L := L) (k := k) (c := cW (t :: r)) (l := sumS [] (fW (t :: r))) (nodup_sumS _ hs)
    (by
      have h1 := sum_len (fW (t :: r)) []
      have h2 := fW_len (t :: r)
      simp only [List.length_nil, List.length_cons] at h1 h2
      omega)
    (fun a ha => fW_names hu a ((sum_keys _ [] a ha).resolve_left fun z => by cases z))
  have hLW : (tS W).length = W.length := List.length_map ..
  refine wC.eq_fz (wp_run (d := d149) (hΓ _ _ rfl) rfl ?_)
  generalize callF Γ L (k + 3) = cal at *
  unfold d149
  refine bp_via (X := [.fz (.lst (tS W)), .fz (.int 0), .fz (.int 0), .ow (.dic []), .fz (.int 1), .no, .no]) ?_ ?_
  · refine wp_par3 ?_
    refine wp_c ⟨_, rfl, wp_dic0 ⟨_, rfl, ⟨⟨?_, ?_, ?_⟩, ⟨by decide, by decide, by decide⟩, rfl⟩, rfl⟩⟩
    all_goals exact Nat.le_of_ble_eq_true rfl
  refine bp_via (X := [.fz (.lst (tS W)), .fz (.int hd.length), .fz (.int 0), .ow (.dic []), .fz (.int sg0), .no, .no]) ?_ ?_
  · obtain ⟨w, ws, hb, hw⟩ := hne
    have hpos : 0 < W.length := by rw [hW, hb, List.length_append]; simp; omega
    refine wp_ife (wp_an ?_)
    repeat infer_instance
    refine wif1 (by show decide ((0 : Int) < ((tS W).length : Int)) = true; rw [hLW, decide_eq_true (by omega)]) ?_
    repeat infer_instance
    rcases hh with ⟨rfl, hh⟩ | ⟨rfl, hh⟩
    · subst hh
      refine wo_idxW (n := 0) (w := "-") rfl (by rw [hW]; rfl) ?_
      repeat infer_instance
      refine wif1 rfl ?_
      repeat infer_instance
    · subst hh
      refine wo_idxW (n := 0) (w := w) rfl (by rw [hW, hb]; rfl) ?_
      repeat infer_instance
      refine wif0 (beq_eq_false_iff_ne.mpr hw) ?_
      repeat infer_instance
  refine bp_cons ?_
  refine wp_wh (fun j m => ∃ (dn rest : List WT) (u : WT) (pre : List PySem.Str) (sg : Int) (x y : Mi.Slot), m = [.fz (.lst (tS W)), .fz (.int pre.length), .fz (.int (cW dn)), .ow (.dic (dS (sumS [] (fW dn)))), .fz (.int sg), x, y] ∧ W = pre ++ (bW u ++ lW rest) ∧ dn ++ u :: rest = t :: r ∧ j = rest.length + 1 ∧ sg.natAbs = 1 ∧ sg * absI u.n = u.n) (r.length + 1) hL ⟨[], r, t, hd, sg0, _, _, rfl, hW, rfl, rfl, by rcases hh with ⟨e, _⟩ | ⟨e, _⟩ <;> rw [e] <;> rfl, hs0⟩ ?_
  rintro n m1 ⟨dn, rest, u, pre, sg, x5, x6, rfl, hW2, hd2, rfl, hsg1, hsg2⟩
  refine wp_c ⟨_, rfl, fun _ => ⟨_, rfl, ?_⟩, fun z => nomatch z⟩
  have hu2 : u.Ok := hu u (by rw [← hd2]; simp)
  have c3 := c1 pre (lW rest) u hu2 hW2 (lW_post rest)
  have hl3 := hlen dn rest u hd2
  unfold l149_0
  refine bp_via (X := [.fz (.lst (tS W)), .fz (.int ((pre.length + (bW u).length : Nat) : Int)), .fz (.int (cW dn)), .ow (.dic (dS (sumS [] (fW dn)))), .fz (.int sg), .fz (.int (absI u.n)), .fz (.str u.a)]) ?_ ?_
  · refine wp_unp ?_
    repeat infer_instance
  refine bp_via (X := [.fz (.lst (tS W)), .fz (.int ((pre.length + (bW u).length : Nat) : Int)), .fz (.int (cW (dn ++ [u]))), .ow (.dic (dS (sumS [] (fW (dn ++ [u]))))), .fz (.int sg), .fz (.int (absI u.n)), .fz (.str u.a)]) ?_ ?_
  · repeat infer_instance
    by_cases e : u.a = ""
    · refine wif1 (by rw [e]; rfl) ?_
      rw [cW_last _ _ e, fW_lst0 _ _ e]
      repeat infer_instance
      refine wp_aug ⟨_, rfl, ?_⟩
      repeat infer_instance
      refine wo_sgn hu2.lt hsg1 hsg2 ?_
      repeat infer_instance
    · refine wif0 (beq_eq_false_iff_ne.mpr e) ?_
      rw [cW_lst0 _ _ e, fW_last _ _ e, sum_app]
      repeat infer_instance
      refine ⟨_, _, _, _, rfl, rfl, rfl, rfl, rfl, ?_⟩
      rw [dgt_dS]
      repeat infer_instance
      refine wo_sgn hu2.lt hsg1 hsg2 ?_
      repeat infer_instance
      have hlen : (dS (sumS [] (fW dn))).length < sizeLine := by
        have h1 := sum_len (fW dn) []
        rw [fW_last _ _ e, List.length_append] at hl3
        unfold dS
        rw [List.length_map, sizeLine_eq]
        simp only [List.length_nil, List.length_cons] at h1 hl3
        omega
      refine ⟨_, _, _, _, rfl, rfl, rfl, hlen, ?_⟩
      repeat infer_instance
      show _ = _
      rw [putT_dS]
      rfl
  have hWl : W.length = pre.length + ((bW u).length + (lW rest).length) := by rw [hW2, List.length_append, List.length_append]
  cases rest with
  | nil =>
    have hWe : pre.length + (bW u).length = W.length := by rw [hWl]; rfl
    have hd3 : dn ++ [u] = t :: r := hd2
    rw [hd3, hWe]
    refine bp_cons (wp_ife (wp_or ?_))
    repeat infer_instance
    refine wif1 (by show decide ((W.length : Int) ≥ ((tS W).length : Int)) = true; rw [hLW, decide_eq_true (by omega)]) ?_
    refine ⟨_, rfl, wif1 rfl ?_⟩
    repeat infer_instance
  | cons v rest =>
    have hat : W[pre.length + (bW u).length]? = some (sgnS v.n) := by
      rw [hW2, List.getElem?_append_right (by omega), Nat.add_sub_cancel_left, List.getElem?_append_right (Nat.le_refl _), Nat.sub_self]
      rfl
    have hlt : pre.length + (bW u).length < W.length := (List.getElem?_eq_some_iff.mp hat).1
    have hs2 : sgnS v.n = "+" ∧ ¬ v.n < 0 ∨ sgnS v.n = "-" ∧ v.n < 0 := by
      unfold sgnS
      by_cases e : v.n < 0
      · exact .inr ⟨if_pos e, e⟩
      · exact .inl ⟨if_neg e, e⟩
    refine bp_via (X := [.fz (.lst (tS W)), .fz (.int ((pre.length + (bW u).length : Nat) : Int)), .fz (.int (cW (dn ++ [u]))), .ow (.dic (dS (sumS [] (fW (dn ++ [u]))))), .fz (.int sg), .fz (.int (absI u.n)), .fz (.str u.a)]) ?_ ?_
    · refine wp_ife (wp_or ?_)
      repeat infer_instance
      refine wif0 (by show decide (((pre.length + (bW u).length : Nat) : Int) ≥ ((tS W).length : Int)) = false; rw [hLW, decide_eq_false (by omega)]) ?_
      repeat infer_instance
      refine wo_idxW rfl hat ?_
      rcases hs2 with ⟨e, _⟩ | ⟨e, _⟩
      all_goals
        rw [e]
        repeat infer_instance
        refine wif0 rfl ?_
        repeat infer_instance
    repeat infer_instance
    refine wo_idxW rfl hat ?_
    have hW4 : W = (pre ++ (bW u ++ [sgnS v.n])) ++ (bW v ++ lW rest) := by
      rw [hW2, List.append_assoc, List.append_assoc]; rfl
    have hl4 : (pre ++ (bW u ++ [sgnS v.n])).length = pre.length + (bW u).length + 1 := by rw [List.length_append, List.length_append, Nat.add_assoc]; rfl
    rcases hs2 with ⟨e, en⟩ | ⟨e, en⟩
    · rw [e]
      repeat infer_instance
      refine wif1 rfl ?_
      repeat infer_instance
      refine ⟨dn ++ [u], rest, v, pre ++ (bW u ++ [sgnS v.n]), 1, .fz (.int (absI u.n)), .fz (.str u.a), ?_, hW4, by rw [List.append_assoc]; exact hd2, rfl, rfl, by unfold absI; rw [if_neg en]; omega⟩
      rw [hl4]
      rfl
    · rw [e]
      repeat infer_instance
      refine wif0 rfl ?_
      repeat infer_instance
      refine ⟨dn ++ [u], rest, v, pre ++ (bW u ++ [sgnS v.n]), -1, .fz (.int (absI u.n)), .fz (.str u.a), ?_, hW4, by rw [List.append_assoc]; exact hd2, rfl, rfl, by unfold absI; rw [if_pos en]; omega⟩
      rw [hl4]
      rfl
theorem words_ok {W hd : List PySem.Str} {t : WT} {r : List WT} (hL : r.length + 1 < L) (h64 : r.length + 1 < 64) (hu : ∀ u ∈ t :: r, u.Ok)
    (hh : hd = if t.n < 0 then [("-" : PySem.Str)] else []) (hW : W = hd ++ (bW t ++ lW r)) (hne : ∃ w ws, bW t = w :: ws ∧ w ≠ ("-" : PySem.Str)) :
    callF Γ L (k + 4) 149 [.fz (.lst (tS W)), .fz (.int 0)] = .ok (.fz (.tup [frmT (cW (t :: r)) (keptS (sumS [] (fW (t :: r)))), .int W.length])) [.no, .no] :=
  words_gen hΓ (sg0 := sg1 t.n) hL h64 hu (sg_abs t.n) (by
    unfold sg1
    by_cases e : t.n < 0
    · rw [if_pos e] at hh ⊢
      exact .inl ⟨rfl, hh⟩
    · rw [if_neg e] at hh ⊢
      exact .inr ⟨rfl, hh⟩) hW hne
end
end FrmP
set_option maxHeartbeats 2000000
namespace FrmP
open PySem PySem.Spec PyProof.Rows L2 Mi MiDF
local macro_rules
  | `(tactic| infer_instance) => `(tactic| first
    | refine dp_nil ?_ | refine dp_cons ?_ | refine wp_var rfl ?_ | refine wp_bo rfl ?_ | refine wp_c ?_ | refine wp_op ?_ | refine wp_lst ?_ | refine wp_tup ?_
    | refine wp_call ?_ | refine wp_prop ?_ | refine wp_meth ?_ | refine wp_mk ?_ | refine wp_bop ?_ | refine wp_uop ?_ | refine wp_fld ?_ | refine wp_spc ?_ | refine wp_ceq ?_ | refine wp_inn ?_ | refine wp_nt ?_ | refine wp_fst ?_ | refine jp_nil ?_ | refine wp_isc ?_ | refine wp_dsc rfl rfl ?_ | refine wp_dic0 ?_ | refine wp_dgt ?_ | refine wp_ccm ?_ | refine wp_anP ?_ | refine wp_orP ?_ | refine wp_ite ?_
    | refine sp_it ?_ | refine sp_rng1 ?_ | refine sp_enum ?_ | refine sp_zip ?_ | refine wp_lr ?_
    | refine bp_nil ?_ | refine bp_cons ?_ | refine wp_set ?_ | refine wp_ret ?_ | refine wp_stf ?_ | refine wp_par ?_ | refine wp_ife ?_ | refine wp_ex ?_
    | refine wk_go rfl ?_ | refine wC.fz (by assumption) ?_ | refine wC.ow (by assumption) ?_ | refine wp_stoS ?_ | refine wo_all ?_ | refine wo_idxS (by assumption) ?_ | refine wo_listS ?_ | refine wo_eqS (by assumption) (by assumption) ?_ | refine wo_neW (by assumption) ?_ | exact ⟨rfl, rfl⟩ | refine ⟨rfl, ?_⟩ | refine wO.of rfl ?_ | refine ap_nil ?_ | refine ap_one ?_
    | refine ⟨_, _, _, _, _, rfl, rfl, rfl, ?_⟩ | refine ⟨_, _, _, rfl, rfl, ?_⟩ | refine ⟨_, _, _, rfl, rfl, rfl, ?_⟩ | refine ⟨_, _, rfl, rfl, ?_⟩ | refine ⟨_, _, rfl, ?_⟩ | refine ⟨_, rfl, rfl, ?_⟩ | refine ⟨_, rfl, ?_⟩ | refine ⟨rfl, _, _, rfl, ?_⟩ | refine ⟨⟨_, rfl⟩, ?_⟩ | refine And.intro (fun _ z => nomatch z) ?_ | exact rfl)
/-! a text is read -/
theorem num_no32 (n : Nat) : 32 ∉ TL.tl (istr (n : Int)) := by
  intro h
  have h1 := TL.numL_digits n 32 (by rw [← num_cps]; exact h)
  omega
theorem nm_no32 {a : PySem.Str} (h : NameOk a) : 32 ∉ TL.tl a := fun z => by
  have h1 := h.low 32 z
  revert h1
  decide
theorem nm_minus {a : PySem.Str} (h : NameOk a) : a ≠ "-" := fun z => by
  have h1 := h.low 45 (by rw [z]; decide)
  revert h1
  decide
theorem num_minus (n : Nat) : istr (n : Int) ≠ "-" := fun z => by
  have h1 := num_cps n
  rw [z] at h1
  have h2 := TL.numL_digits n 45 (by rw [← h1]; decide)
  omega
theorem bW_no32 {u : WT} (hu : u.Ok) : ∀ w ∈ bW u, 32 ∉ TL.tl w := fun w hw => by
  unfold bW at hw
  rw [List.mem_append] at hw
  rcases hw with hw | hw
  · split at hw
    · rw [List.mem_singleton.mp hw, abs_nat]
      exact num_no32 _
    · cases hw
  · split at hw
    · cases hw
    · rename_i e
      rw [List.mem_singleton.mp hw]
      exact nm_no32 (hu.nm e)
theorem lW_no32 {r : List WT} (hr : ∀ u ∈ r, u.Ok) : ∀ w ∈ lW r, 32 ∉ TL.tl w := fun w hw => by
  unfold lW at hw
  rw [List.mem_flatMap] at hw
  obtain ⟨u, hu, h⟩ := hw
  rcases List.mem_cons.mp h with rfl | h
  · unfold sgnS
    split <;> decide
  · exact bW_no32 (hr u hu) w h
theorem bW_head {t : WT} (ht : t.Ok) : ∃ w ws, bW t = w :: ws ∧ w ≠ ("-" : PySem.Str) := by
  unfold bW
  cases e : t.sh with
  | true =>
    rw [if_pos rfl]
    refine ⟨_, _, rfl, ?_⟩
    rw [abs_nat]
    exact num_minus _
  | false =>
    rw [if_neg (by decide), if_neg (ht.one e).2]
    exact ⟨_, _, rfl, nm_minus (ht.nm (ht.one e).2)⟩
/-- the words of a list of terms -/
def allW (t : WT) (r : List WT) : List PySem.Str := (if t.n < 0 then [("-" : PySem.Str)] else []) ++ (bW t ++ lW r)
theorem allW_ne {t : WT} (ht : t.Ok) (r : List WT) : allW t r ≠ [] := by
  obtain ⟨w, ws, e, _⟩ := bW_head ht
  unfold allW
  rw [e]
  simp
theorem allW_split {t : WT} {r : List WT} (hu : ∀ u ∈ t :: r, u.Ok) : Txt.split (Txt.join " " (allW t r)) " " = allW t r := by
  refine TL.split_join (s := 32) (S := []) (by decide) (by decide +kernel) (allW_ne (hu t List.mem_cons_self) r) fun w hw => ?_
  unfold allW at hw
  rw [List.mem_append, List.mem_append] at hw
  rcases hw with h | h | h
  · split at h
    · rw [List.mem_singleton.mp h]
      decide
    · cases h
  · exact bW_no32 (hu t List.mem_cons_self) w h
  · exact lW_no32 (fun u h => hu u (List.mem_cons_of_mem _ h)) w h
theorem wo_split {P : R → Prop} {t : WT} {r : List WT} (hu : ∀ u ∈ t :: r, u.Ok) (hl : (Txt.join " " (allW t r)).length + 2 ≤ sizeLine) (q : P (.ow (.lst (tS (allW t r))))) : wO (.split " ") [.str (Txt.join " " (allW t r))] P := .of (by
  show (if _ then some (R.ow (.lst ((Txt.split (Txt.join " " (allW t r)) " ").map .str))) else none) = _
  rw [allW_split hu]
  exact if_pos ⟨rfl, hl⟩) q
section
variable {Γ : Nat → Option Def} {L k : Nat} (hΓ : ∀ f d, pg f = some d → Γ f = some d)
include hΓ
/-- Form.read -/
theorem read_ok {t : WT} {r : List WT} (hL : r.length + 1 < L) (h64 : r.length + 1 < 64) (hu : ∀ u ∈ t :: r, u.Ok) (hl : (Txt.join " " (allW t r)).length + 2 ≤ sizeLine) :
    callF Γ L (k + 5) 141 [.fz (.str (Txt.join " " (allW t r)))] = .ok (.fz (frmT (cW (t :: r)) (keptS (sumS [] (fW (t :: r)))))) [.no] := by
  have c1 := words_ok hΓ (L := L) (k := k) (W := allW t r) (t := t) (r := r) hL h64 hu rfl rfl (bW_head (hu t List.mem_cons_self))
  have hLW : (tS (allW t r)).length = (allW t r).length := List.length_map ..
  refine wC.eq_fz (wp_run (d := d141) (hΓ _ _ rfl) rfl ?_)
  generalize callF Γ L (k + 4) = cal at *
  unfold d141
  repeat infer_instance
  refine wif0 rfl ?_
  repeat infer_instance
  refine wo_split hu hl ?_
  repeat infer_instance
  refine wp_unp ?_
  repeat infer_instance
  refine wif0 (by show decide (((allW t r).length : Int) < ((tS (allW t r)).length : Int)) = false; rw [hLW, decide_eq_false (by omega)]) ?_
  repeat infer_instance
/-- Form.read of the fixed text with "-" before 0 -/
theorem read_zero (hL : 2 < L) :
    callF Γ L (k + 5) 141 [.fz (.str "- 0 x + 0")] = .ok (.fz (frmT 0 [])) [.no] := by
  have nx : NameOk "x" := ⟨by decide, by decide, by decide, by decide⟩
  have hu : ∀ u ∈ (⟨0, "x", true⟩ : WT) :: [⟨0, "", true⟩], u.Ok := fun u hu => by
    simp only [List.mem_cons, List.not_mem_nil, or_false] at hu
    rcases hu with rfl | rfl
    · exact ⟨by decide, fun z => (nomatch z), fun _ => nx⟩
    · exact ⟨by decide, fun z => (nomatch z), fun z => absurd rfl z⟩
  have c1 := words_gen hΓ (L := L) (k := k) (sg0 := -1) (W := ["-", "0", "x", "+", "0"]) (hd := ["-"]) (t := ⟨0, "x", true⟩) (r := [⟨0, "", true⟩]) hL (by decide) hu rfl (.inl ⟨rfl, rfl⟩) (by decide +kernel) (bW_head (hu _ List.mem_cons_self))
  have e1 : cW ((⟨0, "x", true⟩ : WT) :: [⟨0, "", true⟩]) = 0 := by decide
  have e2 : keptS (sumS [] (fW ((⟨0, "x", true⟩ : WT) :: [⟨0, "", true⟩]))) = [] := by decide +kernel
  rw [e1, e2] at c1
  have es : opF (.split " ") [.str "- 0 x + 0"] = some (R.ow (.lst (tS [("-" : PySem.Str), "0", "x", "+", "0"]))) := by
    show (if ((" " : PySem.Str).length == 0) = false ∧ ("- 0 x + 0" : PySem.Str).length + 2 ≤ sizeLine then some (R.ow (.lst ((Txt.split "- 0 x + 0" " ").map .str))) else none) = _
    have e3 : Txt.split "- 0 x + 0" " " = [("-" : PySem.Str), "0", "x", "+", "0"] := by
      have h := TL.split_join (y := " ") (s := 32) (S := []) (by decide) (by decide +kernel) (parts := ["-", "0", "x", "+", "0"]) (by simp) (by decide)
      have e4 : Txt.join " " ["-", "0", "x", "+", "0"] = "- 0 x + 0" := by decide +kernel
      rw [e4] at h
      exact h
    rw [e3]
    exact if_pos ⟨rfl, by decide⟩
  refine wC.eq_fz (wp_run (d := d141) (hΓ _ _ rfl) rfl ?_)
  generalize callF Γ L (k + 4) = cal at *
  unfold d141
  repeat infer_instance
  refine wif0 rfl (bp_nil ?_)
  refine bp_cons (wp_set (wp_op (dp_cons (wp_var rfl (dp_nil ⟨_, rfl, wO.of es ?_⟩)))))
  repeat infer_instance
  refine wp_unp ?_
  repeat infer_instance
  refine wif0 rfl ?_
  repeat infer_instance
end
end FrmP
set_option maxHeartbeats 2000000
namespace FrmP
open PySem PySem.Spec PyProof.Rows L2 Mi MiDF
local macro_rules
  | `(tactic| infer_instance) => `(tactic| first
    | refine dp_nil ?_ | refine dp_cons ?_ | refine wp_var rfl ?_ | refine wp_bo rfl ?_ | refine wp_c ?_ | refine wp_op ?_ | refine wp_lst ?_ | refine wp_tup ?_
    | refine wp_call ?_ | refine wp_prop ?_ | refine wp_meth ?_ | refine wp_mk ?_ | refine wp_bop ?_ | refine wp_uop ?_ | refine wp_fld ?_ | refine wp_spc ?_ | refine wp_ceq ?_ | refine wp_inn ?_ | refine wp_nt ?_ | refine wp_fst ?_ | refine jp_nil ?_ | refine wp_isc ?_ | refine wp_dsc rfl rfl ?_ | refine wp_dic0 ?_ | refine wp_dgt ?_ | refine wp_ccm ?_ | refine wp_anP ?_ | refine wp_orP ?_ | refine wp_ite ?_
    | refine sp_it ?_ | refine sp_rng1 ?_ | refine sp_enum ?_ | refine sp_zip ?_ | refine wp_lr ?_
    | refine bp_nil ?_ | refine bp_cons ?_ | refine wp_set ?_ | refine wp_ret ?_ | refine wp_stf ?_ | refine wp_par ?_ | refine wp_ife ?_ | refine wp_ex ?_
    | refine wk_go rfl ?_ | refine wC.fz (by assumption) ?_ | refine wC.ow (by assumption) ?_ | refine wp_stoS ?_ | refine wo_all ?_ | refine wo_idxS (by assumption) ?_ | refine wo_listS ?_ | refine wo_eqS (by assumption) (by assumption) ?_ | refine wo_neW (by assumption) ?_ | exact ⟨rfl, rfl⟩ | refine ⟨rfl, ?_⟩ | refine wO.of rfl ?_ | refine ap_nil ?_ | refine ap_one ?_
    | refine ⟨_, _, _, _, _, rfl, rfl, rfl, ?_⟩ | refine ⟨_, _, _, rfl, rfl, ?_⟩ | refine ⟨_, _, _, rfl, rfl, rfl, ?_⟩ | refine ⟨_, _, rfl, rfl, ?_⟩ | refine ⟨_, _, rfl, ?_⟩ | refine ⟨_, rfl, rfl, ?_⟩ | refine ⟨_, rfl, ?_⟩ | refine ⟨rfl, _, _, rfl, ?_⟩ | refine ⟨⟨_, rfl⟩, ?_⟩ | refine And.intro (fun _ z => nomatch z) ?_ | exact rfl)
/-! drawn numbers -/
section
variable {Γ : Nat → Option Def} {L k : Nat} (hΓ : ∀ f d, pg f = some d → Γ f = some d)
include hΓ
/-- a drawn number -/
theorem number_ok {o : O} {b : Nat} {m : Int} (B : Bg b o) (hb : 2 ≤ b) (m0 : 9 ≤ m) (m1 : m < 2 ^ 62) : ∃ n o', callF Γ L (k + 3) 26 [.ow o, .fz (.int m)] = .ok (.fz (.int n)) [.ow o', .no] ∧ Bg (b - 2) o' ∧ n.natAbs ≤ m.toNat := by
  have D : Draws (callF Γ L (k + 2)) 15 17 := draws_ok (hΓ 15 d15 rfl) (hΓ 17 d17 rfl)
  suffices h : wC (callF Γ L (k + 3)) 26 [.ow o, .fz (.int m)] fun r outs => ∃ n o', (r = .fz (.int n) ∧ outs = [.ow o', .no]) ∧ Bg (b - 2) o' ∧ n.natAbs ≤ m.toNat by
    unfold wC at h
    obtain ⟨r, outs, e, _, n, o', ⟨rfl, rfl⟩, h1, h2⟩ := h
    exact ⟨n, o', e, h1, h2⟩
  refine wp_run (d := d26) (hΓ _ _ rfl) rfl ?_
  generalize callF Γ L (k + 2) = cal at *
  unfold d26
  repeat infer_instance
  refine wc_of D B (by omega) rfl rfl fun y o1 hy B1 => ?_
  obtain ⟨n, rfl, n0, n1⟩ : ∃ n, y = .int n ∧ 0 ≤ n ∧ n ≤ m := by
    simp only [List.mem_cons, List.not_mem_nil, or_false] at hy
    rcases hy with rfl | rfl | rfl | rfl <;> exact ⟨_, rfl, by omega, by omega⟩
  have hm : wO .mul [.int 2, .int n] fun r => r = .fz (.int (2 * n)) := .of (by
    show (if (2 : Int).natAbs.log2 + n.natAbs.log2 < 1000000 then some (R.fz (.int (2 * n))) else none) = _
    have h3 : (2 : Int).natAbs.log2 = 1 := by decide
    have h4 : n.natAbs.log2 < 64 := by
      by_cases e : n.natAbs = 0
      · rw [e]; decide
      · rw [Nat.log2_lt e]; omega
    rw [h3]
    exact if_pos (by omega)) rfl
  unfold wO at hm
  obtain ⟨r, hm, rfl⟩ := hm
  repeat infer_instance
  refine wO.of hm ?_
  repeat infer_instance
  refine wc_take D B1 (by omega) (by omega) (by omega) fun d o2 h0 h1 B2 => ?_
  repeat infer_instance
  refine ⟨_, _, ⟨rfl, rfl⟩, B2, by omega⟩
end
end FrmP
set_option maxHeartbeats 2000000
namespace FrmP
open PySem PySem.Spec PyProof.Rows L2 Mi MiDF
local macro_rules
  | `(tactic| infer_instance) => `(tactic| first
    | refine dp_nil ?_ | refine dp_cons ?_ | refine wp_var rfl ?_ | refine wp_bo rfl ?_ | refine wp_c ?_ | refine wp_op ?_ | refine wp_lst ?_ | refine wp_tup ?_
    | refine wp_call ?_ | refine wp_prop ?_ | refine wp_meth ?_ | refine wp_mk ?_ | refine wp_bop ?_ | refine wp_uop ?_ | refine wp_fld ?_ | refine wp_spc ?_ | refine wp_ceq ?_ | refine wp_inn ?_ | refine wp_nt ?_ | refine wp_fst ?_ | refine jp_nil ?_ | refine wp_isc ?_ | refine wp_dsc rfl rfl ?_ | refine wp_dic0 ?_ | refine wp_dgt ?_ | refine wp_ccm ?_ | refine wp_anP ?_ | refine wp_orP ?_ | refine wp_ite ?_
    | refine sp_it ?_ | refine sp_rng1 ?_ | refine sp_enum ?_ | refine sp_zip ?_ | refine wp_lr ?_
    | refine bp_nil ?_ | refine bp_cons ?_ | refine wp_set ?_ | refine wp_ret ?_ | refine wp_stf ?_ | refine wp_par ?_ | refine wp_ife ?_ | refine wp_ex ?_
    | refine wk_go rfl ?_ | refine wC.fz (by assumption) ?_ | refine wC.ow (by assumption) ?_ | refine wp_stoS ?_ | refine wo_all ?_ | refine wo_idxS (by assumption) ?_ | refine wo_listS ?_ | refine wo_eqS (by assumption) (by assumption) ?_ | refine wo_neW (by assumption) ?_ | exact ⟨rfl, rfl⟩ | refine ⟨rfl, ?_⟩ | refine wO.of rfl ?_ | refine ap_nil ?_ | refine ap_one ?_
    | refine ⟨_, _, _, _, _, rfl, rfl, rfl, ?_⟩ | refine ⟨_, _, _, rfl, rfl, ?_⟩ | refine ⟨_, _, _, rfl, rfl, rfl, ?_⟩ | refine ⟨_, _, rfl, rfl, ?_⟩ | refine ⟨_, _, rfl, ?_⟩ | refine ⟨_, rfl, rfl, ?_⟩ | refine ⟨_, rfl, ?_⟩ | refine ⟨rfl, _, _, rfl, ?_⟩ | refine ⟨⟨_, rfl⟩, ?_⟩ | refine And.intro (fun _ z => nomatch z) ?_ | exact rfl)
/-! drawn names -/
theorem nd_le {α : Type} [DecidableEq α] : ∀ {l k : List α}, l.Nodup → (∀ x ∈ l, x ∈ k) → l.length ≤ k.length
  | [], k, _, _ => Nat.zero_le _
  | a :: l, k, hn, h => by
    have hn2 := List.nodup_cons.mp hn
    have ha := h a List.mem_cons_self
    have ih := nd_le (l := l) (k := k.erase a) hn2.2 fun x hx => by
      refine (List.mem_erase_of_ne fun e => ?_).mpr (h x (List.mem_cons_of_mem _ hx))
      subst e
      exact hn2.1 hx
    rw [List.length_erase_of_mem ha] at ih
    have : 0 < k.length := List.length_pos_of_mem ha
    show l.length + 1 ≤ k.length
    omega
theorem any_str (l : List PySem.Str) (w : PySem.Str) : ((tS l).any fun y => Mi.eqT y (.str w)) = decide (w ∈ l) := by
  induction l with
  | nil => rfl
  | cons a l ih =>
    show ((a == w) || ((tS l).any fun y => Mi.eqT y (.str w))) = _
    rw [ih]
    by_cases e : a = w
    · subst e
      simp
    · have e2 : (a == w) = false := beq_eq_false_iff_ne.mpr e
      rw [e2]
      have : w ≠ a := fun z => e z.symm
      simp [this]
abbrev keptN : List PySem.Str := ["and", "or", "not", "of", "let", "none", "odd", "open", "phase", "round", "self"]
def waysW (w u : PySem.Str) : List PySem.Str := w :: abcS.cps.toList.map fun c => u ++ ⟨#[c]⟩
def okW (found : List PySem.Str) (w : PySem.Str) : Bool := !decide (w ∈ found) && !decide (w ∈ keptN)
theorem push_inj {u : PySem.Str} {c d : Nat} (h : u ++ (⟨#[c]⟩ : PySem.Str) = u ++ ⟨#[d]⟩) : c = d := by
  have h1 : (u ++ (⟨#[c]⟩ : PySem.Str)).cps.toList = (u ++ (⟨#[d]⟩ : PySem.Str)).cps.toList := by rw [h]
  have e : ∀ c : Nat, (u ++ (⟨#[c]⟩ : PySem.Str)).cps.toList = u.cps.toList ++ [c] := fun c => by
    show (u.cps ++ #[c]).toList = _
    rw [Array.toList_append]
  rw [e, e] at h1
  have h2 := List.append_cancel_left h1
  cases h2
  rfl
theorem abc_nd : (abcS.cps.toList).Nodup := by decide
theorem abc_len : abcS.cps.toList.length = 26 := by decide
/-- some way is free -/
theorem ways_free {found : List PySem.Str} {w u : PySem.Str} (h : found.length < 15) : ∃ c ∈ abcS.cps.toList, okW found (u ++ ⟨#[c]⟩) = true := by
  by_cases hx : ∃ c ∈ abcS.cps.toList, okW found (u ++ ⟨#[c]⟩) = true
  · exact hx
  · have h1 : ∀ x ∈ abcS.cps.toList.map (fun c => u ++ (⟨#[c]⟩ : PySem.Str)), x ∈ found ++ keptN := fun x hm => by
      obtain ⟨c, hc, rfl⟩ := List.mem_map.mp hm
      have h2 : okW found (u ++ ⟨#[c]⟩) = false := by
        cases e : okW found (u ++ ⟨#[c]⟩) with
        | true => exact absurd ⟨c, hc, e⟩ hx
        | false => rfl
      unfold okW at h2
      rw [List.mem_append]
      by_cases e : u ++ (⟨#[c]⟩ : PySem.Str) ∈ found
      · exact .inl e
      · rw [decide_eq_false e] at h2
        by_cases e2 : u ++ (⟨#[c]⟩ : PySem.Str) ∈ keptN
        · exact .inr e2
        · rw [decide_eq_false e2] at h2
          cases h2
    have hn : (abcS.cps.toList.map (fun c => u ++ (⟨#[c]⟩ : PySem.Str))).Nodup := by
      refine List.Pairwise.map _ ?_ abc_nd
      intro a b hab z
      exact hab (push_inj z)
    have := nd_le hn h1
    rw [List.length_map, abc_len, List.length_append] at this
    have hk : keptN.length = 11 := rfl
    omega
theorem ways_ok {found : List PySem.Str} {w u : PySem.Str} (h : found.length < 15) (hw1 : 1 ≤ w.length) (hw6 : w.length ≤ 6) (hwl : ∀ c ∈ w.cps.toList, c ∈ abcS.cps.toList) (hu : u.length ≤ 5) (hul : ∀ c ∈ u.cps.toList, c ∈ abcS.cps.toList) :
    ∃ x xs, (waysW w u).filter (okW found) = x :: xs ∧ NameOk x ∧ x ∉ found := by
  obtain ⟨c, hc, hok⟩ := ways_free (found := found) (w := w) (u := u) h
  have hm : u ++ (⟨#[c]⟩ : PySem.Str) ∈ (waysW w u).filter (okW found) := List.mem_filter.mpr ⟨List.mem_cons_of_mem _ (List.mem_map.mpr ⟨c, hc, rfl⟩), hok⟩
  cases e : (waysW w u).filter (okW found) with
  | nil => rw [e] at hm; cases hm
  | cons x xs =>
    refine ⟨x, xs, rfl, ?_⟩
    have hx : x ∈ (waysW w u).filter (okW found) := by rw [e]; exact List.mem_cons_self
    obtain ⟨hx1, hx2⟩ := List.mem_filter.mp hx
    unfold okW at hx2
    rw [Bool.and_eq_true, Bool.not_eq_true', Bool.not_eq_true', decide_eq_false_iff_not, decide_eq_false_iff_not] at hx2
    refine ⟨?_, hx2.1⟩
    have hk : (keptT.any fun y => Mi.eqT y (.str x)) = false := by
      have := any_str keptN x
      rw [decide_eq_false hx2.2] at this
      exact this
    rcases List.mem_cons.mp hx1 with rfl | h1
    · exact ⟨hw1, hw6, hk, hwl⟩
    · obtain ⟨d, hd, rfl⟩ := List.mem_map.mp h1
      have hl : (u ++ (⟨#[d]⟩ : PySem.Str)).length = u.length + 1 := by rw [PySem.Str.length_append]; rfl
      refine ⟨by omega, by omega, hk, fun z hz => ?_⟩
      have e2 : (u ++ (⟨#[d]⟩ : PySem.Str)).cps.toList = u.cps.toList ++ [d] := by
        show (u.cps ++ #[d]).toList = _
        rw [Array.toList_append]
      rw [e2, List.mem_append] at hz
      rcases hz with hz | hz
      · exact hul z hz
      · rw [List.mem_singleton.mp hz]
        exact hd
end FrmP
set_option maxHeartbeats 2000000
namespace FrmP
open PySem PySem.Spec PyProof.Rows L2 Mi MiDF
local macro_rules
  | `(tactic| infer_instance) => `(tactic| first
    | refine dp_nil ?_ | refine dp_cons ?_ | refine wp_var rfl ?_ | refine wp_bo rfl ?_ | refine wp_c ?_ | refine wp_op ?_ | refine wp_lst ?_ | refine wp_tup ?_
    | refine wp_call ?_ | refine wp_prop ?_ | refine wp_meth ?_ | refine wp_mk ?_ | refine wp_bop ?_ | refine wp_uop ?_ | refine wp_fld ?_ | refine wp_spc ?_ | refine wp_ceq ?_ | refine wp_inn ?_ | refine wp_nt ?_ | refine wp_fst ?_ | refine jp_nil ?_ | refine wp_isc ?_ | refine wp_dsc rfl rfl ?_ | refine wp_dic0 ?_ | refine wp_dgt ?_ | refine wp_ccm ?_ | refine wp_anP ?_ | refine wp_orP ?_ | refine wp_ite ?_
    | refine sp_it ?_ | refine sp_rng1 ?_ | refine sp_enum ?_ | refine sp_zip ?_ | refine wp_lr ?_
    | refine bp_nil ?_ | refine bp_cons ?_ | refine wp_set ?_ | refine wp_ret ?_ | refine wp_stf ?_ | refine wp_par ?_ | refine wp_ife ?_ | refine wp_ex ?_
    | refine wk_go rfl ?_ | refine wC.fz (by assumption) ?_ | refine wC.ow (by assumption) ?_ | refine wp_stoS ?_ | refine wo_all ?_ | refine wo_idxS (by assumption) ?_ | refine wo_listS ?_ | refine wo_eqS (by assumption) (by assumption) ?_ | refine wo_neW (by assumption) ?_ | exact ⟨rfl, rfl⟩ | refine ⟨rfl, ?_⟩ | refine wO.of rfl ?_ | refine ap_nil ?_ | refine ap_one ?_
    | refine ⟨_, _, _, _, _, rfl, rfl, rfl, ?_⟩ | refine ⟨_, _, _, rfl, rfl, ?_⟩ | refine ⟨_, _, _, rfl, rfl, rfl, ?_⟩ | refine ⟨_, _, rfl, rfl, ?_⟩ | refine ⟨_, _, rfl, ?_⟩ | refine ⟨_, rfl, rfl, ?_⟩ | refine ⟨_, rfl, ?_⟩ | refine ⟨rfl, _, _, rfl, ?_⟩ | refine ⟨⟨_, rfl⟩, ?_⟩ | refine And.intro (fun _ z => nomatch z) ?_ | exact rfl)
/-! names are drawn -/
abbrev lt1 (c : Nat) : PySem.Str := ⟨#[c]⟩
theorem join_lt : ∀ l : List Nat, (Txt.join "" (l.map lt1)).cps.toList = l := fun l => by
  show TL.tl _ = _
  rw [TL.join_eq, TL.tl_join]
  have e : TL.tl ("" : PySem.Str) = [] := rfl
  rw [e, List.map_map]
  have h : ∀ l : List Nat, TL.joinL [] (l.map (TL.tl ∘ lt1)) = l := fun l => by
    induction l with
    | nil => rfl
    | cons a r ih =>
      cases r with
      | nil => rfl
      | cons b r =>
        show [a] ++ ([] ++ TL.joinL [] ((b :: r).map _)) = _
        rw [ih]; rfl
  exact h l
theorem strs_tS : ∀ l : List PySem.Str, strsT (tS l) = some l
  | [] => rfl
  | c :: l => by
    show (strsT (tS l)).map _ = _
    rw [strs_tS l]; rfl
theorem sum_lt : ∀ l : List Nat, ((l.map lt1).map (·.length)).sum = l.length
  | [] => rfl
  | c :: l => by
    show 1 + ((l.map lt1).map (·.length)).sum = l.length + 1
    rw [sum_lt l]; omega
theorem join_chr {l : List Nat} (h : l.length < 100) : joinF (.str "") (.lst (tS (l.map lt1))) = some (.fz (.str (Txt.join "" (l.map lt1)))) := by
  show (strsT (tS (l.map lt1))).bind (fun ys => if (ys.map (·.length)).sum + ys.length * PySem.Str.length "" ≤ 16777216 then fS (Txt.join "" ys) else none) = _
  rw [strs_tS]
  show (if ((l.map lt1).map (·.length)).sum + (l.map lt1).length * PySem.Str.length "" ≤ 16777216 then fS (Txt.join "" (l.map lt1)) else none) = _
  have z : PySem.Str.length "" = 0 := rfl
  rw [sum_lt, z]
  exact if_pos (by omega)
theorem wo_notinS {P : R → Prop} {x : PySem.Str} {l : List PySem.Str} (q : P (.fz (.bl (!decide (x ∈ l))))) : wO .notin [.str x, .lst (tS l)] P := .of (by
  show (if flatT (.str x) = true ∧ (tS l).all flatT = true then fB (!((tS l).any fun y => Mi.eqT y (.str x))) else none) = _
  rw [any_str]
  refine if_pos ⟨rfl, ?_⟩
  rw [List.all_eq_true]
  intro y hy
  obtain ⟨a, _, rfl⟩ := List.mem_map.mp hy
  rfl) q
theorem wc_ofs {cal : Nat → List Mi.Slot → CRes} {t f b : Nat} {o : O} {Q : R → List Mi.Slot → Prop} (D : Draws cal t f) (B : Bg b o) (hb : 0 < b) (q : ∀ c o', c ∈ abcS.cps.toList → Bg (b - 1) o' → Q (.fz (.str (lt1 c))) [.ow o', .no]) : wC cal f [.ow o, .fz (.str abcS)] Q := by
  have hi : ∀ d : Nat, d < 26 → ∃ c, c ∈ abcS.cps.toList ∧ idxF (.str abcS) (.int d) = some (.fz (.str (lt1 c))) := fun d hd => by
    have hd2 : d < abcS.cps.toList.length := by rw [abc_len]; exact hd
    refine ⟨abcS.cps.toList[d], List.getElem_mem hd2, ?_⟩
    show (if abcS.length ≤ sizeLine then (atI abcS.cps.toList (d : Int)).map fun c => R.fz (.str ⟨#[c]⟩) else none) = _
    rw [if_pos (by decide), atI_nat (x := abcS.cps.toList[d]) (n := d) rfl (List.getElem?_eq_getElem hd2)]
    rfl
  obtain ⟨d, y, o', e, g0, g1, B'⟩ := D.of (b := b - 1) (xs := .str abcS) (n := 26) (B.mono (by omega)) rfl (by omega) (by omega) fun d hd => by
    obtain ⟨c, _, h⟩ := hi d hd
    exact ⟨_, h⟩
  obtain ⟨c, hc, h⟩ := hi d g0
  rw [h] at g1
  cases g1
  exact wC.fz e (q c o' hc B')
theorem cut5 (z : PySem.Str) : (cutS z none (some 5)).length ≤ 5 ∧ ∀ c ∈ (cutS z none (some 5)).cps.toList, c ∈ z.cps.toList := by
  have e : (cutS z none (some 5)).cps.toList = ((z.cps.toList.drop 0).take (min 5 z.length - 0)) := rfl
  constructor
  · show (cutS z none (some 5)).cps.size ≤ 5
    rw [← Array.length_toList, e, List.length_take]
    omega
  · intro c hc
    rw [e] at hc
    exact List.mem_of_mem_take hc
section
variable {Γ : Nat → Option Def} {L k : Nat} (hΓ : ∀ f d, pg f = some d → Γ f = some d)
include hΓ
theorem kwords_ok : callF Γ L (k + 1) 54 [] = .ok (.ow (.lst keptT)) [] := by
  refine wC.eq_ow (wp_run (d := d54) (hΓ _ _ rfl) rfl ?_)
  generalize callF Γ L k = cal at *
  unfold d54
  repeat infer_instance
/-- names are drawn -/
theorem names50_ok {o : O} {b : Nat} {m : Int} (B : Bg b o) (hb : 60 ≤ b) (m0 : 0 ≤ m) (m1 : m ≤ 4) : ∃ ns o', callF Γ L (k + 3) 50 [.ow o, .fz (.int m)] = .ok (.ow (.lst (tS ns))) [.ow o', .no] ∧ Bg (b - 60) o' ∧ (ns.length : Int) = m ∧ ns.Nodup ∧ ∀ a ∈ ns, NameOk a := by
  have D : Draws (callF Γ L (k + 2)) 15 17 := draws_ok (hΓ 15 d15 rfl) (hΓ 17 d17 rfl)
  have c54 := kwords_ok hΓ (L := L) (k := k + 1)
  suffices h : wC (callF Γ L (k + 3)) 50 [.ow o, .fz (.int m)] fun r outs => ∃ ns o', (r = .ow (.lst (tS ns)) ∧ outs = [.ow o', .no]) ∧ Bg (b - 60) o' ∧ (ns.length : Int) = m ∧ ns.Nodup ∧ ∀ a ∈ ns, NameOk a by
    unfold wC at h
    obtain ⟨r, outs, e, _, n, o', ⟨rfl, rfl⟩, h1, h2⟩ := h
    exact ⟨n, o', e, h1, h2⟩
  refine wp_run (d := d50) (hΓ _ _ rfl) rfl ?_
  generalize callF Γ L (k + 2) = cal at *
  unfold d50
  have hz : sizeLine = 16777216 := rfl
  refine bp_cons (wp_parf ?_)
  refine wp_c ⟨_, rfl, wp_lst (dp_nil ?_)⟩
  refine ⟨_, _, rfl, ?_⟩
  refine ⟨rfl, _, rfl, ⟨Nat.le_of_ble_eq_true rfl, Nat.le_of_ble_eq_true rfl, by decide⟩, ?_⟩
  refine bp_cons (wp_fr ?_)
  repeat infer_instance
  refine ⟨⟨by omega, by omega⟩, fun xs mm => ∃ o' ns s4 s5 s7, mm = [.ow o', .fz (.int m), .fz (.str abcS), .ow (.lst (tS ns)), s4, s5, .no, s7, .no, .no] ∧ (ns.length : Int) + xs.length = m ∧ Bg (b - 8 * ns.length) o' ∧ ns.Nodup ∧ ∀ a ∈ ns, NameOk a, ⟨o, [], _, _, _, rfl, by rw [List.length_map, len_rngI]; simp; omega, B, List.Pairwise.nil, fun _ z => nomatch z⟩, ?_, ?_⟩
  · rintro x xs mm ⟨o1, ns, s4, s5, s7, rfl, hl, B1, hn, hk⟩
    simp only [List.length_cons] at hl
    refine ⟨_, rfl, ?_⟩
    unfold l50_0
    refine bp_cons (wp_set (wp_jn (wp_c ⟨_, rfl, wp_compI ?_⟩)))
    repeat infer_instance
    refine wc_of D B1 (by omega) rfl rfl fun y o2 hy B2 => ?_
    obtain ⟨n, rfl, n0, n1⟩ : ∃ n, y = .int n ∧ 0 < n ∧ n ≤ 6 := by
      simp only [List.mem_cons, List.not_mem_nil, or_false] at hy
      rcases hy with rfl | rfl | rfl <;> exact ⟨_, rfl, by omega, by omega⟩
    repeat infer_instance
    refine wc_take D B2 (by omega) (by omega) (by omega) fun d o3 h0 h1 B3 => ?_
    repeat infer_instance
    refine ⟨⟨by omega, by omega⟩, fun ys acc mm => ∃ o' cs, mm = [.ow o', .fz (.int m), .fz (.str abcS), .ow (.lst (tS ns)), .fz x, s5, .no, s7, .no, .no] ∧ acc = tS (cs.map lt1) ∧ cs.length + ys.length = (1 + d).toNat ∧ Bg (b - 8 * ns.length - 2 - cs.length) o' ∧ ∀ c ∈ cs, c ∈ abcS.cps.toList, rfl, ⟨o3, [], rfl, rfl, by rw [List.length_map, len_rngI]; simp, B3.mono (by simp; omega), fun _ z => nomatch z⟩, ?_, ?_⟩
    · rintro y ys acc mm ⟨o4, cs, rfl, rfl, hl4, B4, hc4⟩
      simp only [List.length_cons] at hl4
      refine ⟨_, rfl, ap_nil ⟨true, rfl, fun _ => ?_, fun z => by cases z⟩⟩
      unfold e50_0
      repeat infer_instance
      refine wc_ofs D B4 (by omega) fun c o5 hc B5 => ?_
      repeat infer_instance
      refine ⟨by unfold tS; rw [List.length_map, List.length_map]; omega, o5, cs ++ [c], rfl, by simp, by simp; omega, B5.mono (by simp; omega), fun z hz => ?_⟩
      rcases List.mem_append.mp hz with h | h
      · exact hc4 z h
      · rw [List.mem_singleton.mp h]; exact hc
    rintro acc mm ⟨o4, cs, rfl, rfl, hl4, B4, hc4⟩
    simp only [List.length_nil, Nat.add_zero] at hl4
    have hj := join_chr (l := cs) (by omega)
    have hwl := join_lt cs
    have hlen : (Txt.join "" (cs.map lt1)).length = cs.length := by
      show (Txt.join "" (cs.map lt1)).cps.size = _
      rw [← Array.length_toList, hwl]
    generalize Txt.join "" (cs.map lt1) = w at *
    refine ⟨_, _, rfl, hj, ?_⟩
    repeat infer_instance
    show wE cal _ [.ow o4, .fz (.int m), .fz (.str abcS), .ow (.lst (tS ns)), .fz x, .fz (.str w), .no, s7, .no, .no] _
    have habc : itemsT (.str abcS) = some (abcS.cps.toList.map fun c => T.str (lt1 c)) := by
      show (if abcS.length ≤ sizeLine then some (abcS.cps.toList.map fun c => T.str ⟨#[c]⟩) else none) = _
      exact if_pos (by decide)
    have hw6 : w.length ≤ 6 := by omega
    have hw1 : 1 ≤ w.length := by omega
    obtain ⟨hu5, hul⟩ := cut5 w
    have s1 : opF (.sl false true) [.str w, .int 5] = some (.fz (.str (cutS w none (some 5)))) := if_pos (by omega)
    generalize cutS w none (some 5) = u at *
    have s2 : ∀ c, opF .add [.str u, .str (lt1 c)] = some (.fz (.str (u ++ lt1 c))) := fun c => if_pos (by
      have : (lt1 c).length = 1 := rfl
      omega)
    refine wp_comp (α := Nat) (sp_it (wp_var rfl ⟨_, _, _, rfl, habc, ?_⟩))
    refine ⟨abcS.cps.toList, fun c => .str (lt1 c), fun _ => true, fun c => .str (u ++ lt1 c), rfl, rfl, rfl, fun c hc => ⟨_, rfl, rfl, ap_nil ⟨rfl, rfl⟩, fun _ => ?_⟩, by rw [abc_len]; omega, ?_⟩
    · unfold e50_1
      repeat infer_instance
      refine wO.of s1 ?_
      repeat infer_instance
      refine wO.of (s2 c) ?_
      repeat infer_instance
    rw [List.filter_eq_self.mpr fun _ _ => rfl]
    repeat infer_instance
    have hways : T.str w :: (abcS.cps.toList.map fun c => T.str (u ++ lt1 c)) = (waysW w u).map T.str := by
      unfold waysW
      rw [List.map_cons, List.map_map]
      rfl
    obtain ⟨z, zs, hz1, hz2, hz3⟩ := ways_ok (found := ns) (w := w) (u := u) (by omega) hw1 hw6 (by rw [hwl]; exact hc4) hu5 (fun c hc => by
      have := hul c hc
      rw [hwl] at this
      exact hc4 c this)
    have hwlen : (waysW w u).length = 27 := by
      unfold waysW
      rw [List.length_cons, List.length_map, abc_len]
    show wT cal L _ [.ow o4, .fz (.int m), .fz (.str abcS), .ow (.lst (tS ns)), .fz x, .fz (.str w), .no, .ow (.lst (T.str w :: (abcS.cps.toList.map fun c => T.str (u ++ lt1 c)))), .no, .no] _
    rw [hways]
    refine wp_app ⟨_, rfl, wp_op (dp_cons ?_)⟩
    refine wp_comp (α := PySem.Str) (sp_it (wp_bo rfl ⟨_, _, _, rfl, rfl, ?_⟩))
    refine ⟨waysW w u, T.str, okW ns, T.str, rfl, rfl, rfl, fun c hc => ⟨_, rfl, rfl, ?_, fun _ => ?_⟩, by rw [hwlen]; omega, ?_⟩
    · refine ap_one ?_
      refine wp_anP (wp_op ?_)
      repeat infer_instance
      refine wo_notinS ?_
      repeat infer_instance
      refine ⟨?_, rfl⟩
      have hk2 := any_str keptN c
      show R.fz (.bl (!decide (c ∈ ns) && !((tS keptN).any fun y => Mi.eqT y (.str c)))) = _
      rw [hk2]
      rfl
    · unfold e50_2
      repeat infer_instance
    rw [hz1]
    repeat infer_instance
    refine wo_idx0 ?_
    repeat infer_instance
    refine ⟨by unfold tS; rw [List.length_map]; omega, ?_⟩
    repeat infer_instance
    refine ⟨o4, ns ++ [z], .fz x, .fz (.str w), .fz (.lst ((waysW w u).map T.str)), ?_, by simp; omega, B4.mono (by simp; omega), ?_, fun a ha => ?_⟩
    · unfold tS
      rw [List.map_append]
      rfl
    · rw [List.nodup_append]
      refine ⟨hn, List.pairwise_singleton .., fun a ha c hc => ?_⟩
      rw [List.mem_singleton.mp hc]
      intro e
      subst e
      exact hz3 ha
    · rcases List.mem_append.mp ha with h | h
      · exact hk a h
      · rw [List.mem_singleton.mp h]; exact hz2
  rintro mm ⟨o1, ns, s4, s5, s7, rfl, hl, B1, hn, hk⟩
  simp only [List.length_nil] at hl
  repeat infer_instance
  exact ⟨_, _, ⟨rfl, rfl⟩, B1.mono (by omega), by omega, hn, hk⟩
end
end FrmP
set_option maxHeartbeats 2000000
namespace FrmP
open PySem PySem.Spec PyProof.Rows L2 Mi MiDF
local macro_rules
  | `(tactic| infer_instance) => `(tactic| first
    | refine dp_nil ?_ | refine dp_cons ?_ | refine wp_var rfl ?_ | refine wp_bo rfl ?_ | refine wp_c ?_ | refine wp_op ?_ | refine wp_lst ?_ | refine wp_tup ?_
    | refine wp_call ?_ | refine wp_prop ?_ | refine wp_meth ?_ | refine wp_mk ?_ | refine wp_bop ?_ | refine wp_uop ?_ | refine wp_fld ?_ | refine wp_spc ?_ | refine wp_ceq ?_ | refine wp_inn ?_ | refine wp_nt ?_ | refine wp_fst ?_ | refine jp_nil ?_ | refine wp_isc ?_ | refine wp_dsc rfl rfl ?_ | refine wp_dic0 ?_ | refine wp_dgt ?_ | refine wp_ccm ?_ | refine wp_anP ?_ | refine wp_orP ?_ | refine wp_ite ?_
    | refine sp_it ?_ | refine sp_rng1 ?_ | refine sp_enum ?_ | refine sp_zip ?_ | refine wp_lr ?_
    | refine bp_nil ?_ | refine bp_cons ?_ | refine wp_set ?_ | refine wp_ret ?_ | refine wp_stf ?_ | refine wp_par ?_ | refine wp_ife ?_ | refine wp_ex ?_
    | refine wk_go rfl ?_ | refine wC.fz (by assumption) ?_ | refine wC.ow (by assumption) ?_ | refine wp_stoS ?_ | refine wo_all ?_ | refine wo_idxS (by assumption) ?_ | refine wo_listS ?_ | refine wo_eqS (by assumption) (by assumption) ?_ | refine wo_neW (by assumption) ?_ | exact ⟨rfl, rfl⟩ | refine ⟨rfl, ?_⟩ | refine wO.of rfl ?_ | refine ap_nil ?_ | refine ap_one ?_
    | refine ⟨_, _, _, _, _, rfl, rfl, rfl, ?_⟩ | refine ⟨_, _, _, rfl, rfl, ?_⟩ | refine ⟨_, _, _, rfl, rfl, rfl, ?_⟩ | refine ⟨_, _, rfl, rfl, ?_⟩ | refine ⟨_, _, rfl, ?_⟩ | refine ⟨_, rfl, rfl, ?_⟩ | refine ⟨_, rfl, ?_⟩ | refine ⟨rfl, _, _, rfl, ?_⟩ | refine ⟨⟨_, rfl⟩, ?_⟩ | refine And.intro (fun _ z => nomatch z) ?_ | exact rfl)
/-! a drawn form -/
theorem putA_new {l : SD} {a : PySem.Str} {b : Int} (h : a ∉ keysS l) : putA l a b = l ++ [(a, b)] := by
  unfold putA
  refine if_neg fun z => ?_
  obtain ⟨q, hq, e⟩ := List.any_eq_true.mp z
  exact h (List.mem_map.mpr ⟨q, hq, of_decide_eq_true e⟩)
theorem puts_nd : ∀ (l acc : SD), (keysS (acc ++ l)).Nodup → putsT (dS acc) (dS l) = dS (acc ++ l)
  | [], acc, _ => by rw [List.append_nil]; rfl
  | q :: r, acc, h => by
    show putsT (putT (dS acc) (.inr q.1) (.int q.2)) (dS r) = _
    have h1 : q.1 ∉ keysS acc := by
      unfold keysS at *
      rw [List.map_append, List.nodup_append] at h
      intro z
      exact h.2.2 q.1 z q.1 (by simp) rfl
    have e2 : acc ++ q :: r = (acc ++ [q]) ++ r := by rw [List.append_assoc]; rfl
    rw [putT_dS, putA_new h1, puts_nd r _ (by rw [← e2]; exact h), e2]
theorem pairs_pr : ∀ l : SD, pairsT (l.map prT) = some (dS l)
  | [] => rfl
  | q :: r => by
    show (pairT (prT q)).bind (fun p => (pairsT (r.map prT)).map fun l => p :: l) = _
    rw [pairs_pr r]
    rfl
theorem wo_dictS {P : R → Prop} {l : SD} (h : (keysS l).Nodup) (q : P (.ow (.dic (dS l)))) : wO .dict [.lst (l.map prT)] P := .of (by
  show (pairsT (l.map prT)).map (fun kvs => R.ow (.dic (putsT [] kvs))) = _
  rw [pairs_pr]
  show some (R.ow (.dic (putsT (dS []) (dS l)))) = _
  rw [puts_nd l [] h]
  rfl) q
section
variable {Γ : Nat → Option Def} {L k : Nat} (hΓ : ∀ f d, pg f = some d → Γ f = some d)
include hΓ
/-- a drawn form's spec -/
theorem form51_ok {o : O} {b : Nat} {ns : List PySem.Str} {m : Int} (B : Bg b o) (hb : 30 ≤ b) (m0 : 9 ≤ m) (m1 : m < 2 ^ 62) (hn : ns.Nodup) (h4 : ns.length ≤ 4) (hk : ∀ a ∈ ns, NameOk a) :
    ∃ c l o', callF Γ L (k + 4) 51 [.ow o, .fz (.lst (tS ns)), .fz (.int m)] = .ok (.fz (.tup [.int c, .dic (dS l)])) [.ow o', .no, .no] ∧ Bg (b - 30) o' ∧ CanS l ∧ l.length ≤ 4 ∧ (∀ a ∈ keysS l, NameOk a) ∧ c.natAbs ≤ m.toNat ∧ ∀ q ∈ l, q.2.natAbs ≤ m.toNat := by
  have D : Draws (callF Γ L (k + 3)) 15 17 := draws_ok (hΓ 15 d15 rfl) (hΓ 17 d17 rfl)
  have N : ∀ {o : O} {b : Nat}, Bg b o → 2 ≤ b → ∃ n o', callF Γ L (k + 3) 26 [.ow o, .fz (.int m)] = .ok (.fz (.int n)) [.ow o', .no] ∧ Bg (b - 2) o' ∧ n.natAbs ≤ m.toNat := fun B hb => number_ok hΓ B hb m0 m1
  suffices h : wC (callF Γ L (k + 4)) 51 [.ow o, .fz (.lst (tS ns)), .fz (.int m)] fun r outs => ∃ c l o', (r = .fz (.tup [.int c, .dic (dS l)]) ∧ outs = [.ow o', .no, .no]) ∧ Bg (b - 30) o' ∧ CanS l ∧ l.length ≤ 4 ∧ (∀ a ∈ keysS l, NameOk a) ∧ c.natAbs ≤ m.toNat ∧ ∀ q ∈ l, q.2.natAbs ≤ m.toNat by
    unfold wC at h
    obtain ⟨r, outs, e, _, c, l, o', ⟨rfl, rfl⟩, h1, h2⟩ := h
    exact ⟨c, l, o', e, h1, h2⟩
  refine wp_run (d := d51) (hΓ _ _ rfl) rfl ?_
  generalize callF Γ L (k + 3) = cal at *
  unfold d51
  have hz : sizeLine = 16777216 := rfl
  refine bp_cons (wp_set (wp_compI ?_))
  repeat infer_instance
  refine wo_srtS (by omega) ?_
  repeat infer_instance
  have hpm := sortT_perm ns
  have hasc := sortT_asc hn
  have hlen : (sortT ns).length = ns.length := hpm.length_eq
  refine ⟨fun xs acc mm => ∃ (o' : O) (l : SD) (as dn : List PySem.Str), mm = [.ow o', .fz (.lst (tS ns)), .fz (.int m), .no, .no, .no] ∧ xs = as.map T.str ∧ acc = l.map prT ∧ dn ++ as = sortT ns ∧ (keysS l).Sublist dn ∧ Bg (b - 3 * dn.length) o' ∧ ∀ q ∈ l, q.2.natAbs ≤ m.toNat, rfl, ⟨o, [], sortT ns, [], rfl, rfl, rfl, rfl, List.Sublist.refl _, B, fun _ z => nomatch z⟩, ?_, ?_⟩
  · rintro x xs acc mm ⟨o1, l, as, dn, rfl, e, rfl, hd, hs, B1, hq⟩
    cases as with
    | nil => cases e
    | cons a as =>
      cases e
      have hdl : dn.length + (as.length + 1) = ns.length := by rw [← hlen, ← hd, List.length_append]; rfl
      have hll : l.length ≤ dn.length := by
        have := hs.length_le
        unfold keysS at this
        rw [List.length_map] at this
        exact this
      refine ⟨_, rfl, ap_one ?_⟩
      repeat infer_instance
      refine wc_take D B1 (by omega) (by omega) (by omega) fun d o2 h0 h1 B2 => ?_
      repeat infer_instance
      have hd9 : (dn ++ [a]) ++ as = sortT ns := by rw [List.append_assoc]; exact hd
      refine ⟨fun _ => ?_, fun _ => ⟨o2, l, as, dn ++ [a], rfl, rfl, rfl, hd9, hs.trans (List.sublist_append_left ..), B2.mono (by simp; omega), hq⟩⟩
      unfold e51_0
      repeat infer_instance
      obtain ⟨n, o3, e3, B3, hn3⟩ := N B2 (by omega)
      refine wC.fz e3 ?_
      repeat infer_instance
      refine ⟨by rw [List.length_map]; omega, o3, l ++ [(a, n)], as, dn ++ [a], rfl, rfl, by simp, hd9, ?_, B3.mono (by simp; omega), fun q hm => ?_⟩
      · unfold keysS
        rw [List.map_append]
        exact List.Sublist.append hs (List.Sublist.refl _)
      · rcases List.mem_append.mp hm with h | h
        · exact hq q h
        · rw [List.mem_singleton.mp h]; exact hn3
  rintro acc mm ⟨o1, l, as, dn, rfl, e, rfl, hd, hs, B1, hq⟩
  have has : as = [] := by
    cases as with
    | nil => rfl
    | cons a r => cases e
  subst has
  rw [List.append_nil] at hd
  subst hd
  repeat infer_instance
  obtain ⟨c, o2, e2, B2, hc⟩ := N B1 (by omega)
  refine wC.fz e2 ?_
  repeat infer_instance
  show wE cal _ [.ow o2, .fz (.lst (tS ns)), .fz (.int m), .ow (.lst (l.map prT)), .no, .no] _
  have hll : l.length ≤ 4 := by
    have := hs.length_le
    unfold keysS at this
    rw [List.length_map] at this
    omega
  have hsub : ∀ P : PySem.Str × Int → Bool, (keysS (l.filter P)).Sublist (sortT ns) := fun P => (List.Sublist.map _ List.filter_sublist).trans hs
  refine wp_comp (α := PySem.Str × Int) (sp_it (wp_bo rfl ⟨_, _, _, rfl, rfl, ?_⟩))
  refine ⟨l, prT, fun q => !(q.2 == 0), prT, rfl, rfl, rfl, fun q hm => ⟨_, rfl, rfl, ap_one ?_, fun _ => ?_⟩, by omega, ?_⟩
  · repeat infer_instance
  · unfold e51_1
    repeat infer_instance
  repeat infer_instance
  refine wo_dictS ((hsub _).nodup (hasc.imp fun z => z.2)) ?_
  repeat infer_instance
  refine ⟨c, _, o2, ⟨rfl, rfl⟩, B2.mono (by omega), ⟨hasc.sublist (hsub _), fun q hm => ?_⟩, ?_, fun a ha => ?_, hc, fun q hm => hq q (List.mem_filter.mp hm).1⟩
  · have := (List.mem_filter.mp hm).2
    simpa using this
  · exact Nat.le_trans (List.length_filter_le ..) hll
  · exact hk a (hpm.mem_iff.mp ((hsub _).subset ha))
end
end FrmP
set_option maxHeartbeats 2000000
namespace FrmP
open PySem PySem.Spec PyProof.Rows L2 Mi MiDF
local macro_rules
  | `(tactic| infer_instance) => `(tactic| first
    | refine dp_nil ?_ | refine dp_cons ?_ | refine wp_var rfl ?_ | refine wp_bo rfl ?_ | refine wp_c ?_ | refine wp_op ?_ | refine wp_lst ?_ | refine wp_tup ?_
    | refine wp_call ?_ | refine wp_prop ?_ | refine wp_meth ?_ | refine wp_mk ?_ | refine wp_bop ?_ | refine wp_uop ?_ | refine wp_fld ?_ | refine wp_spc ?_ | refine wp_ceq ?_ | refine wp_inn ?_ | refine wp_nt ?_ | refine wp_fst ?_ | refine jp_nil ?_ | refine wp_isc ?_ | refine wp_dsc rfl rfl ?_ | refine wp_dic0 ?_ | refine wp_dgt ?_ | refine wp_ccm ?_ | refine wp_anP ?_ | refine wp_orP ?_ | refine wp_ite ?_
    | refine sp_it ?_ | refine sp_rng1 ?_ | refine sp_enum ?_ | refine sp_zip ?_ | refine wp_lr ?_
    | refine bp_nil ?_ | refine bp_cons ?_ | refine wp_set ?_ | refine wp_ret ?_ | refine wp_stf ?_ | refine wp_par ?_ | refine wp_ife ?_ | refine wp_ex ?_
    | refine wk_go rfl ?_ | refine wC.fz (by assumption) ?_ | refine wC.ow (by assumption) ?_ | refine wp_stoS ?_ | refine wo_all ?_ | refine wo_idxS (by assumption) ?_ | refine wo_listS ?_ | refine wo_eqS (by assumption) (by assumption) ?_ | refine wo_neW (by assumption) ?_ | exact ⟨rfl, rfl⟩ | refine ⟨rfl, ?_⟩ | refine wO.of rfl ?_ | refine ap_nil ?_ | refine ap_one ?_
    | refine ⟨_, _, _, _, _, rfl, rfl, rfl, ?_⟩ | refine ⟨_, _, _, rfl, rfl, ?_⟩ | refine ⟨_, _, _, rfl, rfl, rfl, ?_⟩ | refine ⟨_, _, rfl, rfl, ?_⟩ | refine ⟨_, _, rfl, ?_⟩ | refine ⟨_, rfl, rfl, ?_⟩ | refine ⟨_, rfl, ?_⟩ | refine ⟨rfl, _, _, rfl, ?_⟩ | refine ⟨⟨_, rfl⟩, ?_⟩ | refine And.intro (fun _ z => nomatch z) ?_ | exact rfl)
/-! rows and their totals -/
abbrev RW := List (Int × PySem.Str)
def cR : RW → Int
  | [] => 0
  | t :: r => (if t.2 = "" then t.1 else 0) + cR r
def tR : RW → PySem.Str → Int
  | [], _ => 0
  | t :: r, x => (if t.2 = x then t.1 else 0) + tR r x
theorem cR_perm {a b : RW} (h : a.Perm b) : cR a = cR b := by
  induction h with
  | nil => rfl
  | cons x _ ih => show _ + _ = _ + _; rw [ih]
  | swap x y l => show _ + (_ + _) = _ + (_ + _); omega
  | trans _ _ h1 h2 => exact h1.trans h2
theorem tR_perm {a b : RW} (h : a.Perm b) (x : PySem.Str) : tR a x = tR b x := by
  induction h with
  | nil => rfl
  | cons y _ ih => show _ + _ = _ + _; rw [ih]
  | swap y z l => show _ + (_ + _) = _ + (_ + _); omega
  | trans _ _ h1 h2 => exact h1.trans h2
theorem cR_app (a b : RW) : cR (a ++ b) = cR a + cR b := by
  induction a with
  | nil => show cR b = 0 + _; omega
  | cons t r ih => show _ + cR (r ++ b) = (_ + cR r) + _; rw [ih]; omega
theorem tR_app (a b : RW) (x : PySem.Str) : tR (a ++ b) x = tR a x + tR b x := by
  induction a with
  | nil => show tR b x = 0 + _; omega
  | cons t r ih => show _ + tR (r ++ b) x = (_ + tR r x) + _; rw [ih]; omega
/-- a row put at a place -/
theorem ins_perm (xs : RW) (t : Int × PySem.Str) (j : Nat) : (xs.take j ++ [t] ++ xs.drop j).Perm (t :: xs) := by
  have h1 : (xs.take j ++ [t] ++ xs.drop j).Perm ([t] ++ xs.take j ++ xs.drop j) := List.Perm.append_right _ List.perm_append_comm
  rw [List.append_assoc [t], List.take_append_drop] at h1
  exact h1
/-- a pair that cancels -/
theorem pair_tR (d : Int) (a x : PySem.Str) : tR [(d, a), (0 - d, a)] x = 0 := by
  show (if a = x then d else 0) + ((if a = x then 0 - d else 0) + 0) = 0
  split <;> omega
theorem pair_cR (d : Int) (a : PySem.Str) : cR [(d, a), (0 - d, a)] = 0 := by
  show (if a = "" then d else 0) + ((if a = "" then 0 - d else 0) + 0) = 0
  split <;> omega
def rowsW (ws : List WT) : RW := ws.map fun w => (w.n, w.a)
theorem cW_rows : ∀ ws : List WT, cW ws = cR (rowsW ws)
  | [] => rfl
  | t :: r => by show _ + cW r = _ + cR (rowsW r); rw [cW_rows r]
theorem tot_app (a b : SD) (x : PySem.Str) : totS (a ++ b) x = totS a x + totS b x := by
  induction a with
  | nil => show totS b x = 0 + _; omega
  | cons t r ih =>
    rw [List.cons_append, totS, totS, ih]
    omega
theorem fW_rows (x : PySem.Str) (hx : x ≠ "") : ∀ ws : List WT, totS (fW ws) x = tR (rowsW ws) x
  | [] => rfl
  | t :: r => by
    show totS (_ ++ fW r) x = (if t.a = x then t.n else 0) + tR (rowsW r) x
    rw [tot_app, fW_rows x hx r]
    by_cases e : t.a = ""
    · rw [if_pos e, if_neg (fun z : t.a = x => hx (z.symm.trans e))]
      rfl
    · rw [if_neg e]
      by_cases e2 : t.a = x <;> simp [totS, e2]
theorem fW_none : ∀ ws : List WT, totS (fW ws) "" = 0
  | [] => rfl
  | t :: r => by
    show totS (_ ++ fW r) "" = 0
    rw [tot_app, fW_none r]
    by_cases e : t.a = ""
    · rw [if_pos e]; rfl
    · rw [if_neg e]
      simp [totS, e]
end FrmP
set_option maxHeartbeats 2000000
namespace FrmP
open PySem PySem.Spec PyProof.Rows L2 Mi MiDF
local macro_rules
  | `(tactic| infer_instance) => `(tactic| first
    | refine dp_nil ?_ | refine dp_cons ?_ | refine wp_var rfl ?_ | refine wp_bo rfl ?_ | refine wp_c ?_ | refine wp_op ?_ | refine wp_lst ?_ | refine wp_tup ?_
    | refine wp_call ?_ | refine wp_prop ?_ | refine wp_meth ?_ | refine wp_mk ?_ | refine wp_bop ?_ | refine wp_uop ?_ | refine wp_fld ?_ | refine wp_spc ?_ | refine wp_ceq ?_ | refine wp_inn ?_ | refine wp_nt ?_ | refine wp_fst ?_ | refine jp_nil ?_ | refine wp_isc ?_ | refine wp_dsc rfl rfl ?_ | refine wp_dic0 ?_ | refine wp_dgt ?_ | refine wp_ccm ?_ | refine wp_anP ?_ | refine wp_orP ?_ | refine wp_ite ?_
    | refine sp_it ?_ | refine sp_rng1 ?_ | refine sp_enum ?_ | refine sp_zip ?_ | refine wp_lr ?_
    | refine bp_nil ?_ | refine bp_cons ?_ | refine wp_set ?_ | refine wp_ret ?_ | refine wp_stf ?_ | refine wp_par ?_ | refine wp_ife ?_ | refine wp_ex ?_
    | refine wk_go rfl ?_ | refine wC.fz (by assumption) ?_ | refine wC.ow (by assumption) ?_ | refine wp_stoS ?_ | refine wo_all ?_ | refine wo_idxS (by assumption) ?_ | refine wo_listS ?_ | refine wo_eqS (by assumption) (by assumption) ?_ | refine wo_neW (by assumption) ?_ | exact ⟨rfl, rfl⟩ | refine ⟨rfl, ?_⟩ | refine wO.of rfl ?_ | refine ap_nil ?_ | refine ap_one ?_
    | refine ⟨_, _, _, _, _, rfl, rfl, rfl, ?_⟩ | refine ⟨_, _, _, rfl, rfl, ?_⟩ | refine ⟨_, _, _, rfl, rfl, rfl, ?_⟩ | refine ⟨_, _, rfl, rfl, ?_⟩ | refine ⟨_, _, rfl, ?_⟩ | refine ⟨_, rfl, rfl, ?_⟩ | refine ⟨_, rfl, ?_⟩ | refine ⟨rfl, _, _, rfl, ?_⟩ | refine ⟨⟨_, rfl⟩, ?_⟩ | refine And.intro (fun _ z => nomatch z) ?_ | exact rfl)
/-! the fixed texts -/
theorem nm_x : NameOk "x" := ⟨by decide, by decide, by decide, by decide⟩
theorem nm_y : NameOk "y" := ⟨by decide, by decide, by decide, by decide⟩
abbrev f1t : WT := ⟨2, "x", true⟩
abbrev f1r : List WT := [⟨-1, "y", false⟩, ⟨3, "", true⟩, ⟨-1, "x", false⟩]
abbrev f2t : WT := ⟨0, "x", true⟩
abbrev f3t : WT := ⟨1, "x", true⟩
theorem f1_ok : ∀ u ∈ f1t :: f1r, u.Ok := fun u hu => by
  simp only [List.mem_cons, List.not_mem_nil, or_false] at hu
  rcases hu with rfl | rfl | rfl | rfl
  · exact ⟨by decide, fun z => (nomatch z), fun _ => nm_x⟩
  · exact ⟨by decide, fun _ => ⟨by decide, by decide⟩, fun _ => nm_y⟩
  · exact ⟨by decide, fun z => (nomatch z), fun z => absurd rfl z⟩
  · exact ⟨by decide, fun _ => ⟨by decide, by decide⟩, fun _ => nm_x⟩
theorem f3_ok : ∀ u ∈ f3t :: [], u.Ok := fun u hu => by
  cases List.mem_singleton.mp hu
  exact ⟨by decide, fun z => (nomatch z), fun _ => nm_x⟩
theorem f1_text : Txt.join " " (allW f1t f1r) = "2 x - y + 3 - x" := by decide +kernel
theorem f3_text : Txt.join " " (allW f3t []) = "1 x" := by decide +kernel
theorem f1_c : cW (f1t :: f1r) = 3 := by decide
theorem f1_l : keptS (sumS [] (fW (f1t :: f1r))) = [(("x" : PySem.Str), (1 : Int)), (("y" : PySem.Str), (-1 : Int))] := by decide +kernel
theorem f3_l : keptS (sumS [] (fW (f3t :: []))) = [(("x" : PySem.Str), (1 : Int))] := by decide +kernel
end FrmP
set_option maxHeartbeats 2000000
namespace FrmP
open PySem PySem.Spec PyProof.Rows L2 Mi MiDF
local macro_rules
  | `(tactic| infer_instance) => `(tactic| first
    | refine dp_nil ?_ | refine dp_cons ?_ | refine wp_var rfl ?_ | refine wp_bo rfl ?_ | refine wp_c ?_ | refine wp_op ?_ | refine wp_lst ?_ | refine wp_tup ?_
    | refine wp_call ?_ | refine wp_prop ?_ | refine wp_meth ?_ | refine wp_mk ?_ | refine wp_bop ?_ | refine wp_uop ?_ | refine wp_fld ?_ | refine wp_spc ?_ | refine wp_ceq ?_ | refine wp_inn ?_ | refine wp_nt ?_ | refine wp_fst ?_ | refine jp_nil ?_ | refine wp_isc ?_ | refine wp_dsc rfl rfl ?_ | refine wp_dic0 ?_ | refine wp_dgt ?_ | refine wp_ccm ?_ | refine wp_anP ?_ | refine wp_orP ?_ | refine wp_ite ?_
    | refine sp_it ?_ | refine sp_rng1 ?_ | refine sp_enum ?_ | refine sp_zip ?_ | refine wp_lr ?_
    | refine bp_nil ?_ | refine bp_cons ?_ | refine wp_set ?_ | refine wp_ret ?_ | refine wp_stf ?_ | refine wp_par ?_ | refine wp_ife ?_ | refine wp_ex ?_
    | refine wk_go rfl ?_ | refine wC.fz (by assumption) ?_ | refine wC.ow (by assumption) ?_ | refine wp_stoS ?_ | refine wo_all ?_ | refine wo_idxS (by assumption) ?_ | refine wo_listS ?_ | refine wo_eqS (by assumption) (by assumption) ?_ | refine wo_neW (by assumption) ?_ | exact ⟨rfl, rfl⟩ | refine ⟨rfl, ?_⟩ | refine wO.of rfl ?_ | refine ap_nil ?_ | refine ap_one ?_
    | refine ⟨_, _, _, _, _, rfl, rfl, rfl, ?_⟩ | refine ⟨_, _, _, rfl, rfl, ?_⟩ | refine ⟨_, _, _, rfl, rfl, rfl, ?_⟩ | refine ⟨_, _, rfl, rfl, ?_⟩ | refine ⟨_, _, rfl, ?_⟩ | refine ⟨_, rfl, rfl, ?_⟩ | refine ⟨_, rfl, ?_⟩ | refine ⟨rfl, _, _, rfl, ?_⟩ | refine ⟨⟨_, rfl⟩, ?_⟩ | refine And.intro (fun _ z => nomatch z) ?_ | exact rfl)
/-! words, row by row -/
def allL : List WT → List PySem.Str
  | [] => []
  | t :: r => allW t r
theorem lW_app (r : List WT) (u : WT) : lW (r ++ [u]) = lW r ++ (sgnS u.n :: bW u) := by
  unfold lW
  rw [List.flatMap_append]
  simp
theorem allL_one (u : WT) : allL [u] = (if u.n < 0 then [("-" : PySem.Str)] else []) ++ bW u := by
  show (if u.n < 0 then [("-" : PySem.Str)] else []) ++ (bW u ++ lW []) = _
  have e : lW [] = [] := rfl
  rw [e, List.append_nil]
theorem allL_app {ws : List WT} (h : ws ≠ []) (u : WT) : allL (ws ++ [u]) = allL ws ++ (sgnS u.n :: bW u) := by
  cases ws with
  | nil => exact absurd rfl h
  | cons t r =>
    show (if t.n < 0 then [("-" : PySem.Str)] else []) ++ (bW t ++ lW (r ++ [u])) = ((if t.n < 0 then [("-" : PySem.Str)] else []) ++ (bW t ++ lW r)) ++ _
    rw [lW_app, List.append_assoc, List.append_assoc]
theorem allL_nil {ws : List WT} (hu : ∀ u ∈ ws, u.Ok) : allL ws = [] ↔ ws = [] := by
  cases ws with
  | nil => exact ⟨fun _ => rfl, fun _ => rfl⟩
  | cons t r => exact ⟨fun z => absurd z (allW_ne (hu t List.mem_cons_self) r), fun z => nomatch z⟩
end FrmP
set_option maxHeartbeats 2000000
namespace FrmP
open PySem PySem.Spec PyProof.Rows L2 Mi MiDF
local macro_rules
  | `(tactic| infer_instance) => `(tactic| first
    | refine dp_nil ?_ | refine dp_cons ?_ | refine wp_var rfl ?_ | refine wp_bo rfl ?_ | refine wp_c ?_ | refine wp_op ?_ | refine wp_lst ?_ | refine wp_tup ?_
    | refine wp_call ?_ | refine wp_prop ?_ | refine wp_meth ?_ | refine wp_mk ?_ | refine wp_bop ?_ | refine wp_uop ?_ | refine wp_fld ?_ | refine wp_spc ?_ | refine wp_ceq ?_ | refine wp_inn ?_ | refine wp_nt ?_ | refine wp_fst ?_ | refine jp_nil ?_ | refine wp_isc ?_ | refine wp_dsc rfl rfl ?_ | refine wp_dic0 ?_ | refine wp_dgt ?_ | refine wp_ccm ?_ | refine wp_anP ?_ | refine wp_orP ?_ | refine wp_ite ?_
    | refine sp_it ?_ | refine sp_rng1 ?_ | refine sp_enum ?_ | refine sp_zip ?_ | refine wp_lr ?_
    | refine bp_nil ?_ | refine bp_cons ?_ | refine wp_set ?_ | refine wp_ret ?_ | refine wp_stf ?_ | refine wp_par ?_ | refine wp_ife ?_ | refine wp_ex ?_
    | refine wk_go rfl ?_ | refine wC.fz (by assumption) ?_ | refine wC.ow (by assumption) ?_ | refine wp_stoS ?_ | refine wo_all ?_ | refine wo_idxS (by assumption) ?_ | refine wo_listS ?_ | refine wo_eqS (by assumption) (by assumption) ?_ | refine wo_neW (by assumption) ?_ | exact ⟨rfl, rfl⟩ | refine ⟨rfl, ?_⟩ | refine wO.of rfl ?_ | refine ap_nil ?_ | refine ap_one ?_
    | refine ⟨_, _, _, _, _, rfl, rfl, rfl, ?_⟩ | refine ⟨_, _, _, rfl, rfl, ?_⟩ | refine ⟨_, _, _, rfl, rfl, rfl, ?_⟩ | refine ⟨_, _, rfl, rfl, ?_⟩ | refine ⟨_, _, rfl, ?_⟩ | refine ⟨_, rfl, rfl, ?_⟩ | refine ⟨_, rfl, ?_⟩ | refine ⟨rfl, _, _, rfl, ?_⟩ | refine ⟨⟨_, rfl⟩, ?_⟩ | refine And.intro (fun _ z => nomatch z) ?_ | exact rfl)
theorem small_of {n : Int} (h : n.natAbs < 10 ^ 18) : Small (absI n) := by
  unfold Small
  have e : (absI n).natAbs = n.natAbs := by unfold absI; split <;> omega
  rw [e]
  have := log_le h
  omega
theorem canW (hi : ∀ i : Int, PyData.canLay0 (.str (istr i)) = true) (hk : ∀ a : PySem.Str, NameOk a → PyData.canLay0 (.str a) = true) : ∀ {ws : List WT}, (∀ u ∈ ws, u.Ok) → WOk (allL ws) := by
  have hb : ∀ {u : WT}, u.Ok → WOk (bW u) := fun {u} hu w hw => by
    unfold bW at hw
    rw [List.mem_append] at hw
    rcases hw with hw | hw
    · split at hw
      · rw [List.mem_singleton.mp hw]; exact hi _
      · cases hw
    · split at hw
      · cases hw
      · rename_i e
        rw [List.mem_singleton.mp hw]
        exact hk _ (hu.nm e)
  intro ws hu
  cases ws with
  | nil => exact fun w hw => by cases hw
  | cons t r =>
    intro w hw
    have hw : w ∈ (if t.n < 0 then [("-" : PySem.Str)] else []) ++ (bW t ++ lW r) := hw
    rw [List.mem_append, List.mem_append] at hw
    rcases hw with h | h | h
    · split at h
      · rw [List.mem_singleton.mp h]; decide +kernel
      · cases h
    · exact hb (hu t List.mem_cons_self) w h
    · unfold lW at h
      rw [List.mem_flatMap] at h
      obtain ⟨u, h1, h⟩ := h
      rcases List.mem_cons.mp h with rfl | h
      · unfold sgnS
        split <;> decide +kernel
      · exact hb (hu u (List.mem_cons_of_mem _ h1)) w h
theorem bW_len (u : WT) : (bW u).length ≤ 2 := by
  unfold bW
  rw [List.length_append]
  split <;> split <;> simp
theorem allL_len : ∀ ws : List WT, (allL ws).length ≤ 3 * ws.length
  | [] => Nat.le_refl _
  | t :: r => by
    have h1 := bW_len t
    have h2 : ∀ r : List WT, (lW r).length ≤ 3 * r.length := by
      intro r
      induction r with
      | nil => exact Nat.le_refl _
      | cons u r ih =>
        have e : lW (u :: r) = (sgnS u.n :: bW u) ++ lW r := rfl
        have := bW_len u
        rw [e, List.length_append, List.length_cons, List.length_cons]
        omega
    have h3 := h2 r
    show ((if t.n < 0 then [("-" : PySem.Str)] else []) ++ (bW t ++ lW r)).length ≤ _
    rw [List.length_append, List.length_append, List.length_cons]
    split <;> simp <;> omega
/-- a term more -/
theorem allL_step {ws : List WT} (hw : ∀ u ∈ ws, u.Ok) (u : WT) : allL (ws ++ [u]) = (sgW (allL ws) (u.n, u.a) ++ (if u.sh = true then [istr (absI u.n)] else [])) ++ naW (u.n, u.a) := by
  have e1 : naW (u.n, u.a) = if u.a = "" then [] else [u.a] := by
    unfold naW
    by_cases e : u.a = ""
    · rw [if_pos e, decide_eq_true e]; rfl
    · rw [if_neg e, decide_eq_false e]; rfl
  rw [e1, List.append_assoc]
  show _ = sgW (allL ws) (u.n, u.a) ++ bW u
  unfold sgW
  by_cases e : ws = []
  · subst e
    rw [List.nil_append, allL_one]
    show _ = ([] ++ _) ++ _
    rw [List.nil_append]
    congr 1
    have : decide (allL [] = []) = true := rfl
    rw [this]
    by_cases hn : u.n < 0
    · rw [if_pos hn, decide_eq_true hn]
      show _ = [sgnS u.n]
      unfold sgnS
      rw [if_pos hn]
    · rw [if_neg hn, decide_eq_false hn]
      rfl
  · rw [allL_app e]
    have : decide (allL ws = []) = false := decide_eq_false fun z => e ((allL_nil hw).mp z)
    rw [this]
    rw [if_pos (by simp), List.append_assoc]
    rfl
/-- the sign -/
theorem sp_sign {cal : Nat → List Mi.Slot → CRes} {L : Nat} {D : En} {s0 s1 s2 s3 s4 s6 s8 : Mi.Slot} {ws : List PySem.Str} {n : Int} {a : PySem.Str} (hw : WOk ws) (hl : ws.length < 1000)
    (q : D.nx [s0, s1, s2, s3, s4, .fz (.int n), s6, .ow (.lst (tS (sgW ws (n, a)))), s8]) :
    wT cal L (.ife (.or (.op .ne (.cons (.var 7) (.cons (.lst .nil) .nil))) (.op .lt (.cons (.var 5) (.cons (.c (.int 0)) .nil)))) (.cons (.app 7 (.ite (.op .lt (.cons (.var 5) (.cons (.c (.int 0)) .nil))) (.c (.str "-")) (.c (.str "+")))) .nil) .nil) [s0, s1, s2, s3, s4, .fz (.int n), s6, .ow (.lst (tS ws)), s8] D := by
  unfold sgW at q
  have eo : (!decide (ws = []) || decide (n < 0)) = (decide (n < 0) || !decide (ws = [])) := Bool.or_comm _ _
  repeat infer_instance
  show ((!decide (ws = []) || decide (n < 0)) = true → _) ∧ ((!decide (ws = []) || decide (n < 0)) = false → _)
  rw [eo]
  cases hb : (decide (n < 0) || !decide (ws = [])) with
  | false =>
    rw [if_neg (by rw [hb]; decide), List.append_nil] at q
    refine wif0 rfl ?_
    repeat infer_instance
    exact q
  | true =>
    rw [if_pos hb, ← tS_app] at q
    refine wif1 rfl ?_
    refine bp_cons (wp_app ⟨_, rfl, ?_⟩)
    repeat infer_instance
    by_cases hn0 : n < 0
    · refine wif1 (decide_eq_true hn0) ?_
      have e1 : sgnS n = "-" := if_pos hn0
      rw [e1] at q
      repeat infer_instance
      refine ⟨by unfold tS; rw [List.length_map, sizeLine_eq]; omega, ?_⟩
      repeat infer_instance
      exact q
    · refine wif0 (decide_eq_false hn0) ?_
      have e1 : sgnS n = "+" := if_neg hn0
      rw [e1] at q
      repeat infer_instance
      refine ⟨by unfold tS; rw [List.length_map, sizeLine_eq]; omega, ?_⟩
      repeat infer_instance
      exact q
/-- the number -/
theorem sp_num {cal : Nat → List Mi.Slot → CRes} {L : Nat} {D : En} {s1 s2 s4 s6 s8 : Mi.Slot} {ws : List PySem.Str} {n : Int} {a : PySem.Str} {o : O} {b : Nat} (Dr : Draws cal 15 17) (B : Bg b o) (hb : 0 < b) (hn : Small (absI n)) (hl : ws.length < 1000)
    (q : ∀ sh o', (sh = false → absI n = 1 ∧ a ≠ "") → Bg (b - 1) o' → D.nx [.ow o', s1, s2, .fz (.str a), s4, .fz (.int n), s6, .ow (.lst (tS (ws ++ if sh = true then [istr (absI n)] else []))), s8]) :
    wT cal L (.ife (.or (.op .eq (.cons (.var 3) (.cons (.c (.str "")) .nil))) (.or (.op .ne (.cons (.op .abs (.cons (.var 5) .nil)) (.cons (.c (.int 1)) .nil))) (.op .eq (.cons (.call 15 [true, false] (.cons (.var 0) (.cons (.c (.int 2)) .nil))) (.cons (.c (.int 0)) .nil))))) (.cons (.app 7 (.op .str (.cons (.op .abs (.cons (.var 5) .nil)) .nil))) .nil) .nil)
      [.ow o, s1, s2, .fz (.str a), s4, .fz (.int n), s6, .ow (.lst (tS ws)), s8] D := by
  have put : ∀ o', Bg (b - 1) o' → wB cal L (.cons (.app 7 (.op .str (.cons (.op .abs (.cons (.var 5) .nil)) .nil))) .nil) [.ow o', s1, s2, .fz (.str a), s4, .fz (.int n), s6, .ow (.lst (tS ws)), s8] D := fun o' B' => by
    have q := q true o' (fun z => nomatch z) B'
    rw [if_pos rfl, ← tS_app] at q
    refine bp_cons (wp_app ⟨_, rfl, ?_⟩)
    refine wp_op (dp_cons (wp_op (dp_cons (wp_var rfl (dp_nil ⟨_, rfl, wO.of rfl (dp_nil ⟨_, rfl, wO.of (str_int hn) ?_⟩)⟩)))))
    refine ⟨_, _, _, rfl, rfl, ?_, ?_⟩
    · unfold tS; rw [List.length_map, sizeLine_eq]; omega
    · repeat infer_instance
      exact q
  have no : ∀ o', absI n = 1 → a ≠ "" → Bg (b - 1) o' → wB cal L .nil [.ow o', s1, s2, .fz (.str a), s4, .fz (.int n), s6, .ow (.lst (tS ws)), s8] D := fun o' h1 h2 B' => by
    have q := q false o' (fun _ => ⟨h1, h2⟩) B'
    rw [if_neg (by decide), List.append_nil] at q
    exact bp_nil q
  refine wp_ife (wp_or (wp_op (dp_cons (wp_var rfl (dp_cons (wp_c (dp_nil ⟨_, rfl, wO.of rfl ⟨_, rfl, fun hk => ?_, fun hk => ?_⟩⟩)))))))
  · exact ⟨_, rfl, fun _ => put o (B.mono (by omega)), fun z => nomatch z⟩
  have ha : a ≠ "" := by
    have hk : (a == "") = false := hk
    rw [str_dec] at hk
    exact of_decide_eq_false hk
  refine wp_or (wp_op (dp_cons (wp_op (dp_cons (wp_var rfl (dp_nil ⟨_, rfl, wO.of rfl (dp_cons (wp_c (dp_nil ⟨_, rfl, wO.of rfl ⟨_, rfl, fun hk => ?_, fun hk => ?_⟩⟩)))⟩))))))
  · exact ⟨_, rfl, fun _ => put o (B.mono (by omega)), fun z => nomatch z⟩
  have h1 : absI n = 1 := by
    have hk : (!(absI n == 1)) = false := hk
    simpa using hk
  repeat infer_instance
  refine wc_take Dr B hb (by omega) (by omega) fun d o' _ _ B' => ?_
  repeat infer_instance
  refine ⟨fun _ => put o' B', fun _ => no o' h1 ha B'⟩
/-- the name -/
theorem sp_name {cal : Nat → List Mi.Slot → CRes} {L : Nat} {D : En} {s0 s1 s2 s4 s5 s6 s8 : Mi.Slot} {ws : List PySem.Str} {n : Int} {a : PySem.Str} (hl : ws.length < 1000)
    (q : D.nx [s0, s1, s2, .fz (.str a), s4, s5, s6, .ow (.lst (tS (ws ++ naW (n, a)))), s8]) :
    wT cal L (.ife (.op .ne (.cons (.var 3) (.cons (.c (.str "")) .nil))) (.cons (.app 7 (.var 3)) .nil) .nil) [s0, s1, s2, .fz (.str a), s4, s5, s6, .ow (.lst (tS ws)), s8] D := by
  repeat infer_instance
  have eb : (!eqT (.str a) (.str "")) = !decide (a = "") := by
    show (!(a == "")) = _
    rw [str_dec]
  rw [eb]
  unfold naW at q
  cases hb : (!decide (a = "")) with
  | false =>
    rw [if_neg (by show ¬ (!decide (a = "")) = true; rw [hb]; decide), List.append_nil] at q
    refine wif0 rfl ?_
    repeat infer_instance
    exact q
  | true =>
    rw [if_pos hb, ← tS_app] at q
    refine wif1 rfl ?_
    refine bp_cons (wp_app ⟨_, rfl, wp_var rfl ⟨_, _, _, rfl, rfl, ?_, ?_⟩⟩)
    · unfold tS; rw [List.length_map, sizeLine_eq]; omega
    · repeat infer_instance
      exact q
/-- a row's words -/
theorem sp_row {cal : Nat → List Mi.Slot → CRes} {L : Nat} {D : En} {s1 s2 s4 s6 s8 : Mi.Slot} {ws : List WT} {n : Int} {a : PySem.Str} {o : O} {b : Nat} (Dr : Draws cal 15 17) (B : Bg b o) (hb : 0 < b) (hw : ∀ u ∈ ws, u.Ok) (hww : WOk (allL ws)) (hl : ws.length < 300) (hn : n.natAbs < 10 ^ 18)
    (q : ∀ u o', (u : WT).n = n → u.a = a → (u.sh = false → absI n = 1 ∧ a ≠ "") → Bg (b - 1) o' → D.nx [.ow o', s1, s2, .fz (.str a), s4, .fz (.int n), s6, .ow (.lst (tS (allL (ws ++ [u])))), s8]) :
    wB cal L l143_2 [.ow o, s1, s2, .fz (.str a), s4, .fz (.int n), s6, .ow (.lst (tS (allL ws))), s8] D := by
  have h1 := allL_len ws
  have h2 : (sgW (allL ws) (n, a)).length ≤ (allL ws).length + 1 := by
    unfold sgW
    rw [List.length_append]
    split
    · exact Nat.le_refl _
    · exact Nat.le_succ _
  unfold l143_2
  refine bp_cons (sp_sign (a := a) hww (by omega) ?_)
  refine bp_cons (sp_num Dr B hb (small_of hn) (by omega) fun sh o' hs B' => ?_)
  refine bp_cons (sp_name (n := n) (by
    rw [List.length_append]
    split <;> simp <;> omega) ?_)
  refine bp_nil ?_
  have e := allL_step hw ⟨n, a, sh⟩
  have q := q ⟨n, a, sh⟩ o' rfl rfl hs B'
  rw [e] at q
  exact q
end FrmP
set_option maxHeartbeats 2000000
namespace FrmP
open PySem PySem.Spec PyProof.Rows L2 Mi MiDF
local macro_rules
  | `(tactic| infer_instance) => `(tactic| first
    | refine dp_nil ?_ | refine dp_cons ?_ | refine wp_var rfl ?_ | refine wp_bo rfl ?_ | refine wp_c ?_ | refine wp_op ?_ | refine wp_lst ?_ | refine wp_tup ?_
    | refine wp_call ?_ | refine wp_prop ?_ | refine wp_meth ?_ | refine wp_mk ?_ | refine wp_bop ?_ | refine wp_uop ?_ | refine wp_fld ?_ | refine wp_spc ?_ | refine wp_ceq ?_ | refine wp_inn ?_ | refine wp_nt ?_ | refine wp_fst ?_ | refine jp_nil ?_ | refine wp_isc ?_ | refine wp_dsc rfl rfl ?_ | refine wp_dic0 ?_ | refine wp_dgt ?_ | refine wp_ccm ?_ | refine wp_anP ?_ | refine wp_orP ?_ | refine wp_ite ?_
    | refine sp_it ?_ | refine sp_rng1 ?_ | refine sp_enum ?_ | refine sp_zip ?_ | refine wp_lr ?_
    | refine bp_nil ?_ | refine bp_cons ?_ | refine wp_set ?_ | refine wp_ret ?_ | refine wp_stf ?_ | refine wp_par ?_ | refine wp_ife ?_ | refine wp_ex ?_
    | refine wk_go rfl ?_ | refine wC.fz (by assumption) ?_ | refine wC.ow (by assumption) ?_ | refine wp_stoS ?_ | refine wo_all ?_ | refine wo_idxS (by assumption) ?_ | refine wo_listS ?_ | refine wo_eqS (by assumption) (by assumption) ?_ | refine wo_neW (by assumption) ?_ | exact ⟨rfl, rfl⟩ | refine ⟨rfl, ?_⟩ | refine wO.of rfl ?_ | refine ap_nil ?_ | refine ap_one ?_
    | refine ⟨_, _, _, _, _, rfl, rfl, rfl, ?_⟩ | refine ⟨_, _, _, rfl, rfl, ?_⟩ | refine ⟨_, _, _, rfl, rfl, rfl, ?_⟩ | refine ⟨_, _, rfl, rfl, ?_⟩ | refine ⟨_, _, rfl, ?_⟩ | refine ⟨_, rfl, rfl, ?_⟩ | refine ⟨_, rfl, ?_⟩ | refine ⟨rfl, _, _, rfl, ?_⟩ | refine ⟨⟨_, rfl⟩, ?_⟩ | refine And.intro (fun _ z => nomatch z) ?_ | exact rfl)
theorem bW_word {u : WT} (hu : u.Ok) : ∀ w ∈ bW u, w.length ≤ 20 := fun w hw => by
  unfold bW at hw
  rw [List.mem_append] at hw
  rcases hw with hw | hw
  · split at hw
    · rw [List.mem_singleton.mp hw, abs_nat, num_len]
      have := TL.numL_len (k := 18) (n := u.n.natAbs) (by decide) hu.lt
      omega
    · cases hw
  · split at hw
    · cases hw
    · rename_i e
      rw [List.mem_singleton.mp hw]
      have := (hu.nm e).l6
      omega
theorem allL_word {ws : List WT} (hu : ∀ u ∈ ws, u.Ok) : ∀ w ∈ allL ws, w.length ≤ 20 := by
  cases ws with
  | nil => exact fun w hw => by cases hw
  | cons t r =>
    intro w hw
    have hw : w ∈ (if t.n < 0 then [("-" : PySem.Str)] else []) ++ (bW t ++ lW r) := hw
    rw [List.mem_append, List.mem_append] at hw
    rcases hw with h | h | h
    · split at h
      · rw [List.mem_singleton.mp h]; decide
      · cases h
    · exact bW_word (hu t List.mem_cons_self) w h
    · unfold lW at h
      rw [List.mem_flatMap] at h
      obtain ⟨u, h1, h⟩ := h
      rcases List.mem_cons.mp h with rfl | h
      · unfold sgnS
        split <;> decide
      · exact bW_word (hu u (List.mem_cons_of_mem _ h1)) w h
theorem allL_join {ws : List WT} (hu : ∀ u ∈ ws, u.Ok) (h : ws.length ≤ 300) : Mi.JoinOk (allL ws) := by
  unfold Mi.JoinOk
  have h1 := sum_le _ (allL_word hu)
  have h2 := allL_len ws
  have h3 : (allL ws).length * 20 ≤ 900 * 20 := Nat.mul_le_mul_right _ (by omega)
  omega
/-- the text's length -/
theorem allL_tlen {ws : List WT} (hu : ∀ u ∈ ws, u.Ok) (h : ws.length ≤ 300) : (Txt.join " " (allL ws)).length + 2 ≤ sizeLine := by
  have h0 := len_join " " (allL ws)
  have h1 := sum_le _ (allL_word hu)
  have h2 := allL_len ws
  have h3 : (allL ws).length * 20 ≤ 900 * 20 := Nat.mul_le_mul_right _ (by omega)
  have e : PySem.Str.length " " = 1 := rfl
  rw [e] at h0
  rw [sizeLine_eq]
  omega
theorem nm_q : NameOk "q" := ⟨by decide, by decide, by decide, by decide⟩
/-- the rows of a form and its constant -/
def r0 (c : Int) (l : SD) : RW := (l.map fun q => (q.2, q.1)) ++ [(c, ("" : PySem.Str))]
theorem tR_r0 (l : SD) (c : Int) (x : PySem.Str) (hx : x ≠ "") : tR (r0 c l) x = totS l x := by
  unfold r0
  rw [tR_app]
  have e : tR [(c, ("" : PySem.Str))] x = 0 := by
    show (if ("" : PySem.Str) = x then c else 0) + 0 = 0
    rw [if_neg (fun z => hx z.symm)]
    rfl
  rw [e, Int.add_zero]
  induction l with
  | nil => rfl
  | cons q r ih => show _ + tR (r.map _) x = _ + totS r x; rw [ih]
theorem cR_r0 {l : SD} (c : Int) (h : ∀ a ∈ keysS l, a ≠ "") : cR (r0 c l) = c := by
  unfold r0
  rw [cR_app]
  have e : cR [(c, ("" : PySem.Str))] = c := by
    show (if ("" : PySem.Str) = "" then c else 0) + 0 = c
    rw [if_pos rfl, Int.add_zero]
  rw [e]
  induction l with
  | nil => show 0 + c = c; omega
  | cons q r ih =>
    show (if q.1 = "" then q.2 else 0) + cR (r.map _) + c = c
    have h2 := ih fun a ha => h a (List.mem_cons_of_mem _ ha)
    rw [if_neg (h q.1 List.mem_cons_self)]
    omega
/-- what rows may be -/
def RowOk (t : Int × PySem.Str) : Prop := t.1.natAbs < 10 ^ 18 ∧ (t.2 ≠ "" → NameOk t.2)
theorem tm_app (a b : RW) : (a.map tmT) ++ (b.map tmT) = (a ++ b).map tmT := (List.map_append ..).symm
theorem nm_ne {a : PySem.Str} (h : NameOk a) : a ≠ "" := fun z => by
  have := h.l1
  rw [z] at this
  revert this
  decide
section
variable {Γ : Nat → Option Def} {L k : Nat} (hΓ : ∀ f d, pg f = some d → Γ f = some d)
include hΓ
theorem spare_ok (hi : ∀ i : Int, PyData.canLay0 (.str (istr i)) = true) (hka : ∀ a : PySem.Str, NameOk a → PyData.canLay0 (.str a) = true) {o : O} {b : Nat} {c : Int} {l : SD} (B : Bg b o) (hb : 60 ≤ b) (h : CanS l) (h4 : l.length ≤ 4) (hk : ∀ a ∈ keysS l, NameOk a) (hc : c.natAbs < 10 ^ 18) (hq : ∀ q ∈ l, q.2.natAbs < 10 ^ 18) :
    ∃ t r o', callF Γ L (k + 3) 143 [.ow o, .fz (spT c l)] = .ok (.fz (.str (Txt.join " " (allW t r)))) [.ow o', .no] ∧ Bg (b - 60) o' ∧ (∀ u ∈ t :: r, u.Ok) ∧ r.length < 20 ∧ cW (t :: r) = c ∧ keptS (sumS [] (fW (t :: r))) = l := by
  have D : Draws (callF Γ L (k + 2)) 15 17 := draws_ok (hΓ 15 d15 rfl) (hΓ 17 d17 rfl)
  suffices g : wC (callF Γ L (k + 3)) 143 [.ow o, .fz (spT c l)] fun r outs => ∃ t rs o', (r = .fz (.str (Txt.join " " (allW t rs))) ∧ outs = [.ow o', .no]) ∧ Bg (b - 60) o' ∧ (∀ u ∈ t :: rs, u.Ok) ∧ rs.length < 20 ∧ cW (t :: rs) = c ∧ keptS (sumS [] (fW (t :: rs))) = l by
    unfold wC at g
    obtain ⟨r, outs, e, _, t, rs, o', ⟨rfl, rfl⟩, h1⟩ := g
    exact ⟨t, rs, o', e, h1⟩
  refine wp_run (d := d143) (hΓ _ _ rfl) rfl ?_
  generalize callF Γ L (k + 2) = cal at *
  have hz : sizeLine = 16777216 := rfl
  unfold d143
  -- the terms
  refine bp_via (X := [.ow o, .fz (spT c l), .ow (.lst ((r0 c l).map tmT)), .no, .no, .no, .no, .no, .no]) (wp_set (wp_op (dp_cons (wp_comp (α := PySem.Str × Int) ?_)))) ?_
  · repeat infer_instance
    refine ⟨l, fun q => .str q.1, fun _ => true, fun q => .tup [.int (atS l q.1), .str q.1], keys_dS l, rfl, rfl, fun q hq => ⟨_, rfl, rfl, ap_nil ⟨rfl, rfl⟩, fun _ => ?_⟩, by rw [sizeLine_eq]; omega, ?_⟩
    · have hm : q.1 ∈ keysS l := List.mem_map.mpr ⟨q, hq, rfl⟩
      unfold e143_0
      repeat infer_instance
    · have e : (l.filter fun _ => true).map (fun q : PySem.Str × Int => T.tup [.int (atS l q.1), .str q.1]) = (l.map fun q : PySem.Str × Int => (q.2, q.1)).map tmT := by
        rw [List.filter_eq_self.mpr fun _ _ => rfl, List.map_map]
        exact List.map_congr_left fun q hq => by rw [h.at hq]; rfl
      rw [e]
      repeat infer_instance
      refine wo_addL (by simp; omega) ?_
      repeat infer_instance
      unfold r0
      rw [List.map_append (l₂ := [(c, ("" : PySem.Str))])]
      rfl
  -- pairs that cancel
  refine bp_cons (wp_fr ?_)
  repeat infer_instance
  refine wc_take D B (by omega) (by omega) (by omega) fun d o1 d0 d1 B1 => ?_
  repeat infer_instance
  have hok : ∀ t ∈ r0 c l, RowOk t := fun t ht => by
    unfold r0 at ht
    rcases List.mem_append.mp ht with ht | ht
    · obtain ⟨q, h1, rfl⟩ := List.mem_map.mp ht
      exact ⟨hq q h1, fun _ => hk _ (List.mem_map.mpr ⟨q, h1, rfl⟩)⟩
    · rw [List.mem_singleton.mp ht]
      exact ⟨hc, fun z => absurd rfl z⟩
  have hlen0 : (r0 c l).length ≤ 5 := by unfold r0; simp; omega
  refine ⟨⟨by omega, by omega⟩, fun xs mm => ∃ o' rs s3 s4 s5, mm = [.ow o', .fz (spT c l), .ow (.lst (rs.map tmT)), s3, s4, s5, .no, .no, .no] ∧ xs.length ≤ 3 ∧ rs.length + 2 * xs.length ≤ 11 ∧ Bg (b - 7 + 2 * xs.length) o' ∧ (∀ t ∈ rs, RowOk t) ∧ cR rs = c ∧ (∀ x : PySem.Str, x ≠ "" → tR rs x = totS l x) ∧ 0 < rs.length,
    ⟨o1, r0 c l, _, _, _, rfl, by rw [List.length_map, len_rngI]; omega, by rw [List.length_map, len_rngI]; omega, B1.mono (by rw [List.length_map, len_rngI]; omega), hok, cR_r0 c fun a ha => nm_ne (hk a ha), fun x hx => tR_r0 l c x hx, by unfold r0; simp⟩, ?_, ?_⟩
  · rintro x xs mm ⟨o2, rs, s3, s4, s5, rfl, hx3, hl, B2, ho, hc0, hx0, hr0⟩
    simp only [List.length_cons] at hl hx3 B2
    refine ⟨_, rfl, ?_⟩
    unfold l143_0
    refine bp_cons (wp_par (wp_call (dp_cons (wp_bo rfl (dp_cons ?_)))))
    repeat infer_instance
    refine wo_addL (by rw [List.length_map]; simp; omega) ?_
    repeat infer_instance
    refine wo_addL (by rw [List.length_append, List.length_map]; simp; omega) ?_
    repeat infer_instance
    refine wc_of D B2 (by omega) (by rw [List.length_append, List.length_append, List.length_map]; simp) (by
      rw [List.length_append, List.length_append, List.length_map, List.length_map]
      exact Nat.ble_eq_true_of_le (by simp; omega)) fun y o3 hy B3 => ?_
    obtain ⟨a, rfl, ha⟩ : ∃ a, y = .str a ∧ (a ≠ "" → NameOk a) := by
      rcases List.mem_append.mp hy with hy | hy
      · rcases List.mem_append.mp hy with hy | hy
        · exact ⟨_, List.mem_singleton.mp hy, fun z => absurd rfl z⟩
        · obtain ⟨a, h1, rfl⟩ := List.mem_map.mp hy
          exact ⟨a, rfl, fun _ => hk a h1⟩
      · exact ⟨_, List.mem_singleton.mp hy, fun _ => nm_q⟩
    repeat infer_instance
    have ep : (10 : Int) ^ Int.toNat 6 = 1000000 := rfl
    refine wc_take D B3 (by omega) (by omega) (by omega) fun n o4 n0 n1 B4 => ?_
    repeat infer_instance
    refine wo_addL (by rw [List.length_map]; simp; omega) ?_
    repeat infer_instance
    refine ⟨o4, rs ++ [(n, a), (0 - n, a)], _, _, _, by rw [List.map_append]; rfl, by omega, by simp; omega, B4.mono (by omega), fun t ht => ?_, by rw [cR_app, pair_cR]; omega, fun x hx => by rw [tR_app, pair_tR, hx0 x hx]; omega, by simp⟩
    rcases List.mem_append.mp ht with ht | ht
    · exact ho t ht
    · simp only [List.mem_cons, List.not_mem_nil, or_false] at ht
      rcases ht with rfl | rfl
      · exact ⟨by show n.natAbs < _; omega, ha⟩
      · exact ⟨by show (0 - n).natAbs < _; omega, ha⟩
  rintro mm ⟨o2, rs, s3, s4, s5, rfl, _, hl, B2, ho, hc0, hx0, hr0⟩
  simp only [List.length_nil] at hl B2
  refine bp_cons (wp_paro (wp_lst (dp_nil ⟨_, _, rfl, rfl, ⟨_, rfl, wp_lst (dp_nil ⟨_, _, rfl, rfl, ⟨_, rfl, ⟨Nat.le_of_ble_eq_true rfl, Nat.le_of_ble_eq_true rfl, by decide⟩, ?_⟩⟩)⟩⟩)))
  -- put at drawn places
  refine bp_cons (wp_fr (sp_it (wp_bo rfl ⟨_, _, _, rfl, rfl, ?_⟩)))
  refine ⟨fun xs mm => ∃ o' ys as s8, mm = [.ow o', .fz (spT c l), .fz (.lst (rs.map tmT)), s3, s4, s5, .ow (.lst (ys.map tmT)), .ow (.lst (tS (allL []))), s8] ∧ xs = as.map tmT ∧ (ys ++ as).Perm rs ∧ Bg (b - 7 - ys.length) o',
    ⟨o2, [], rs, _, rfl, rfl, List.Perm.refl _, B2⟩, ?_, ?_⟩
  · rintro x xs mm ⟨o3, ys, as, s8, rfl, hxs, hp, B3⟩
    cases as with
    | nil => cases hxs
    | cons t as =>
      cases hxs
      have hpl := hp.length_eq
      rw [List.length_append, List.length_cons] at hpl
      refine ⟨_, rfl, ?_⟩
      unfold l143_1
      refine bp_cons (wp_insr ⟨_, rfl, ?_⟩)
      repeat infer_instance
      have e1 : (((ys.map tmT).length : Int) + 1) = ((ys.length : Int) + 1) := by rw [List.length_map]
      rw [e1]
      refine wc_take D B3 (by omega) (by omega) (by omega) fun j o4 j0 j1 B4 => ?_
      repeat infer_instance
      refine ⟨⟨j0, by omega, by rw [List.length_map]; omega⟩, bp_nil ?_⟩
      refine ⟨o4, ys.take j.toNat ++ [t] ++ ys.drop j.toNat, as, .fz (tmT t), ?_, rfl, ?_, B4.mono ?_⟩
      · rw [List.map_append, List.map_append, List.map_take, List.map_drop]
        rfl
      · have h1 := ins_perm ys t j.toNat
        have h2 : (ys.take j.toNat ++ [t] ++ ys.drop j.toNat ++ as).Perm (t :: ys ++ as) := h1.append_right as
        refine (h2.trans ?_).trans hp
        exact (List.perm_middle (a := t) (l₁ := ys) (l₂ := as)).symm
      · have h1 := (ins_perm ys t j.toNat).length_eq
        rw [h1, List.length_cons]
        omega
  rintro mm ⟨o3, ys, as, s8, rfl, hxs, hp, B3⟩
  have has : as = [] := by
    cases as with
    | nil => rfl
    | cons a r => cases hxs
  subst has
  rw [List.append_nil] at hp
  have hyl := hp.length_eq
  -- the words
  refine bp_cons (wp_fr (sp_it (wp_bo rfl ⟨_, _, _, rfl, rfl, ?_⟩)))
  refine ⟨fun xs mm => ∃ o' ws as s3 s5, mm = [.ow o', .fz (spT c l), .fz (.lst (rs.map tmT)), s3, s4, s5, .fz (.lst (ys.map tmT)), .ow (.lst (tS (allL ws))), s8] ∧ xs = as.map tmT ∧ rowsW ws ++ as = ys ∧ (∀ u ∈ ws, u.Ok) ∧ Bg (b - 18 - ws.length) o',
    ⟨o3, [], ys, _, _, rfl, rfl, rfl, (fun _ z => nomatch z), B3.mono (by simp; omega)⟩, ?_, ?_⟩
  · rintro x xs mm ⟨o4, ws, as, s3, s5, rfl, hxs, hr, hu, B4⟩
    cases as with
    | nil => cases hxs
    | cons t as =>
      cases hxs
      have hrl : ws.length + (as.length + 1) = ys.length := by
        rw [← hr]
        unfold rowsW
        rw [List.length_append, List.length_map, List.length_cons]
      have ht := ho t (hp.mem_iff.mp (by rw [← hr]; exact List.mem_append_right _ List.mem_cons_self))
      refine ⟨_, rfl, ?_⟩
      refine sp_row (ws := ws) (n := t.1) (a := t.2) D B4 (by omega) hu (canW hi hka hu) (by omega) ht.1 fun u o5 e1 e2 hs B5 => ?_
      refine ⟨o5, ws ++ [u], as, _, _, rfl, rfl, ?_, fun v hv => ?_, B5.mono (by simp; omega)⟩
      · unfold rowsW at *
        rw [List.map_append, List.append_assoc, ← hr]
        show _ ++ ([(u.n, u.a)] ++ as) = _
        rw [e1, e2]
        rfl
      · rcases List.mem_append.mp hv with hv | hv
        · exact hu v hv
        · rw [List.mem_singleton.mp hv]
          exact ⟨by rw [e1]; exact ht.1, fun z => by rw [e1, e2]; exact hs z, fun z => by rw [e2] at z ⊢; exact ht.2 z⟩
  rintro mm ⟨o4, ws, as, s3, s5, rfl, hxs, hr, hu, B4⟩
  have has : as = [] := by
    cases as with
    | nil => rfl
    | cons a r => cases hxs
  subst has
  rw [List.append_nil] at hr
  have hwl : ws.length = ys.length := by rw [← hr]; unfold rowsW; rw [List.length_map]
  have hc1 : cW ws = c := by rw [cW_rows, hr, cR_perm hp, hc0]
  have hk1 : keptS (sumS [] (fW ws)) = l := kept_sum h fun x => by
    by_cases ex : x = ""
    · rw [ex, fW_none, atS_none fun z => nm_ne (hk _ z) rfl]
    · rw [fW_rows x ex, hr, tR_perm hp, hx0 x ex, totS_can h]
  cases ws with
  | nil => simp only [List.length_nil] at hwl; omega
  | cons t r =>
    refine bp_cons (wp_ret (wp_jn (wp_c ⟨_, rfl, wp_bo rfl ⟨_, _, rfl, join_sp (allL_join hu (by omega)), ?_⟩⟩)))
    repeat infer_instance
    simp only [List.length_cons] at hwl
    exact ⟨t, r, o4, ⟨rfl, rfl⟩, B4.mono (by simp; omega), hu, by omega, hc1, hk1⟩
end
end FrmP
set_option maxHeartbeats 2000000
namespace FrmP
open PySem PySem.Spec PyProof.Rows L2 Mi MiDF
local macro_rules
  | `(tactic| infer_instance) => `(tactic| first
    | refine dp_nil ?_ | refine dp_cons ?_ | refine wp_var rfl ?_ | refine wp_bo rfl ?_ | refine wp_c ?_ | refine wp_op ?_ | refine wp_lst ?_ | refine wp_tup ?_
    | refine wp_call ?_ | refine wp_prop ?_ | refine wp_meth ?_ | refine wp_mk ?_ | refine wp_bop ?_ | refine wp_uop ?_ | refine wp_fld ?_ | refine wp_spc ?_ | refine wp_ceq ?_ | refine wp_inn ?_ | refine wp_nt ?_ | refine wp_fst ?_ | refine jp_nil ?_ | refine wp_isc ?_ | refine wp_dsc rfl rfl ?_ | refine wp_dic0 ?_ | refine wp_dgt ?_ | refine wp_ccm ?_ | refine wp_anP ?_ | refine wp_orP ?_ | refine wp_ite ?_
    | refine sp_it ?_ | refine sp_rng1 ?_ | refine sp_enum ?_ | refine sp_zip ?_ | refine wp_lr ?_
    | refine bp_nil ?_ | refine bp_cons ?_ | refine wp_set ?_ | refine wp_ret ?_ | refine wp_stf ?_ | refine wp_par ?_ | refine wp_ife ?_ | refine wp_ex ?_
    | refine wk_go rfl ?_ | refine wC.fz (by assumption) ?_ | refine wC.ow (by assumption) ?_ | refine wp_stoS ?_ | refine wo_all ?_ | refine wo_idxS (by assumption) ?_ | refine wo_listS ?_ | refine wo_eqS (by assumption) (by assumption) ?_ | refine wo_neW (by assumption) ?_ | exact ⟨rfl, rfl⟩ | refine ⟨rfl, ?_⟩ | refine wO.of rfl ?_ | refine ap_nil ?_ | refine ap_one ?_
    | refine ⟨_, _, _, _, _, rfl, rfl, rfl, ?_⟩ | refine ⟨_, _, _, rfl, rfl, ?_⟩ | refine ⟨_, _, _, rfl, rfl, rfl, ?_⟩ | refine ⟨_, _, rfl, rfl, ?_⟩ | refine ⟨_, _, rfl, ?_⟩ | refine ⟨_, rfl, rfl, ?_⟩ | refine ⟨_, rfl, ?_⟩ | refine ⟨rfl, _, _, rfl, ?_⟩ | refine ⟨⟨_, rfl⟩, ?_⟩ | refine And.intro (fun _ z => nomatch z) ?_ | exact rfl)
/-! the shown text, read -/
theorem all_str {s : PySem.Str} (h : ∀ c ∈ s.cps.toList, c < 1114112) : PyData.canLay0 (.str s) = true := by
  rw [PyData.canLay0]
  unfold PyData.strOk
  rw [Array.all_eq_true']
  intro c hc
  exact decide_eq_true (h c (Array.mem_toList_iff.mpr hc))
theorem can_nm (a : PySem.Str) (h : NameOk a) : PyData.canLay0 (.str a) = true := all_str fun c hc => by
  have h1 := h.low c hc
  have h2 : ∀ c ∈ abcS.cps.toList, c < 1114112 := by decide
  exact h2 c h1
theorem can_nat (n : Nat) : PyData.canLay0 (.str (istr (n : Int))) = true := all_str fun c hc => by
  have h1 := num_dec c hc
  have h2 : ∀ c ∈ decS.cps.toList, c < 1114112 := by decide
  exact h2 c h1
theorem can_of (z : String) : PyData.canLay0 (.str (PySem.Str.ofString z)) = true := all_str fun c hc => by
  rw [PyProof.Rows.signs_ofString] at hc
  obtain ⟨ch, _, rfl⟩ := List.mem_map.mp hc
  have := ch.valid
  show ch.val.toNat < 1114112
  have h : ch.val.toNat < 55296 ∨ (57343 < ch.val.toNat ∧ ch.val.toNat < 1114112) := ch.valid
  omega
theorem can_int (i : Int) : PyData.canLay0 (.str (istr i)) = true := can_of _
def wt1 (t : Int × PySem.Str) : WT := ⟨t.1, t.2, decide (t.2 = "") || !decide (absI t.1 = 1)⟩
theorem wt1_ok {t : Int × PySem.Str} (h : RowOk t) : (wt1 t).Ok := ⟨h.1, fun z => by
  have z : (decide (t.2 = "") || !decide (absI t.1 = 1)) = false := z
  rw [Bool.or_eq_false_iff] at z
  exact ⟨by have := z.2; show absI t.1 = 1; simpa using this, of_decide_eq_false z.1⟩, h.2⟩
theorem wsW_eq : ∀ (ts : List (Int × PySem.Str)) (ws : List WT), (∀ u ∈ ws, u.Ok) → (∀ t ∈ ts, RowOk t) → ts.foldl stW (allL ws) = allL (ws ++ ts.map wt1)
  | [], ws, _, _ => by rw [List.map_nil, List.append_nil]; rfl
  | t :: r, ws, hu, ho => by
    have h1 : stW (allL ws) t = allL (ws ++ [wt1 t]) := (allL_step hu (wt1 t)).symm
    show r.foldl stW (stW (allL ws) t) = _
    rw [h1, wsW_eq r (ws ++ [wt1 t]) (fun u h => ?_) fun t ht => ho t (List.mem_cons_of_mem _ ht), List.append_assoc]
    · rfl
    · rcases List.mem_append.mp h with h | h
      · exact hu u h
      · rw [List.mem_singleton.mp h]
        exact wt1_ok (ho t List.mem_cons_self)
theorem rows_wt1 : ∀ ts : List (Int × PySem.Str), rowsW (ts.map wt1) = ts
  | [] => rfl
  | t :: r => by show (t.1, t.2) :: rowsW (r.map wt1) = _; rw [rows_wt1 r]
/-- the numbers and names of a form -/
structure FmOk (c : Int) (l : SD) : Prop where
  can : CanS l
  len : l.length ≤ 4
  nm : ∀ a ∈ keysS l, NameOk a
  c18 : c.natAbs < 10 ^ 18
  q18 : ∀ q ∈ l, q.2.natAbs < 10 ^ 18
section
variable {c : Int} {l : SD} (h : FmOk c l)
include h
theorem FmOk.rows : ∀ t ∈ termsS c l, RowOk t := fun t ht => by
  unfold termsS at ht
  rcases List.mem_append.mp ht with ht | ht
  · obtain ⟨q, h1, rfl⟩ := List.mem_map.mp ht
    exact ⟨h.q18 q h1, fun _ => h.nm _ (List.mem_map.mpr ⟨q, h1, rfl⟩)⟩
  · split at ht
    · rw [List.mem_singleton.mp ht]
      exact ⟨h.c18, fun z => absurd rfl z⟩
    · cases ht
theorem FmOk.tlen : (termsS c l).length ≤ 5 := by
  unfold termsS
  have := h.len
  rw [List.length_append, List.length_map]
  split <;> simp <;> omega
theorem FmOk.tms : TmsOk (termsS c l) := ⟨by have := h.tlen; omega, fun t ht => by
  have ho := h.rows t ht
  refine ⟨small_of ho.1, ?_, ?_, ?_⟩
  · rw [abs_nat, num_len]
    have := TL.numL_len (k := 18) (n := t.1.natAbs) (by decide) ho.1
    omega
  · by_cases e : t.2 = ""
    · rw [e]; decide
    · have := (ho.2 e).l6
      omega
  · by_cases e : t.2 = ""
    · rw [e]; decide +kernel
    · exact can_nm _ (ho.2 e)⟩
theorem FmOk.ws : wsW (termsS c l) = allL ((termsS c l).map wt1) := wsW_eq _ [] (fun _ z => nomatch z) h.rows
theorem FmOk.wok : ∀ u ∈ (termsS c l).map wt1, u.Ok := fun u hu => by
  obtain ⟨t, h1, rfl⟩ := List.mem_map.mp hu
  exact wt1_ok (h.rows t h1)
theorem FmOk.join : Mi.JoinOk (wsW (termsS c l)) := by
  rw [h.ws]
  exact allL_join h.wok (by rw [List.length_map]; have := h.tlen; omega)
theorem FmOk.ne : termsS c l ≠ [] := fun z => by
  unfold termsS at z
  rw [List.append_eq_nil_iff, List.map_eq_nil_iff] at z
  obtain ⟨z1, z2⟩ := z
  rw [z1] at z2
  revert z2
  rw [if_pos (by simp)]
  simp
theorem FmOk.cR : cR (termsS c l) = c := by
  by_cases e : (!decide (c = 0) || decide (l = [])) = true
  · have e2 : termsS c l = r0 c l := by unfold termsS r0; rw [if_pos e]
    rw [e2]
    exact cR_r0 c fun a ha => nm_ne (h.nm a ha)
  · have e0 : c = 0 := by
      rw [Bool.or_eq_true, not_or] at e
      simpa using e.1
    have e2 : r0 c l = termsS c l ++ [(c, ("" : PySem.Str))] := by unfold termsS r0; rw [if_neg e, List.append_nil]
    have h1 := cR_r0 c fun a ha => nm_ne (h.nm a ha)
    rw [e2, cR_app] at h1
    have h3 : FrmP.cR [(c, ("" : PySem.Str))] = c := by
      show (if ("" : PySem.Str) = "" then c else 0) + 0 = c
      rw [if_pos rfl, Int.add_zero]
    rw [h3] at h1
    omega
theorem FmOk.tR (x : PySem.Str) (hx : x ≠ "") : tR (termsS c l) x = totS l x := by
  rw [← tR_r0 l c x hx]
  by_cases e : (!decide (c = 0) || decide (l = [])) = true
  · have e2 : termsS c l = r0 c l := by unfold termsS r0; rw [if_pos e]
    rw [e2]
  · have e2 : r0 c l = termsS c l ++ [(c, ("" : PySem.Str))] := by unfold termsS r0; rw [if_neg e, List.append_nil]
    have h3 : FrmP.tR [(c, ("" : PySem.Str))] x = 0 := by
      show (if ("" : PySem.Str) = x then c else 0) + 0 = 0
      rw [if_neg (fun z => hx z.symm), Int.add_zero]
    rw [e2, tR_app, h3, Int.add_zero]
theorem FmOk.keep {ws : List WT} (e : rowsW ws = termsS c l) : cW ws = c ∧ keptS (sumS [] (fW ws)) = l := ⟨by rw [cW_rows, e, h.cR], kept_sum h.can fun x => by
  by_cases ex : x = ""
  · rw [ex, fW_none, atS_none fun z => nm_ne (h.nm _ z) rfl]
  · rw [fW_rows x ex, e, h.tR x ex, totS_can h.can]⟩
/-- the shown text -/
abbrev txtS (c : Int) (l : SD) : PySem.Str := Txt.join " " (wsW (termsS c l))
omit h in
theorem txt_eq (h : FmOk c l) : ftS (termsS c l) = txtS c l := by
  cases e : termsS c l with
  | nil => exact absurd e h.ne
  | cons t r => rw [txtS, e]; exact (text_eq t r).symm
end
section
variable {Γ : Nat → Option Def} {k : Nat} (hΓ : ∀ f d, pg f = some d → Γ f = some d)
include hΓ
theorem rtext_ok {c : Int} {l : SD} (h : FmOk c l) : callF Γ 64 (k + 5) 141 [.fz (.str (txtS c l))] = .ok (.fz (frmT c l)) [.no] := by
  have hw := h.wok
  have hl : ((termsS c l).map wt1).length ≤ 5 := by rw [List.length_map]; exact h.tlen
  have hk := h.keep (rows_wt1 _)
  have e := h.ws
  have hn : (termsS c l).map wt1 ≠ [] := fun z => h.ne (List.map_eq_nil_iff.mp z)
  unfold txtS
  rw [e]
  generalize (termsS c l).map wt1 = ws at *
  cases ws with
  | nil => exact absurd rfl hn
  | cons t r =>
    simp only [List.length_cons] at hl
    have := read_ok hΓ (L := 64) (k := k) (t := t) (r := r) (by omega) (by omega) hw (allL_tlen hw (by simp only [List.length_cons]; omega))
    rw [hk.1, hk.2] at this
    exact this
end
end FrmP
set_option maxHeartbeats 4000000
namespace K07
open PySem PySem.Spec PyProof.Rows L2 Mi MiDF FrmP
local macro_rules
  | `(tactic| infer_instance) => `(tactic| first
    | refine dp_nil ?_ | refine dp_cons ?_ | refine wp_var rfl ?_ | refine wp_bo rfl ?_ | refine wp_c ?_ | refine wp_op ?_ | refine wp_lst ?_ | refine wp_tup ?_
    | refine wp_call ?_ | refine wp_prop ?_ | refine wp_meth ?_ | refine wp_mk ?_ | refine wp_bop ?_ | refine wp_uop ?_ | refine wp_fld ?_ | refine wp_spc ?_ | refine wp_ceq ?_ | refine wp_inn ?_ | refine wp_nt ?_ | refine wp_fst ?_ | refine jp_nil ?_ | refine wp_isc ?_ | refine wp_dsc rfl rfl ?_ | refine wp_dic0 ?_ | refine wp_dgt ?_ | refine wp_ccm ?_ | refine wp_anP ?_ | refine wp_orP ?_ | refine wp_ite ?_
    | refine sp_it ?_ | refine sp_rng1 ?_ | refine sp_enum ?_ | refine sp_zip ?_ | refine wp_lr ?_
    | refine bp_nil ?_ | refine bp_cons ?_ | refine wp_set ?_ | refine wp_ret ?_ | refine wp_stf ?_ | refine wp_par ?_ | refine wp_ife ?_ | refine wp_ex ?_
    | refine wk_go rfl ?_ | refine wC.fz (by assumption) ?_ | refine wC.ow (by assumption) ?_ | refine wp_stoS ?_ | refine wo_all ?_ | refine wo_idxS (by assumption) ?_ | refine wo_listS ?_ | refine wo_eqS (by assumption) (by assumption) ?_ | refine wo_neW (by assumption) ?_ | exact ⟨rfl, rfl⟩ | refine ⟨rfl, ?_⟩ | refine wO.of rfl ?_ | refine ap_nil ?_ | refine ap_one ?_
    | refine ⟨_, _, _, _, _, rfl, rfl, rfl, ?_⟩ | refine ⟨_, _, _, rfl, rfl, ?_⟩ | refine ⟨_, _, _, rfl, rfl, rfl, ?_⟩ | refine ⟨_, _, rfl, rfl, ?_⟩ | refine ⟨_, _, rfl, ?_⟩ | refine ⟨_, rfl, rfl, ?_⟩ | refine ⟨_, rfl, ?_⟩ | refine ⟨rfl, _, _, rfl, ?_⟩ | refine ⟨⟨_, rfl⟩, ?_⟩ | refine And.intro (fun _ z => nomatch z) ?_ | exact rfl)
theorem hΓ : ∀ f d, pg f = some d → Γ f = some d := fun f d h => by
  unfold Γ
  by_cases e : f = 138
  · subst e
    have : pg 138 = none := rfl
    rw [this] at h; cases h
  · rw [if_neg e]; exact h
abbrev kk : Nat := 13
abbrev LL : Nat := 64
theorem hroom : L2.Room (2 * (kk + 1)) callerA := ⟨rfl, by decide, by decide⟩
/-- what the law's calls keep -/
structure Cal (cal : Nat → List Mi.Slot → CRes) : Prop where
  dr : Draws cal 15 17
  names : ∀ {o : O} {b : Nat} {m : Int}, Bg b o → 60 ≤ b → 0 ≤ m → m ≤ 4 → ∃ ns o', cal 50 [.ow o, .fz (.int m)] = .ok (.ow (.lst (tS ns))) [.ow o', .no] ∧ Bg (b - 60) o' ∧ (ns.length : Int) = m ∧ ns.Nodup ∧ ∀ a ∈ ns, NameOk a
  spec : ∀ {o : O} {b : Nat} {ns : List PySem.Str} {m : Int}, Bg b o → 30 ≤ b → 9 ≤ m → m < 2 ^ 62 → ns.Nodup → ns.length ≤ 4 → (∀ a ∈ ns, NameOk a) → ∃ c l o', cal 51 [.ow o, .fz (.lst (tS ns)), .fz (.int m)] = .ok (.fz (.tup [.int c, .dic (dS l)])) [.ow o', .no, .no] ∧ Bg (b - 30) o' ∧ CanS l ∧ l.length ≤ 4 ∧ (∀ a ∈ keysS l, NameOk a) ∧ c.natAbs ≤ m.toNat ∧ ∀ q ∈ l, q.2.natAbs ≤ m.toNat
  form : ∀ {c l}, FmOk c l → cal 52 [.fz (spT c l)] = .ok (.ow (frmO c l)) [.no]
  ftext : ∀ {c l}, FmOk c l → cal 126 [.fz (spT c l)] = .ok (.fz (.str (txtS c l))) [.no]
  text : ∀ {c l}, FmOk c l → cal 140 [.fz (frmT c l)] = .ok (.fz (.str (txtS c l))) [.no]
  rtext : ∀ {c l}, FmOk c l → cal 141 [.fz (.str (txtS c l))] = .ok (.fz (frmT c l)) [.no]
  read : ∀ {t : WT} {r : List WT}, r.length < 60 → (∀ u ∈ t :: r, u.Ok) → cal 141 [.fz (.str (Txt.join " " (allW t r)))] = .ok (.fz (frmT (cW (t :: r)) (keptS (sumS [] (fW (t :: r)))))) [.no]
  zero : cal 141 [.fz (.str "- 0 x + 0")] = .ok (.fz (frmT 0 [])) [.no]
  spare : ∀ {o : O} {b : Nat} {c l}, Bg b o → 60 ≤ b → FmOk c l → ∃ t r o', cal 143 [.ow o, .fz (spT c l)] = .ok (.fz (.str (Txt.join " " (allW t r)))) [.ow o', .no] ∧ Bg (b - 60) o' ∧ (∀ u ∈ t :: r, u.Ok) ∧ r.length < 20 ∧ cW (t :: r) = c ∧ keptS (sumS [] (fW (t :: r))) = l
  eq : ∀ {c l}, FmOk c l → cal 142 [.fz (frmT c l), .fz (frmT c l)] = .ok (.fz (.bl true)) [.no, .no]
  const : ∀ {c l}, cal 144 [.fz (frmT c l)] = .ok (.fz (.int c)) [.no]
  nms : ∀ {c l}, cal 145 [.fz (frmT c l)] = .ok (.ow (.lst ((keysS l).map .str))) [.no]
  boo : ∀ {c l}, cal 146 [.fz (frmT c l)] = .ok (.fz (.bl (!decide (c = 0) || decide (0 < l.length)))) [.no]
  same : ∀ (n : Nat) (t : T), Pl n t → n < 8 → cal 13 [.fz t, .fz t] = .ok (.fz (.bl true)) [.no, .no]
theorem cal_ok : Cal (callF Γ LL kk) where
  dr := draws_ok (k := 11) (hΓ 15 d15 rfl) (hΓ 17 d17 rfl)
  names B hb m0 m1 := names50_ok hΓ (k := 10) B hb m0 m1
  spec B hb m0 m1 hn h4 hk := form51_ok hΓ (k := 9) B hb m0 m1 hn h4 hk
  form h := lform_ok hΓ (k := 8) h.can (by have := h.len; omega) h.nm
  ftext h := ltext_ok hΓ (k := 12) h.can h.tms can_int h.join
  text h := (txt_eq h) ▸ text_ok hΓ (k := 11) h.can h.tms
  rtext h := rtext_ok hΓ (k := 8) h
  read hl hu := read_ok hΓ (k := 8) (by show _ < 64; omega) (by omega) hu (allL_tlen hu (by simp only [List.length_cons]; omega))
  zero := read_zero hΓ (k := 8) (by decide)
  spare B hb h := spare_ok hΓ (k := 10) can_int can_nm B hb h.can h.len h.nm h.c18 h.q18
  eq h := (eq_ok hΓ (k := 12) h.can h.can).trans (by rw [decide_eq_true rfl, decide_eq_true rfl]; rfl)
  const := const_ok hΓ (k := 12)
  nms := names_ok hΓ (k := 12)
  boo := bool_ok hΓ (k := 12)
  same n t h hn := same_refl (hΓ 13 d13 rfl) n t 13 h (by omega)
theorem pl2 {a b : T} (ha : flatT a = true) (hb : flatT b = true) : Pl 1 (.lst [a, b]) := .lst (fun x hx => by
  simp only [List.mem_cons, List.not_mem_nil, or_false] at hx
  rcases hx with rfl | rfl
  · exact .flat ha
  · exact .flat hb) (show 2 ≤ sizeLine by decide)
theorem pl3 {a b : T} {ks : List PySem.Str} (ha : flatT a = true) (hb : flatT b = true) (hk : ks.length ≤ 4) : Pl 2 (.lst [a, b, .lst (tS ks)]) := .lst (fun x hx => by
  simp only [List.mem_cons, List.not_mem_nil, or_false] at hx
  rcases hx with rfl | rfl | rfl
  · exact .flat ha
  · exact .flat hb
  · exact .lst (fun y hy => by
      obtain ⟨s, _, rfl⟩ := List.mem_map.mp hy
      exact .flat rfl) (by unfold tS; rw [List.length_map, sizeLine_eq]; omega)) (show 3 ≤ sizeLine by decide)
section
variable {cal : Nat → List Mi.Slot → CRes} {D : En} (C : Cal cal)
include C
/-- a turn -/
theorem turn {ns : List Int} {o : O} {b : Nat} (B : Bg b o) (hb : 200 ≤ b) {s2 s3 s4 s5 s6 : Mi.Slot}
    (q : ∀ o' s3 s4 s5 s6, Bg (b - 200) o' → D.nx [.fz (.scr ns), .ow o', s2, s3, s4, s5, s6, .no, .no]) : wB cal LL l138_0 [.fz (.scr ns), .ow o, s2, s3, s4, s5, s6, .no, .no] D := by
  unfold l138_0
  refine bp_cons ?_
  repeat infer_instance
  refine wc_take C.dr B (by omega) (by omega) (by omega) fun d o1 d0 d1 B1 => ?_
  repeat infer_instance
  obtain ⟨nl, o2, e2, B2, hl2, hn2, hk2⟩ := C.names (m := d) B1 (by omega) d0 (by omega)
  refine wC.ow e2 ?_
  repeat infer_instance
  have ep : ((10 : Int) ^ Int.toNat 18 - 1) = 999999999999999999 := rfl
  rw [ep]
  obtain ⟨c, l, o3, e3, B3, hc, hl, hk, hc18, hq18⟩ := C.spec (m := 999999999999999999) B2 (by omega) (by omega) (by omega) hn2 (by omega) hk2
  refine wC.fz e3 ?_
  have F : FmOk c l := ⟨hc, hl, hk, by have : Int.toNat 999999999999999999 = 999999999999999999 := rfl; omega, fun q hq => by
    have := hq18 q hq
    have e : Int.toNat 999999999999999999 = 999999999999999999 := rfl
    omega⟩
  have c1 := C.form F
  have c2 := C.ftext F
  have c3 := C.text F
  have c4 := C.rtext F
  have c5 := C.eq F
  have c6 := C.const (c := c) (l := l)
  have c7 := C.nms (c := c) (l := l)
  have ks : sortT (keysS l) = keysS l := sortT_same (hc.asc.imp fun z => z.1)
  have s1 := C.same 1 (.lst [.str (txtS c l), .str (txtS c l)]) (pl2 rfl rfl) (by decide)
  have s2 := C.same 2 (.lst [.str (txtS c l), .int c, .lst (tS (keysS l))]) (pl3 rfl rfl (by unfold keysS; rw [List.length_map]; exact hl)) (by decide)
  obtain ⟨t, r, o4, e4, B4, hu, hr, hcw, hkw⟩ := C.spare B3 (by omega) F
  have c8 := C.read (t := t) (r := r) (by omega) hu
  rw [hcw, hkw] at c8
  generalize txtS c l = z at *
  repeat infer_instance
  refine wif0 rfl ?_
  repeat infer_instance
  refine wo_srtS (by unfold keysS; rw [List.length_map]; omega) ?_
  rw [ks]
  repeat infer_instance
  refine wif0 rfl ?_
  repeat infer_instance
  exact q _ _ _ _ _ (B4.mono (by omega))
end
theorem law_true (ns : List Int) (_ : ns.length ≤ 63) : ∃ outs, callF Γ LL (kk + 1) 138 [.fz (.scr ns)] = .ok (.fz (.bl true)) outs := by
  obtain ⟨o, eb, B0⟩ := bag_mk (Γ := Γ) (L := LL) (k := 12) (hΓ 2 d2 rfl) (ns := ns)
  have eb' : callF Γ LL kk 2 [.fz (.scr ns)] = .ok (.ow o) [.no] := eb
  clear eb
  have C := cal_ok
  suffices h : wC (callF Γ LL (kk + 1)) 138 [.fz (.scr ns)] fun r _ => r = .fz (.bl true) by
    unfold wC at h
    obtain ⟨r, outs, e, _, rfl⟩ := h
    exact ⟨outs, e⟩
  refine wp_run (d := d138) rfl rfl ?_
  generalize callF Γ LL kk = cal at *
  unfold d138
  refine bp_cons (wp_set ?_)
  repeat infer_instance
  refine wp_fr ?_
  repeat infer_instance
  refine ⟨⟨by omega, by omega⟩, fun xs mm => ∃ o' s2 s3 s4 s5 s6, mm = [.fz (.scr ns), .ow o', s2, s3, s4, s5, s6, .no, .no] ∧ xs.length ≤ 3 ∧ Bg (200 * xs.length) o',
    ⟨o, _, _, _, _, _, rfl, by rw [List.length_map, len_rngI]; decide, B0.mono (by rw [List.length_map, len_rngI]; decide)⟩, ?_, ?_⟩
  · rintro x xs mm ⟨o1, s2, s3, s4, s5, s6, rfl, hl, B1⟩
    simp only [List.length_cons] at hl B1
    refine ⟨_, rfl, turn C B1 (by omega) fun o2 s3 s4 s5 s6 B2 => ?_⟩
    exact ⟨o2, _, _, _, _, _, rfl, by omega, B2.mono (by omega)⟩
  rintro mm ⟨o1, s2, s3, s4, s5, s6, rfl, hl, B1⟩
  have r1 := C.read (t := f1t) (r := f1r) (by decide) f1_ok
  have r3 := C.read (t := f3t) (r := []) (by decide) f3_ok
  rw [f1_c, f1_l, f1_text] at r1
  rw [f3_l, f3_text] at r3
  have F1 : FmOk 3 [(("x" : PySem.Str), (1 : Int)), (("y" : PySem.Str), (-1 : Int))] := ⟨⟨by decide +kernel, by decide⟩, by decide, fun a ha => by
    simp only [keysS, List.map_cons, List.map_nil, List.mem_cons, List.not_mem_nil, or_false] at ha
    rcases ha with rfl | rfl
    · exact nm_x
    · exact nm_y, by decide, by decide⟩
  have F2 : FmOk 0 [] := ⟨⟨by decide, by decide⟩, by decide, (fun a ha => by cases ha), by decide, by decide⟩
  have F3 : FmOk 0 [(("x" : PySem.Str), (1 : Int))] := ⟨⟨by decide +kernel, by decide⟩, by decide, fun a ha => by
    simp only [keysS, List.map_cons, List.map_nil, List.mem_cons, List.not_mem_nil, or_false] at ha
    rw [ha]
    exact nm_x, by decide, by decide⟩
  have t1 := C.text F1
  have t2 := C.text F2
  have t3 := C.text F3
  have e1 : txtS 3 [(("x" : PySem.Str), (1 : Int)), (("y" : PySem.Str), (-1 : Int))] = "x - y + 3" := by decide +kernel
  have e2 : txtS 0 [] = "0" := by decide +kernel
  have e3 : txtS 0 [(("x" : PySem.Str), (1 : Int))] = "x" := by decide +kernel
  rw [e1] at t1
  rw [e2] at t2
  rw [e3] at t3
  have r2 := C.zero
  have b2 : cal 146 [.fz (frmT 0 [])] = .ok (.fz (.bl false)) [.no] := C.boo
  have c3 : cW (f3t :: []) = 0 := by decide
  rw [c3] at r3
  have s1 := C.same 1 (.lst [.str "x - y + 3", .str "0", .str "x", .bl false]) (.lst (fun x hx => by
    simp only [List.mem_cons, List.not_mem_nil, or_false] at hx
    rcases hx with rfl | rfl | rfl | rfl <;> exact .flat rfl) (show 4 ≤ sizeLine by decide)) (by decide)
  repeat infer_instance
end K07
set_option maxHeartbeats 0
open PySem PySem.Spec PyProof.Rows L2 Mi MiDF K07
theorem PySem.Challenge.cw_loneround_k07_whole_texts_of_forms_holds : PySem.Challenge.rw_loneround_k07_whole_texts_of_forms.Holds := by
  w_on; o_law
  o_head hk
  case hw => w_witness2
  case hc =>
    refine L2.walk_ofE (l := PySem.Challenge.rw_loneround_k07_whole_texts_of_forms) (n := 63) (k := 2 * (K07.kk + 1)) (x := "_law_script") (CX := CXA (PySem.Challenge.rw_loneround_k07_whole_texts_of_forms).prog) rfl (by decide) (by kernel_rfl) K07.hroom ?F (fun _ _ _ _ z => cxA_no z)
    case F =>
      intro w mg fa h Y Gn hmg0
      obtain ⟨K, KX, c⟩ := Y
      have hmg : mg ("law" : PySem.Str) = some (.ref fa) := by
        have e : (HandSHeadRun.topDef (PySem.W.OpenLaw.row PySem.Challenge.rw_loneround_k07_whole_texts_of_forms).prog 38).name = ("law" : PySem.Str) := by kernel_rfl
        rw [← e]
        exact hmg0
      have t := top_of KX Gn c
      obtain ⟨fd, F⟩ := c.def_ 0 (d := D138) rfl
      have ea := hmg.symm.trans (t.glo 50 "law" rfl)
      cases ea
      have b := L2.FunD.bindsA (ps := p138) F fun _ _ _ _ _ _ us hl => match us, hl with | [_], _ => rfl
      refine ⟨K, fd, spM ⟨K, clsOf K cn⟩ (callF K07.Γ K07.LL (K07.kk + 1)) 138, KX, fun s v => b s [v] rfl, fun H a ns hl hO hS => ?_, fun base hb hn => ?_⟩
      · obtain ⟨outs, ho⟩ := K07.law_true ns hl
        exact law_sp ho hO hS _
      · exact cxA (Mi.fn_ok (G := ⟨K, clsOf K cn⟩) F sc138 rfl (d := d138) rfl rfl rfl rfl (by decide) (b138 (K07.all (G := ⟨K, clsOf K cn⟩) t K07.kk)))
