import PyProof.Rows.All
import HandS.SetFor
import HandS.Strs
import Wide.All
import OpenK.AllK
import Wide.FinOn
import HandS.ForMost
import HandS.IsInst
import HandS.Wide
import HandS.Defaults
import HandS.CallSlots
import HandS.RaiseMore
import KE.GoesEnum
import KE.GoesMore
import HandS.Small
import HandS.Text
import HandS.More
import PyProof.StrBlock2
import HandS.ExcOwn
import HandS.Iter
import HandS.Words
import HandS.Comp
import HandS.Property
import OpenK.KOps
import HandS.SortInts
import PyProof.Conv_bool
import PyProof.Rows.Range3
import HandS.FStr
import HandS.Star
import KE.KStateDown
import HandS.Head0
import HandS.Head1
import HandS.Head2
import HandS.HeadEnd
import HandS.HeadHook1
import HandS.HeadHook2
import HandS.MakeKw
import HandS.MakeKwOnly
import HandS.ClsMeth
import HandS.DictComp
import HandS.HeadNt
import HandS.Gcd
import KE.KOpsOwn
import KE.KMathG
import HandS.Conv
import HandS.Records
import KE.KMathGC
import HandS.Head3
import PySem.Challenge.RW_loneround_k33_whole_answers_combined
set_option Elab.async false
set_option linter.all false
set_option maxRecDepth 100000
set_option maxHeartbeats 4000000
namespace MiP
open PySem PySem.Spec PyProof.Rows L2
/-- a set as it is made, and a heap with one more -/
noncomputable abbrev neu (w : World) : Obj := { cls := .type "set", dict := none, data := .set #[] 0 (.fresh 0 0 (!w.params.followText "set-order")) }
noncomputable abbrev neuH (w : World) (h : Heap) : Heap := h.push (neu w)
section
variable {P : Program} {w : World} {A : Around} {E : Value → Shared → Prop} {s : Shared}
set_option maxHeartbeats 8000000 in
theorem set_of_list {l : Addr} {us : Array Value} (ks : List Int) {Q : Value → Shared → Prop} (h0 : A.handled = none) (il : s.heap.IsList l us) (ia : IntsAre us.toList ks) (sm : ks.length + 1 < scanBound)
    (q : ∀ (h' : Heap) (t c : Nat), SetR w h' s.heap.objs.size (fun j => decide (j ∈ ks)) c → c ≤ ks.length → (∀ b o, s.heap.get? b = some o → h'.get? b = some o) → Q (.ref s.heap.objs.size) { s with heap := h', toks := t }) :
    wpAny (model P w) A (call (.type "set") [.ref l]) Q E s := by
  have sz : us.size = ks.length := by rw [← IntsAre.length ia, Array.length_toList]
  obtain ⟨cm, tm, em⟩ := F.called_set.mro
  have f1 := F.called_set.made
  have f2 := F.called_set.sub
  refine wpAny_call (codeAny_of_tree ?_)
  show wpAny _ _ (callAny (.type "set") _) _ _ _
  refine wpAny_pure ⟨Code.quiet_builtin _ (by decide +kernel), codeAny_builtin F.entry_type_call ?_⟩
  rw [Around.under_plain (weight_type_call_type "set" [.ref l] []) rfl]
  have f3 := F.called_set.notType
  have f4 := F.called_set.canCreate
  have f5 := F.typeCall_set_1 (.ref l)
  repeat (any_goals first | assumption | wp_step)
  refine codeAny_mono (code_set_led1 (.ref l) (E := E) (Q₁ := fun z s₁ => z = .ref s.heap.objs.size ∧ s₁ = { s with heap := neuH w s.heap }) ⟨rfl, rfl⟩) fun r s₁ hr => ?_
  cases r with
  | error e => exact hr
  | ok fl =>
    cases fl with
    | next => exact hr.elim
    | brk => exact hr.elim
    | cont => exact hr.elim
    | ret z =>
      obtain ⟨rfl, rfl⟩ := hr
      have got : (neuH w s.heap).get? s.heap.objs.size = some (neu w) := Heap.get?_push_size _ rfl
      have ty : Shared.TypeIs { s with heap := neuH w s.heap } (.ref s.heap.objs.size) "set" := ⟨_, got, rfl⟩
      have f6 := F.called_set.init.lookup
      have f7 := F.called_set.init.bind (.ref s.heap.objs.size)
      repeat (any_goals first | assumption | wp_step)
      refine codeAny_mono (codeAny_call_builtin (R := wants (fun r s₂ => r = .none ∧ ∃ h' t c, s₂ = { s with heap := h', toks := t } ∧ SetR w h' s.heap.objs.size (fun j => decide (j ∈ ks)) c ∧ c ≤ ks.length ∧ (∀ b o, s.heap.get? b = some o → h'.get? b = some o)) E)
        F.called_set.init.plain F.entry_set_init (check_set_init_1 ty ?_)) fun r2 s2 hr2 => ?_
      · have lt := il
        obtain ⟨⟨k1, k2, k3, k4⟩, e1, e2, n, e3⟩ := il
        simp only at e2 e3
        subst e2 e3
        have e1' : (neuH w s.heap).get? l = some { cls := .type "list", dict := k2, data := .seq us n, slots := k4 } := Heap.get?_push_of_some _ e1
        have il1 : (neuH w s.heap).IsList l us := ⟨_, e1', rfl, n, rfl⟩
        have g1 := F.sub_list_set
        have g2 := F.sub_list_frozenset
        have g3 : (Value.type "list" == Value.type "dict") = false := by decide
        unfold Builtin.«set.__init__» noKeywords Builtin.Frozenset.updateFrom
        generalize hw : pyIter = PI
        wp_walk
        subst hw
        refine wpAny_pyIter_list il1 ?_
        refine wpAny_bind (wpAny_runValue ?_)
        have lS : l < s.heap.objs.size := Heap.lt_size e1
        have h3 : A.in1.in1.in1.handled = none := by simp [h0]
        have z1 : (neuH w s.heap).objs.size = s.heap.objs.size + 1 := Heap.size_push ..
        have ne1 : l ≠ (neuH w s.heap).objs.size := by
          rw [z1]
          exact Nat.ne_of_lt (Nat.lt_succ_of_lt lS)
        have off : s.heap.objs.size ∉ [(neuH w s.heap).objs.size, l] := by
          simp only [List.mem_cons, List.mem_singleton, List.not_mem_nil, or_false, not_or]
          rw [z1]
          exact ⟨Nat.ne_of_lt (Nat.lt_succ_self _), Nat.ne_of_gt lS⟩
        have at_ : ∀ (i : Nat) (v : Value), us[i]? = some v → ∃ k t, ks[i]? = some k ∧ v = .int k t := fun i v hv => by
          have hi : i < ks.length := by rw [← sz]; exact (Array.getElem?_eq_some_iff.mp hv).1
          obtain ⟨t, e⟩ := PyProof.Rows.IntsAre.int_at ia i v (by rw [Array.getElem?_toList]; exact hv)
          have g := List.getElem?_eq_getElem hi
          exact ⟨ks[i], t, g, by rw [e, List.getD_eq_getElem?_getD, g]; rfl⟩
        refine set_update_ints ((Walks.list h3 _ l ne1 us).toS) s.heap.objs.size off ks sz sm at_ (us.size - 0) 0 _ (by omega) (Nat.zero_le _) ⟨⟨_, Heap.get?_push_size _ rfl, rfl, rfl⟩, il1.push _⟩ ?seed0 ?seed1
        case seed0 => exact ⟨0, Nat.le_refl 0, setR_new_at (Heap.get?_push_of_some _ got)⟩
        case seed1 =>
          intro s' c' hm hc hS
          obtain ⟨h', g', d', t', os'⟩ := s'
          have i1 : g' = s.gens := hm.gens
          have i2 : d' = s.drawn := hm.drawn
          have i3 : os' = s.os := hm.os
          subst i1 i2 i3
          show wpAny _ _ _ _ _ _
          refine wpAny_pure ?_
          show wpAny _ _ (ret Value.none) _ _ _
          rw [sz] at hc
          refine wpAny_pure ⟨rfl, h', t', c', rfl, hS, hc, fun b o e => ?_⟩
          have hb : b < s.heap.objs.size := Heap.lt_size e
          refine hm.heap b o ?_ (Heap.get?_push_of_some _ (Heap.get?_push_of_some _ e))
          simp only [List.mem_cons, List.mem_singleton, List.not_mem_nil, or_false, not_or]
          refine ⟨Nat.ne_of_lt hb, ?_⟩
          show b ≠ (neuH w s.heap).objs.size
          rw [z1]
          exact Nat.ne_of_lt (Nat.lt_succ_of_lt hb)
      · cases r2 with
        | error e => exact hr2
        | ok fl2 =>
          cases fl2 with
          | next => exact hr2.elim
          | brk => exact hr2.elim
          | cont => exact hr2.elim
          | ret r =>
            obtain ⟨rfl, h', t, c', rfl, hS, hc, hk⟩ := hr2
            repeat (any_goals first | assumption | wp_step)
            exact q _ _ _ hS hc hk
end
section
variable {X : Cx}
/-- set(xs), xs a list of ints -/
noncomputable def rSetI (K : PySem.W.Frag) (w : World) : List V → Hp → VK → Prop := fun xs H Q => ∃ (l : Addr) (ks : List Int), xs = [V.ref l] ∧ SqL K H l (ks.map V.int) ∧ ks.length ≤ 1000 ∧
  ∀ a n, H a = none → n ≤ ks.length → Q (.ref a) (upd H a (SetO w a (fun j => decide (j ∈ ks)) n))
theorem cr_setI (hc : X.calm = true) : CallR X (.type "set") (rSetI X.K X.w) := by
  intro pins s σ H xs us Q I r ⟨l, ks, e, hl, hn, q⟩
  subst e
  rw [Vals.ref1 r]
  obtain ⟨its, rv, pl, _⟩ := I.list hl
  have fr : H s.heap.objs.size = none := I.hok.fresh (Nat.le_refl _)
  refine set_of_list ks (I.ok.hd hc) pl.isList (ints_of_vals (by simpa using rv)) (by unfold scanBound; omega) fun h' t c R hcn k => ?_
  exact ⟨.ref _, upd H _ (SetO X.w _ (fun j => decide (j ∈ ks)) c), I.laid (t' := t) k (Nat.le_refl _) (setO_new R), rfl, q _ c fr hcn⟩
end
end MiP
set_option maxHeartbeats 4000000
namespace Mi
open PySem PySem.Spec PyProof.Rows L2

noncomputable abbrev St := L2.St
/-! ### values -/
inductive T where
  | non | bl (b : Bool) | int (i : Int) | str (s : Str)
  | lst (xs : List T) | tup (xs : List T) | dic (kvs : List (Key × T)) | ins (c : Nat) (fs : List (Str × T)) | scr (ns : List Int)
inductive O where
  | lst (xs : List T) | dic (kvs : List (Key × T)) | ins (c : Nat) (fs : List (Str × T))
noncomputable def O.frz : O → T
  | .lst xs => .lst xs
  | .dic kvs => .dic kvs
  | .ins c fs => .ins c fs
inductive R where
  | fz (t : T) | ow (o : O) | bo (i : Nat)
inductive Slot where
  | no | fz (t : T) | ow (o : O)
inductive Opd where
  | t (t : T) | b (i : Nat)

/-- what the text's names stand for -/
structure Gm where
  K : PySem.W.Frag
  cls : Nat → Addr

/-! ### worlds -/
structure Wd where
  F : Addr → Prop
  L : Addr → Prop
  H : Hp
noncomputable def Rdo (x : Option HO) (u : HO) : Prop := x = some u ∨ ∃ o, x = some (.frz o u)
theorem Rdo.inj {x : Option HO} {k1 k2 : List (Key × V)} (h1 : Rdo x (.dK k1)) (h2 : Rdo x (.dK k2)) : k1 = k2 := by
  rcases h1 with h1 | ⟨o, h1⟩ <;> rcases h2 with h2 | ⟨o', h2⟩ <;> rw [h1] at h2 <;> cases h2 <;> rfl
noncomputable def Kp (x y : Option HO) : Prop := x = y ∨ ∃ kvs o, x = some (.dK kvs) ∧ y = some (.frz o (.dK kvs))
theorem Kp.refl (x : Option HO) : Kp x x := .inl rfl
theorem Kp.trans {x y z : Option HO} (a : Kp x y) (b : Kp y z) : Kp x z := by
  rcases a with rfl | ⟨k, o, h1, h2⟩
  · exact b
  · rcases b with rfl | ⟨k', o', h3, h4⟩
    · exact .inr ⟨k, o, h1, h2⟩
    · rw [h2] at h3; cases h3
theorem Kp.rd {x y : Option HO} {kvs : List (Key × V)} (a : Kp x y) (h : Rdo x (.dK kvs)) : Rdo y (.dK kvs) := by
  rcases a with rfl | ⟨k, o, h1, h2⟩
  · exact h
  · have : kvs = k := h.inj (.inl h1)
    subst this
    exact .inr ⟨o, h2⟩
theorem Kp.eq {x y : Option HO} {u : HO} (a : Kp x y) (h : x = some u) (nd : ∀ kvs, ¬ Rdo (some u) (.dK kvs)) : y = some u := by
  rcases a with rfl | ⟨k, o, h1, h2⟩
  · exact h
  · rw [h] at h1; exact absurd (.inl h1) (nd k)
theorem Kp.locked {x y : Option HO} {o : Obj} {u : HO} (a : Kp x y) (h : x = some (.frz o u)) : y = some (.frz o u) := by
  rcases a with rfl | ⟨k, o', h1, h2⟩
  · exact h
  · rw [h] at h1; cases h1
theorem Kp.some {x y : Option HO} (a : Kp x y) (h : ∃ u, x = some u) : ∃ u, y = some u := by
  rcases a with rfl | ⟨k, o, h1, h2⟩
  · exact h
  · exact ⟨_, h2⟩
structure Ex (w w' : Wd) : Prop where
  fz : ∀ a, w.F a → w'.F a
  kp : ∀ a, w.F a → Kp (w.H a) (w'.H a)
  ot : ∀ a u, w.H a = some u → ¬ w.F a → ¬ w.L a → w'.H a = some u ∧ ¬ w'.F a ∧ ¬ w'.L a
theorem Ex.refl (w : Wd) : Ex w w := ⟨fun _ h => h, fun _ _ => .refl _, fun _ _ h1 h2 h3 => ⟨h1, h2, h3⟩⟩
theorem Ex.trans {a b c : Wd} (x : Ex a b) (y : Ex b c) : Ex a c :=
  ⟨fun p h => y.fz p (x.fz p h), fun p h => (x.kp p h).trans (y.kp p (x.fz p h)), fun p u h1 h2 h3 =>
    let ⟨q1, q2, q3⟩ := x.ot p u h1 h2 h3
    y.ot p u q1 q2 q3⟩

/-! ### representation -/
/-- the written part's tuples, lists -/
noncomputable def KT (K : PySem.W.Frag) (a : Addr) (xs : List V) : Prop := ∃ (o : Obj) (its : Array Value) (n : Nat), K.lookup a = some o ∧ o.cls = .type "tuple" ∧ o.data = .seq its n ∧ its.size ≤ sizeLine ∧ Vals xs its.toList
noncomputable def KL (K : PySem.W.Frag) (a : Addr) (xs : List V) : Prop := ∃ (o : Obj) (its : Array Value) (n : Nat), K.lookup a = some o ∧ o.cls = .type "list" ∧ o.dict = none ∧ o.data = .seq its n ∧ its.size ≤ sizeLine ∧ Vals xs its.toList
mutual
inductive RF (G : Gm) (w : Wd) : T → V → Prop
  | non : RF G w .non .non
  | bl (b : Bool) : RF G w (.bl b) (.bl b)
  | int (i : Int) : RF G w (.int i) (.int i)
  | str (s : Str) : RF G w (.str s) (.str s)
  | lst {xs : List T} {a : Addr} {vs : List V} : w.F a → w.H a = some (.lst vs) → RFs G w xs vs → RF G w (.lst xs) (.ref a)
  | tup {xs : List T} {a : Addr} {vs : List V} : (w.F a ∧ w.H a = some (.tup vs)) ∨ KT G.K a vs → RFs G w xs vs → RF G w (.tup xs) (.ref a)
  | dic {kvs : List (Key × T)} {a : Addr} {ks : List (Key × V)} : w.F a → Rdo (w.H a) (.dK ks) → RFk G w kvs ks → RF G w (.dic kvs) (.ref a)
  | ins {c : Nat} {fs : List (Str × T)} {a dx : Addr} {gs : List (Str × V)} : w.F a → w.H a = some (.ins (G.cls c) dx gs) → RFf G w fs gs → RF G w (.ins c fs) (.ref a)
  | scr {ns : List Int} {a : Addr} : (w.F a ∧ ∃ o, w.H a = some (.frz o (.lst (ns.map V.int)))) ∨ KL G.K a (ns.map V.int) → RF G w (.scr ns) (.ref a)
inductive RFs (G : Gm) (w : Wd) : List T → List V → Prop
  | nil : RFs G w [] []
  | cons {t : T} {v : V} {ts : List T} {vs : List V} : RF G w t v → RFs G w ts vs → RFs G w (t :: ts) (v :: vs)
inductive RFk (G : Gm) (w : Wd) : List (Key × T) → List (Key × V) → Prop
  | nil : RFk G w [] []
  | cons {k : Key} {t : T} {v : V} {ts : List (Key × T)} {vs : List (Key × V)} : RF G w t v → RFk G w ts vs → RFk G w ((k, t) :: ts) ((k, v) :: vs)
inductive RFf (G : Gm) (w : Wd) : List (Str × T) → List (Str × V) → Prop
  | nil : RFf G w [] []
  | cons {k : Str} {t : T} {v : V} {ts : List (Str × T)} {vs : List (Str × V)} : RF G w t v → RFf G w ts vs → RFf G w ((k, t) :: ts) ((k, v) :: vs)
end
/-- an owned object -/
inductive RO (G : Gm) (w : Wd) (p : Addr) : O → Prop
  | lst {xs : List T} {vs : List V} : w.H p = some (.lst vs) → RFs G w xs vs → RO G w p (.lst xs)
  | dic {kvs : List (Key × T)} {ks : List (Key × V)} : w.H p = some (.dK ks) → RFk G w kvs ks → RO G w p (.dic kvs)
  | ins {c : Nat} {fs : List (Str × T)} {dx : Addr} {gs : List (Str × V)} : w.H p = some (.ins (G.cls c) dx gs) → RFf G w fs gs → RO G w p (.ins c fs)

/-- what of the world a frozen tree leans on -/
structure Mo (w w' : Wd) : Prop where
  fz : ∀ a, w.F a → w'.F a
  kp : ∀ a, w.F a → Kp (w.H a) (w'.H a)
theorem Ex.mo {w w' : Wd} (x : Ex w w') : Mo w w' := ⟨x.fz, x.kp⟩
section
variable {G : Gm} {w w' : Wd}
mutual
theorem RF.mono (m : Mo w w') : ∀ {t : T} {v : V}, RF G w t v → RF G w' t v
  | _, _, .non => .non
  | _, _, .bl b => .bl b
  | _, _, .int i => .int i
  | _, _, .str s => .str s
  | _, _, .lst f h r => .lst (m.fz _ f) ((m.kp _ f).eq h (fun k q => by rcases q with q | ⟨o, q⟩ <;> cases q)) (RFs.mono m r)
  | _, _, .tup h r => .tup (h.imp (fun ⟨f, h⟩ => ⟨m.fz _ f, (m.kp _ f).eq h (fun k q => by rcases q with q | ⟨o, q⟩ <;> cases q)⟩) id) (RFs.mono m r)
  | _, _, .dic f h r => .dic (m.fz _ f) ((m.kp _ f).rd h) (RFk.mono m r)
  | _, _, .ins f h r => .ins (m.fz _ f) ((m.kp _ f).eq h (fun k q => by rcases q with q | ⟨o, q⟩ <;> cases q)) (RFf.mono m r)
  | _, _, .scr h => .scr (h.imp (fun ⟨f, o, h⟩ => ⟨m.fz _ f, o, (m.kp _ f).eq h (fun k q => by rcases q with q | ⟨o, q⟩ <;> cases q)⟩) id)
theorem RFs.mono (m : Mo w w') : ∀ {t : List T} {v : List V}, RFs G w t v → RFs G w' t v
  | _, _, .nil => .nil
  | _, _, .cons a b => .cons (RF.mono m a) (RFs.mono m b)
theorem RFk.mono (m : Mo w w') : ∀ {t : List (Key × T)} {v : List (Key × V)}, RFk G w t v → RFk G w' t v
  | _, _, .nil => .nil
  | _, _, .cons a b => .cons (RF.mono m a) (RFk.mono m b)
theorem RFf.mono (m : Mo w w') : ∀ {t : List (Str × T)} {v : List (Str × V)}, RFf G w t v → RFf G w' t v
  | _, _, .nil => .nil
  | _, _, .cons a b => .cons (RF.mono m a) (RFf.mono m b)
end
theorem RFs.length : ∀ {t : List T} {v : List V}, RFs G w t v → t.length = v.length
  | _, _, .nil => rfl
  | _, _, .cons _ b => congrArg Nat.succ (RFs.length b)
theorem RFs.append : ∀ {t t' : List T} {v v' : List V}, RFs G w t v → RFs G w t' v' → RFs G w (t ++ t') (v ++ v')
  | _, _, _, _, .nil, s => s
  | _, _, _, _, .cons a b, s => .cons a (RFs.append b s)
theorem RFs.get : ∀ {ts : List T} {vs : List V} {i : Nat} {t : T}, RFs G w ts vs → ts[i]? = some t → ∃ v, vs[i]? = some v ∧ RF G w t v
  | _, _, _, _, .nil, e => by simp at e
  | _, _, 0, _, .cons a _, e => by
    simp at e; subst e
    exact ⟨_, rfl, a⟩
  | _, _, i + 1, t, .cons _ b, e => by
    obtain ⟨v, h1, h2⟩ := RFs.get (i := i) (t := t) b (by simpa using e)
    exact ⟨v, by simpa using h1, h2⟩
theorem RFs.take : ∀ {ts : List T} {vs : List V} (n : Nat), RFs G w ts vs → RFs G w (ts.take n) (vs.take n)
  | _, _, 0, _ => .nil
  | _, _, _ + 1, .nil => .nil
  | _, _, n + 1, .cons r t => .cons r (RFs.take n t)
theorem RFs.drop : ∀ {ts : List T} {vs : List V} (n : Nat), RFs G w ts vs → RFs G w (ts.drop n) (vs.drop n)
  | _, _, 0, r => r
  | _, _, _ + 1, .nil => .nil
  | _, _, n + 1, .cons _ t => RFs.drop n t
theorem RFs.set {t : T} {v : V} (r : RF G w t v) : ∀ {ts : List T} {vs : List V} (i : Nat), RFs G w ts vs → RFs G w (ts.set i t) (vs.set i v)
  | _, _, _, .nil => .nil
  | _, _, 0, .cons _ q => .cons r q
  | _, _, i + 1, .cons q p => .cons q (RFs.set r i p)
theorem RFk.length : ∀ {t : List (Key × T)} {v : List (Key × V)}, RFk G w t v → t.length = v.length
  | _, _, .nil => rfl
  | _, _, .cons _ b => congrArg Nat.succ (RFk.length b)
end

/-! ### slots -/
noncomputable def SlR (G : Gm) (w : Wd) (s : Slot) (v : Option (Option V)) : Prop := match s with
  | .no => True
  | .fz t => ∃ x, v = some (some x) ∧ RF G w t x
  | .ow o => ∃ a, v = some (some (.ref a)) ∧ RO G w a o ∧ w.L a
structure SR (G : Gm) (w : Wd) (m : List Slot) (σ : St) : Prop where
  len : m.length = σ.length
  sl : ∀ (i : Nat) (s : Slot), m[i]? = some s → SlR G w s σ[i]?
  inj : ∀ (i j : Nat) (o o' : O) (a : Addr), m[i]? = some (.ow o) → m[j]? = some (.ow o') → σ[i]? = some (some (.ref a)) → σ[j]? = some (some (.ref a)) → i = j
  sep : ∀ a, w.L a → ¬ w.F a
  trk : ∀ a, w.F a → ∃ u, w.H a = some u
section
variable {G : Gm} {w w' : Wd} {m : List Slot} {σ : St} {i : Nat} {o : O} {a : Addr}
theorem RO.trk (r : RO G w a o) : ∃ u, w.H a = some u := by cases r <;> exact ⟨_, by assumption⟩
theorem RO.mono (r : RO G w a o) (mo : Mo w w') (h : w'.H a = w.H a) : RO G w' a o := by
  cases r with
  | lst h1 r => exact .lst (h.trans h1) (r.mono mo)
  | dic h1 r => exact .dic (h.trans h1) (r.mono mo)
  | ins h1 r => exact .ins (h.trans h1) (r.mono mo)
/-- the world may grow: what is owned stands as it stood -/
theorem SR.grow (S : SR G w m σ) (mo : Mo w w') (hL : ∀ a, w.L a → w'.L a ∧ ((∃ u, w.H a = some u) → w'.H a = w.H a)) (sep : ∀ a, w'.L a → ¬ w'.F a) (trk : ∀ a, w'.F a → ∃ u, w'.H a = some u) : SR G w' m σ := by
  refine ⟨S.len, fun i s h => ?_, S.inj, sep, trk⟩
  have q := S.sl i s h
  cases s with
  | no => trivial
  | fz t => obtain ⟨x, e, r⟩ := q; exact ⟨x, e, r.mono mo⟩
  | ow o => obtain ⟨a, e, r, l⟩ := q; exact ⟨a, e, r.mono mo ((hL a l).2 r.trk), (hL a l).1⟩
/-- a new object, owned -/
noncomputable def Wd.new (w : Wd) (p : Addr) (u : HO) : Wd := ⟨w.F, fun a => w.L a ∨ a = p, upd w.H p u⟩
theorem upd_trk {H : Hp} {p a : Addr} {u v : HO} (hp : H p = none) (h : H a = some v) : upd H p u a = some v := by
  rw [upd_ne (ne_of_none h hp)]; exact h
theorem Mo.new {w : Wd} {p : Addr} {u : HO} (trk : ∀ a, w.F a → ∃ u, w.H a = some u) (hp : w.H p = none) : Mo w (w.new p u) :=
  ⟨fun _ h => h, fun a h => by
    obtain ⟨v, e⟩ := trk a h
    exact .inl (e.trans (upd_trk hp e).symm)⟩
theorem Ex.new {w : Wd} {p : Addr} {u : HO} (trk : ∀ a, w.F a → ∃ u, w.H a = some u) (hp : w.H p = none) : Ex w (w.new p u) :=
  ⟨fun _ h => h, (Mo.new trk hp).kp, fun a v h1 h2 h3 => ⟨upd_trk hp h1, h2, fun q => q.elim h3 (ne_of_none h1 hp)⟩⟩
theorem SR.new (S : SR G w m σ) {p : Addr} {u : HO} (hp : w.H p = none) : SR G (w.new p u) m σ :=
  S.grow (Mo.new S.trk hp) (fun a l => ⟨.inl l, fun ⟨v, e⟩ => (upd_trk hp e).trans e.symm⟩)
    (fun a l f => l.elim (fun l => S.sep a l f) fun e => by
      obtain ⟨v, q⟩ := S.trk a f
      rw [e, hp] at q; cases q)
    fun a f => by
      obtain ⟨v, e⟩ := S.trk a f
      exact ⟨v, upd_trk hp e⟩
/-- an owned address is frozen -/
noncomputable def Wd.fr (w : Wd) (p : Addr) : Wd := ⟨fun a => w.F a ∨ a = p, fun a => w.L a ∧ a ≠ p, w.H⟩
theorem Mo.fr {p : Addr} : Mo w (w.fr p) := ⟨fun _ h => .inl h, fun _ _ => .refl _⟩
theorem Ex.fr {p : Addr} (l : w.L p) : Ex w (w.fr p) :=
  ⟨fun _ h => .inl h, fun _ _ => .refl _, fun a u h1 h2 h3 => ⟨h1, fun q => q.elim h2 fun e => h3 (e ▸ l), fun q => h3 q.1⟩⟩
theorem RO.rf {p : Addr} (r : RO G w p o) (f : w'.F p) (mo : Mo w w') (h : w'.H p = w.H p) : RF G w' o.frz (.ref p) := by
  cases r with
  | lst h1 r => exact .lst f (h.trans h1) (r.mono mo)
  | dic h1 r => exact .dic f (.inl (h.trans h1)) (r.mono mo)
  | ins h1 r => exact .ins f (h.trans h1) (r.mono mo)
/-- p: owned, in no slot -/
theorem SR.fr (S : SR G w m σ) {p : Addr} (l : w.L p) (k : ∃ u, w.H p = some u) (n : ∀ (i : Nat) (o : O), m[i]? = some (.ow o) → σ[i]? ≠ some (some (.ref p))) : SR G (w.fr p) m σ := by
  refine ⟨S.len, fun i s h => ?_, S.inj, fun a ⟨q, ne⟩ f => f.elim (S.sep a q) ne, fun a f => f.elim (S.trk a) fun e => e ▸ k⟩
  have q := S.sl i s h
  cases s with
  | no => trivial
  | fz t => obtain ⟨x, e, r⟩ := q; exact ⟨x, e, r.mono .fr⟩
  | ow o => obtain ⟨a, e, r, l'⟩ := q; exact ⟨a, e, r.mono .fr rfl, l', fun z => n i o h (z ▸ e)⟩
/-- a slot is frozen where it stands -/
theorem SR.frSlot (S : SR G w m σ) (h : m[i]? = some (.ow o)) (e : σ[i]? = some (some (.ref a))) : SR G (w.fr a) (m.set i (.fz o.frz)) σ ∧ RF G (w.fr a) o.frz (.ref a) ∧ Ex w (w.fr a) := by
  obtain ⟨a', e', r, l⟩ := S.sl i _ h
  rw [e] at e'
  cases e'
  have rf : RF G (w.fr a) o.frz (.ref a) := r.rf (.inr rfl) .fr rfl
  refine ⟨⟨by rw [List.length_set]; exact S.len, fun j s h' => ?_, fun j k o1 o2 b h1 h2 => ?_, fun b ⟨q, ne⟩ f => f.elim (S.sep b q) ne, fun b f => f.elim (S.trk b) fun z => z ▸ r.trk⟩, rf, .fr l⟩
  · by_cases hj : j = i
    · subst hj
      rw [List.getElem?_set_self (List.getElem?_eq_some_iff.mp h).1] at h'
      cases h'
      exact ⟨_, e, rf⟩
    · rw [List.getElem?_set_ne (Ne.symm hj)] at h'
      have q := S.sl j s h'
      cases s with
      | no => trivial
      | fz t => obtain ⟨x, e, r⟩ := q; exact ⟨x, e, r.mono .fr⟩
      | ow o' =>
        obtain ⟨b, eb, rb, lb⟩ := q
        refine ⟨b, eb, rb.mono .fr rfl, lb, fun z => hj ?_⟩
        exact S.inj j i o' o a h' h (z ▸ eb) e
  · have lt := (List.getElem?_eq_some_iff.mp h).1
    have ne : ∀ {k : Nat} {o1 : O}, (m.set i (.fz o.frz))[k]? = some (.ow o1) → m[k]? = some (.ow o1) := fun {k o1} hk => by
      by_cases hj : k = i
      · subst hj
        rw [List.getElem?_set_self lt] at hk
        cases hk
      · rwa [List.getElem?_set_ne (Ne.symm hj)] at hk
    exact S.inj j k o1 o2 b (ne h1) (ne h2)
/-- a slot takes a frozen value -/
theorem SR.setFz (S : SR G w m σ) {t : T} {v : V} (r : RF G w t v) : SR G w (m.set i (.fz t)) (σ.set i (some v)) := by
  have sub : ∀ {k : Nat} {o1 : O}, (m.set i (.fz t))[k]? = some (.ow o1) → k ≠ i ∧ m[k]? = some (.ow o1) := fun {k o1} hk => by
    by_cases hj : k = i
    · subst hj
      by_cases lt : k < m.length
      · rw [List.getElem?_set_self lt] at hk; cases hk
      · rw [List.getElem?_eq_none (by rw [List.length_set]; omega)] at hk; cases hk
    · exact ⟨hj, by rwa [List.getElem?_set_ne (Ne.symm hj)] at hk⟩
  refine ⟨by rw [List.length_set, List.length_set]; exact S.len, fun j s h => ?_, fun j k o1 o2 b h1 h2 e1 e2 => ?_, S.sep, S.trk⟩
  · by_cases hj : j = i
    · subst hj
      have lt : j < m.length := by have := (List.getElem?_eq_some_iff.mp h).1; rwa [List.length_set] at this
      rw [List.getElem?_set_self lt] at h
      cases h
      exact ⟨v, List.getElem?_set_self (by rw [← S.len]; exact lt), r⟩
    · rw [List.getElem?_set_ne (Ne.symm hj)] at h
      rw [List.getElem?_set_ne (Ne.symm hj)]
      exact S.sl j s h
  · obtain ⟨n1, q1⟩ := sub h1
    obtain ⟨n2, q2⟩ := sub h2
    rw [List.getElem?_set_ne (Ne.symm n1)] at e1
    rw [List.getElem?_set_ne (Ne.symm n2)] at e2
    exact S.inj j k o1 o2 b q1 q2 e1 e2
/-- a slot takes an owned object that stands in no slot -/
theorem SR.setOw (S : SR G w m σ) {p : Addr} (r : RO G w p o) (l : w.L p) (n : ∀ (i : Nat) (o : O), m[i]? = some (.ow o) → σ[i]? ≠ some (some (.ref p))) : SR G w (m.set i (.ow o)) (σ.set i (some (.ref p))) := by
  have sub : ∀ {k : Nat} {o1 : O}, (m.set i (.ow o))[k]? = some (.ow o1) → (k = i ∧ k < m.length) ∨ (k ≠ i ∧ m[k]? = some (.ow o1)) := fun {k o1} hk => by
    by_cases hj : k = i
    · subst hj
      refine .inl ⟨rfl, ?_⟩
      have := (List.getElem?_eq_some_iff.mp hk).1
      rwa [List.length_set] at this
    · exact .inr ⟨hj, by rwa [List.getElem?_set_ne (Ne.symm hj)] at hk⟩
  refine ⟨by rw [List.length_set, List.length_set]; exact S.len, fun j s h => ?_, fun j k o1 o2 b h1 h2 e1 e2 => ?_, S.sep, S.trk⟩
  · by_cases hj : j = i
    · subst hj
      have lt : j < m.length := by have := (List.getElem?_eq_some_iff.mp h).1; rwa [List.length_set] at this
      rw [List.getElem?_set_self lt] at h
      cases h
      exact ⟨p, List.getElem?_set_self (by rw [← S.len]; exact lt), r, l⟩
    · rw [List.getElem?_set_ne (Ne.symm hj)] at h
      rw [List.getElem?_set_ne (Ne.symm hj)]
      exact S.sl j s h
  · rcases sub h1 with ⟨n1, l1⟩ | ⟨n1, q1⟩ <;> rcases sub h2 with ⟨n2, l2⟩ | ⟨n2, q2⟩
    · rw [n1, n2]
    · subst n1
      rw [List.getElem?_set_self (by rw [← S.len]; exact l1)] at e1
      rw [List.getElem?_set_ne (Ne.symm n2)] at e2
      cases e1
      exact absurd e2 (n k o2 q2)
    · subst n2
      rw [List.getElem?_set_self (by rw [← S.len]; exact l2)] at e2
      rw [List.getElem?_set_ne (Ne.symm n1)] at e1
      cases e2
      exact absurd e1 (n j o1 q1)
    · rw [List.getElem?_set_ne (Ne.symm n1)] at e1
      rw [List.getElem?_set_ne (Ne.symm n2)] at e2
      exact S.inj j k o1 o2 b q1 q2 e1 e2
/-- a slot is emptied (moved out, or forgotten) -/
theorem SR.setNo (S : SR G w m σ) : SR G w (m.set i .no) σ := by
  have sub : ∀ {k : Nat} {o1 : O}, (m.set i Slot.no)[k]? = some (.ow o1) → m[k]? = some (.ow o1) := fun {k o1} hk => by
    by_cases hj : k = i
    · subst hj
      by_cases lt : k < m.length
      · rw [List.getElem?_set_self lt] at hk; cases hk
      · rw [List.getElem?_eq_none (by rw [List.length_set]; omega)] at hk; cases hk
    · rwa [List.getElem?_set_ne (Ne.symm hj)] at hk
  refine ⟨by rw [List.length_set]; exact S.len, fun j s h => ?_, fun j k o1 o2 b h1 h2 => S.inj j k o1 o2 b (sub h1) (sub h2), S.sep, S.trk⟩
  by_cases hj : j = i
  · subst hj
    have lt : j < m.length := by have := (List.getElem?_eq_some_iff.mp h).1; rwa [List.length_set] at this
    rw [List.getElem?_set_self lt] at h
    cases h
    trivial
  · rw [List.getElem?_set_ne (Ne.symm hj)] at h
    exact S.sl j s h
/-- the owned object of a slot is changed in place -/
noncomputable def Wd.wr (w : Wd) (p : Addr) (u : HO) : Wd := ⟨w.F, w.L, upd w.H p u⟩
theorem SR.write (S : SR G w m σ) {o' : O} {u : HO} (h : m[i]? = some (.ow o)) (e : σ[i]? = some (some (.ref a))) (r : RO G (w.wr a u) a o') : SR G (w.wr a u) (m.set i (.ow o')) σ ∧ Ex w (w.wr a u) := by
  obtain ⟨a', e', r0, l⟩ := S.sl i _ h
  rw [e] at e'
  cases e'
  have nf : ¬ w.F a := S.sep a l
  have mo : Mo w (w.wr a u) := ⟨fun _ h => h, fun b f => .inl (upd_ne (show b ≠ a from fun z => nf (by rw [← z]; exact f))).symm⟩
  have lt := (List.getElem?_eq_some_iff.mp h).1
  refine ⟨⟨by rw [List.length_set]; exact S.len, fun j s h' => ?_, fun j k o1 o2 b h1 h2 e1 e2 => ?_, S.sep, fun b f => ?_⟩, ⟨mo.fz, mo.kp, fun b v h1 h2 h3 => ⟨?_, h2, h3⟩⟩⟩
  · by_cases hj : j = i
    · subst hj
      rw [List.getElem?_set_self lt] at h'
      cases h'
      exact ⟨a, e, r, l⟩
    · rw [List.getElem?_set_ne (Ne.symm hj)] at h'
      have q := S.sl j s h'
      cases s with
      | no => trivial
      | fz t => obtain ⟨x, e, r⟩ := q; exact ⟨x, e, r.mono mo⟩
      | ow o2 =>
        obtain ⟨b, eb, rb, lb⟩ := q
        refine ⟨b, eb, rb.mono mo (upd_ne fun z => hj ?_), lb⟩
        exact S.inj j i o2 o a h' h (z ▸ eb) e
  · have sub : ∀ {k : Nat} {o1 : O}, (m.set i (.ow o'))[k]? = some (.ow o1) → ∃ o2, m[k]? = some (.ow o2) := fun {k o1} hk => by
      by_cases hj : k = i
      · subst hj; exact ⟨o, h⟩
      · exact ⟨o1, by rwa [List.getElem?_set_ne (Ne.symm hj)] at hk⟩
    obtain ⟨p1, q1⟩ := sub h1
    obtain ⟨p2, q2⟩ := sub h2
    exact S.inj j k p1 p2 b q1 q2 e1 e2
  · obtain ⟨v, q⟩ := S.trk b f
    exact ⟨v, (upd_ne (show b ≠ a from fun z => nf (by rw [← z]; exact f))).trans q⟩
  · show upd w.H a u b = some v
    rw [upd_ne (show b ≠ a from fun z => h3 (by rw [z]; exact l))]; exact h1
end
end Mi
set_option maxHeartbeats 4000000
namespace Mi
open PySem PySem.Spec PyProof.Rows L2

/-! ### results -/
inductive Res (α : Type) where
  | ok (a : α) (m : List Slot) | ex (x : T) (m : List Slot) | no
/-- no exception leaves a comprehension -/
noncomputable def Res.calm {α : Type} (r : Res α) : Res α := match r with
  | .ex _ _ => .no
  | r => r
noncomputable def Res.bind {α β : Type} (r : Res α) (f : α → List Slot → Res β) : Res β := match r with
  | .ok a m => f a m
  | .ex x m => .ex x m
  | .no => .no
inductive CRes where
  | ok (r : R) (outs : List Slot) | ex (x : T) (outs : List Slot) | no
inductive Fl where
  | nx (m : List Slot) | rt (r : R) (m : List Slot) | bk (m : List Slot) | ct (m : List Slot) | ex (x : T) (m : List Slot) | no

/-! ### operations -/
inductive Ty where
  | int | bool | str | list | tuple | dict
  deriving DecidableEq
inductive Op where
  | add | sub | mul | fdiv | mod | pow | neg | eq | ne | lt | le | gt | ge | isin | notin | isn | notn | len | idx | sl (lo hi : Bool)
  | srt | dict | uniq | tuple | min2 | max2 | lcm | gcd | dmod | mind | maxd | abs | int | str | list | all | any | join | isi (l : List Ty) | isi1 (l : Ty)
noncomputable def Ty.has : T → Ty → Bool
  | .bl _, .bool => true
  | .bl _, .int => true
  | .int _, .int => true
  | .str _, .str => true
  | .lst _, .list => true
  | .scr _, .list => true
  | .tup _, .tuple => true
  | .dic _, .dict => true
  | _, _ => false
noncomputable def flatT : T → Bool
  | .non => true
  | .bl _ => true
  | .int _ => true
  | .str _ => true
  | _ => false
/-- == of flat values -/
noncomputable def eqT : T → T → Bool
  | .non, .non => true
  | .bl a, .bl b => a == b
  | .bl a, .int b => (if a then 1 else 0) == b
  | .int a, .bl b => a == (if b then 1 else 0)
  | .int a, .int b => a == b
  | .str a, .str b => a == b
  | _, _ => false
noncomputable def isNon : T → Bool
  | .non => true
  | _ => false
noncomputable def cutT (xs : List T) (lo hi : Option Int) : List T := (xs.drop (HT.sIx xs.length 0 lo)).take (HT.sIx xs.length xs.length hi - HT.sIx xs.length 0 lo)
noncomputable def cutI (xs : List Int) (lo hi : Option Int) : List Int := (xs.drop (HT.sIx xs.length 0 lo)).take (HT.sIx xs.length xs.length hi - HT.sIx xs.length 0 lo)
noncomputable def bools : List T → Option (List Bool)
  | [] => some []
  | .bl b :: r => (bools r).map (b :: ·)
  | _ :: _ => none
noncomputable def strsT : List T → Option (List Str)
  | [] => some []
  | .str b :: r => (strsT r).map (b :: ·)
  | _ :: _ => none
noncomputable def slF (x : T) (lo hi : Option Int) : Option R := match x with
  | .lst xs => some (.ow (.lst (cutT xs lo hi)))
  | .scr ns => some (.ow (.lst ((cutI ns lo hi).map .int)))
  | .str z => if z.length ≤ sizeLine then some (.fz (.str (cutS z lo hi))) else none
  | _ => none
noncomputable def fI (i : Int) : Option R := some (.fz (.int i))
noncomputable def fB (b : Bool) : Option R := some (.fz (.bl b))
noncomputable def fS (s : Str) : Option R := some (.fz (.str s))
noncomputable def addF : T → T → Option R
  | .int i, .int j => fI (i + j)
  | .str x, .str y => if x.length + y.length ≤ sizeLine then fS (x ++ y) else none
  | .lst xs, .lst ys => if xs.length + ys.length ≤ sizeLine then some (.ow (.lst (xs ++ ys))) else none
  | _, _ => none
noncomputable def subF : T → T → Option R
  | .int i, .int j => fI (i - j)
  | _, _ => none
noncomputable def mulF : T → T → Option R
  | .int i, .int j => if i.natAbs.log2 + j.natAbs.log2 < 1000000 then fI (i * j) else none
  | .str x, .int n => if 0 ≤ n ∧ n ≤ 1000 ∧ x.length ≤ 1000 then fS (Txt.mul x n) else none
  | _, _ => none
noncomputable def fdivF : T → T → Option R
  | .int i, .int j => if 0 < j ∧ j.natAbs.log2 < 9000 then fI (i / j) else none
  | _, _ => none
noncomputable def modF : T → T → Option R
  | .int i, .int j => if 0 < j then fI (i % j) else none
  | _, _ => none
noncomputable def powF : T → T → Option R
  | .int i, .int j => if 0 ≤ j ∧ j ≤ 1000000 ∧ i.natAbs < 2 ^ 64 then fI (i ^ j.toNat) else none
  | _, _ => none
noncomputable def scalT : T → T → Bool
  | .bl _, .int _ => false
  | .int _, .bl _ => false
  | x, y => flatT x && flatT y
mutual
noncomputable def pyT : T → Option PyData
  | .non => some .none
  | .bl b => some (.bool b)
  | .int i => some (.int i)
  | .str s => some (.str s)
  | .lst xs => (pyTs xs).map .list
  | .tup xs => (pyTs xs).map .tuple
  | _ => none
noncomputable def pyTs : List T → Option (List PyData)
  | [] => some []
  | x :: r => match pyT x, pyTs r with
    | some d, some ds => some (d :: ds)
    | _, _ => none
end
noncomputable def sameK : T → T → Bool
  | .bl _, .bl _ => true
  | .int _, .int _ => true
  | .str _, .str _ => true
  | _, _ => false
noncomputable def valT (kvs : List (Key × T)) (k : Key) : Option T := (kvs.find? fun kv => decide (kv.1 = k)).map (·.2)
/-- == of dicts of flat values of one kind -/
noncomputable def hitsT (ls : List (Key × T)) : List (Key × T) → Option Bool
  | [] => some true
  | (k, v) :: r => match valT ls k with
    | none => some false
    | some u => if sameK v u = true then (hitsT ls r).map fun b => eqT v u && b else none
noncomputable def eqD (k : Bool → Bool) (ks ls : List (Key × T)) : Option R := if ks.length = ls.length then (match hitsT ls ks with
  | some b => fB (k b)
  | none => none) else fB (k false)
noncomputable def eqF (x y : T) (k : Bool → Bool) : Option R := if scalT x y = true then fB (k (eqT x y)) else match pyT x, pyT y with
  | some d, some e => if SeqAt.shaped d = true ∧ SeqAt.shaped e = true then fB (k (PyData.eqv d e)) else none
  | _, _ => match x, y with
    | .dic ks, .dic ls => eqD k ks ls
    | _, _ => none
noncomputable def cmpF (p : Int → Int → Bool) : T → T → Option R
  | .int i, .int j => fB (p i j)
  | _, _ => none
noncomputable def keyT : T → Option Key
  | .int i => some (.inl i)
  | .str s => some (.inr s)
  | _ => none
noncomputable def unkey : Key → T
  | .inl i => .int i
  | .inr s => .str s
noncomputable def intsT : List T → Option (List Int)
  | [] => some []
  | .int b :: r => (intsT r).map (b :: ·)
  | _ :: _ => none
/-- the ints of a list -/
noncomputable def seqI : T → Option (List Int)
  | .lst xs => intsT xs
  | .scr ns => some ns
  | _ => none
noncomputable def insS (a : Int) : List Int → List Int
  | [] => [a]
  | b :: r => if a ≤ b then a :: b :: r else b :: insS a r
noncomputable def sortS : List Int → List Int
  | [] => []
  | a :: r => insS a (sortS r)
noncomputable def insU (a : Int) : List Int → List Int
  | [] => [a]
  | b :: r => if a < b then a :: b :: r else if a = b then b :: r else b :: insU a r
noncomputable def uniqS : List Int → List Int
  | [] => []
  | a :: r => insU a (uniqS r)
noncomputable def srtF (x : T) : Option R := (seqI x).bind fun ns => some (.ow (.lst ((sortS ns).map .int)))
noncomputable def uniqF (x : T) : Option R := (seqI x).bind fun ns => if ns.length < 64 then some (.ow (.lst ((uniqS ns).map .int))) else none
noncomputable def tupF : T → Option R
  | .lst xs => some (.fz (.tup xs))
  | .tup xs => some (.fz (.tup xs))
  | _ => none
noncomputable def inF (k : Bool → Bool) : T → T → Option R
  | .str x, .str z => (match x.cps.toList with
    | [c] => fB (k (decide (c ∈ z.cps.toList)))
    | _ => none)
  | x, .lst xs => if flatT x = true ∧ xs.all flatT = true then fB (k (xs.any fun y => eqT y x)) else none
  | x, .tup xs => if flatT x = true ∧ xs.all flatT = true then fB (k (xs.any fun y => eqT y x)) else none
  | x, .dic kvs => (keyT x).bind fun q => fB (k (kvs.any fun kv => decide (kv.1 = q)))
  | _, _ => none
noncomputable def lenF : T → Option R
  | .str z => if z.length ≤ sizeLine then fI z.length else none
  | .lst xs => fI xs.length
  | .tup xs => fI xs.length
  | .scr xs => fI xs.length
  | .dic kvs => fI kvs.length
  | _ => none
noncomputable def idxF : T → T → Option R
  | .lst xs, .int i => (atI xs i).map .fz
  | .tup xs, .int i => (atI xs i).map .fz
  | .scr ns, .int i => (atI ns i).map fun n => .fz (.int n)
  | .str z, .int i => if z.length ≤ sizeLine then (atI z.cps.toList i).map fun c => .fz (.str ⟨#[c]⟩) else none
  | .dic kvs, k => (keyT k).bind fun q => (valT kvs q).map .fz
  | _, _ => none
noncomputable def putT (kvs : List (Key × T)) (k : Key) (v : T) : List (Key × T) := if (kvs.any fun kv => decide (kv.1 = k)) = true then kvs.map fun kv => if decide (kv.1 = k) = true then (kv.1, v) else kv else kvs ++ [(k, v)]
noncomputable def putsT (acc l : List (Key × T)) : List (Key × T) := l.foldl (fun a kv => putT a kv.1 kv.2) acc
noncomputable def pairT : T → Option (Key × T)
  | .tup [k, v] => (keyT k).map fun q => (q, v)
  | _ => none
noncomputable def pairsT : List T → Option (List (Key × T))
  | [] => some []
  | x :: r => (pairT x).bind fun p => (pairsT r).map fun l => p :: l
/-- dict(..): of a list of pairs, of a dict -/
noncomputable def dictF : T → Option R
  | .lst xs => (pairsT xs).map fun kvs => .ow (.dic (putsT [] kvs))
  | .dic kvs => some (.ow (.dic kvs))
  | _ => none
noncomputable def lcmF : T → T → Option R
  | .int i, .int j => if 0 < i ∧ i < 2 ^ 60 ∧ 0 < j ∧ j < 2 ^ 60 then fI ((Nat.lcm i.toNat j.toNat : Nat) : Int) else none
  | _, _ => none
noncomputable def gcdF : T → T → Option R
  | .int i, .int j => fI ((Nat.gcd i.natAbs j.natAbs : Nat) : Int)
  | _, _ => none
noncomputable def dmodF : T → T → Option R
  | .int i, .int j => if 0 < j ∧ j.natAbs.log2 < 9000 then some (.fz (.tup [.int (i / j), .int (i % j)])) else none
  | _, _ => none
noncomputable def minF (k : Int → Int → Bool) : T → T → Option R
  | .int i, .int j => fI (if k i j = true then j else i)
  | _, _ => none
noncomputable def negF : T → Option R
  | .int i => fI (-i)
  | _ => none
noncomputable def absF : T → Option R
  | .int i => fI (if i < 0 then -i else i)
  | _ => none
noncomputable def intF : T → Option R
  | .int i => fI i
  | .bl k => fI (if k then 1 else 0)
  | .str a => (match PySem.intText? a with
    | some n => if a.length ≤ 640 then fI n else none
    | none => none)
  | _ => none
noncomputable def strF : T → Option R
  | .int i => if i.natAbs.log2 < 1920 then fS (toString i) else none
  | .str x => fS x
  | _ => none
noncomputable def listF : T → Option R
  | .lst xs => some (.ow (.lst xs))
  | .tup xs => some (.ow (.lst xs))
  | .scr ns => some (.ow (.lst (ns.map .int)))
  | .dic kvs => some (.ow (.lst (kvs.map fun kv => unkey kv.1)))
  | _ => none
noncomputable def allF : T → Option R
  | .lst xs => (bools xs).bind fun bs => fB (bs.all id)
  | _ => none
noncomputable def anyF : T → Option R
  | .lst xs => (bools xs).bind fun bs => fB (bs.any id)
  | _ => none
noncomputable def joinF : T → T → Option R
  | .str a, .lst xs => (strsT xs).bind fun ys => if (ys.map (·.length)).sum + ys.length * a.length ≤ 16777216 then fS (Txt.join a ys) else none
  | _, _ => none
noncomputable def isnF (k : Bool → Bool) (x y : T) : Option R := if isNon y = true then fB (k (isNon x)) else none
noncomputable def intO : T → Option Int
  | .int i => some i
  | _ => none
noncomputable def isiF (l : List Ty) : T → Option R
  | .ins _ _ => none
  | x => fB (l.any (Ty.has x))
noncomputable def isi1F (l : Ty) : T → Option R
  | .ins _ _ => none
  | x => fB (Ty.has x l)
noncomputable def op1 : Op → Option (T → Option R)
  | .neg => some negF
  | .len => some lenF
  | .sl false false => some fun x => slF x none none
  | .abs => some absF
  | .int => some intF
  | .str => some strF
  | .list => some listF
  | .srt => some srtF
  | .dict => some dictF
  | .uniq => some uniqF
  | .tuple => some tupF
  | .all => some allF
  | .any => some anyF
  | .isi l => some (isiF l)
  | .isi1 l => some (isi1F l)
  | _ => none
noncomputable def op2 : Op → Option (T → T → Option R)
  | .add => some addF
  | .sub => some subF
  | .mul => some mulF
  | .fdiv => some fdivF
  | .mod => some modF
  | .pow => some powF
  | .eq => some fun x y => eqF x y id
  | .ne => some fun x y => eqF x y not
  | .lt => some (cmpF fun i j => decide (i < j))
  | .le => some (cmpF fun i j => decide (i ≤ j))
  | .gt => some (cmpF fun i j => decide (j < i))
  | .ge => some (cmpF fun i j => decide (j ≤ i))
  | .isin => some (inF id)
  | .notin => some (inF not)
  | .isn => some (isnF id)
  | .notn => some (isnF not)
  | .idx => some idxF
  | .sl true false => some fun x i => (intO i).bind fun i => slF x (some i) none
  | .sl false true => some fun x i => (intO i).bind fun i => slF x none (some i)
  | .join => some joinF
  | .lcm => some lcmF
  | .min2 => some (minF fun i j => decide (j < i))
  | .max2 => some (minF fun i j => decide (j > i))
  | .gcd => some gcdF
  | .dmod => some dmodF
  | _ => none
noncomputable def op3 : Op → Option (T → T → T → Option R)
  | .sl true true => some fun x i j => (intO i).bind fun i => (intO j).bind fun j => slF x (some i) (some j)
  | _ => none
noncomputable def opF (f : Op) (ts : List T) : Option R := match ts with
  | [x] => (op1 f).bind fun g => g x
  | [x, y] => (op2 f).bind fun g => g x y
  | [x, y, z] => (op3 f).bind fun g => g x y z
  | _ => none

/-! ### syntax -/
mutual
inductive Pt where
  | nm (i : Nat) | tup (ps : Pts)
inductive Pts where
  | nil | cons (p : Pt) (r : Pts)
end
noncomputable def Pts.len : Pts → Nat
  | .nil => 0
  | .cons _ r => r.len + 1
mutual
inductive E where
  | c (t : T) | var (i : Nat) | lst (es : Es) | tup (es : Es) | op (f : Op) (es : Es)
  | an (a b : E) | or (a b : E) | nt (a : E) | ite (c a b : E) | ch (f g : Op) (a b c : E)
  | slc (a b c : E) | jn (a b : E)
  | fld (c : Nat) (e : E) (f : Str) | con (c : Nat) (e : E) (f : Str) (t : T) | prop (c f : Nat) (e : E) | meth (c f : Nat) (n : Str) (io : List Bool) (e : E) (es : Es) | mk (c f : Nat) (pm : List Nat) (es : Es) | ceq (neg : Bool) (c f : Nat) (a b : E) | spc (s : Bool) (c f : Nat) (a : E) | fst (es : Es) | lsx (bs : List Bool) (es : Es)
  | dic0 | dsc (kvs : List (Key × T)) | dgt (a b c : E) | dcm (own : List Nat) (p : Pt) (s : Src) (cs : Es) (k v : E) | isc (cs ns : List Nat) (e : E) | bop (c f : Nat) (a b : E) | uop (c f : Nat) (a : E) | inn (neg : Bool) (c f : Nat) (a b : E) | gti (c f : Nat) (a b : E)
  | ccm (f : Nat) | lr (s : Src) | lend (is : List Nat) (e : E) | mki (c f : Nat) (io : List Bool) (es : Es)
  | call (f : Nat) (io : List Bool) (es : Es)
  | comp (own : List Nat) (p : Pt) (s : Src) (cs : Es) (e : E)
inductive Es where
  | nil | cons (e : E) (r : Es)
inductive Src where
  | it (e : E) | rng1 (e : E) | rng2 (a b : E) | enum (e : E) | zip (a b : E)
end
mutual
inductive S where
  | set (i : Nat) (e : E) | unp (p : Pt) (e : E) | par (i j : Nat) (a b : E) | aug (i : Nat) (f : Op) (e : E) | ex (e : E) | ret (e : E) | retn
  | ife (c : E) (a b : Ss) | wh (c : E) (b : Ss) | fr (p : Pt) (s : Src) (b : Ss) | app (i : Nat) (e : E) | sto (i : Nat) (k v : E) | stf (i c : Nat) (f : Str) (e : E) | stp (i c : Nat) (fs : List Str) (e : E) | nev | brk | cnt | pas | paro (i j : Nat) (a b : E) | scp (is A : List Nat) (b : Ss)
inductive Ss where
  | nil | cons (s : S) (r : Ss)
end
structure Def where
  np : Nat
  ns : Nat
  io : List Bool
  body : Ss

/-! ### slots -/
/-- arguments in the order of the parameters -/
noncomputable def pmT (pm : List Nat) (ts : List T) : List T := match pm with
  | [] => ts
  | pm => pm.map fun i => ts.getD i .non
noncomputable def Es.len : Es → Nat
  | .nil => 0
  | .cons _ r => r.len + 1
/-- a result as an operand: a new object is frozen -/
noncomputable def R.opd : R → Opd
  | .fz t => .t t
  | .ow o => .t o.frz
  | .bo i => .b i
/-- an operand read now -/
noncomputable def der (m : List Slot) : Opd → Option T
  | .t t => some t
  | .b i => match m[i]? with
    | some (.ow o) => some o.frz
    | some (.fz t) => some t
    | _ => none
noncomputable def ders (m : List Slot) : List Opd → Option (List T)
  | [] => some []
  | d :: r => match der m d, ders m r with
    | some t, some ts => some (t :: ts)
    | _, _ => none
/-- an operand that is kept by someone: its slot is frozen -/
noncomputable def esc (m : List Slot) : Opd → Option (T × List Slot)
  | .t t => some (t, m)
  | .b i => match m[i]? with
    | some (.ow o) => some (o.frz, m.set i (.fz o.frz))
    | some (.fz t) => some (t, m)
    | _ => none
noncomputable def escs (m : List Slot) : List Opd → Option (List T × List Slot)
  | [] => some ([], m)
  | d :: r => match esc m d with
    | some (t, m1) => (match escs m1 r with
      | some (ts, m2) => some (t :: ts, m2)
      | none => none)
    | none => none
/-- arguments: what the callee may change is moved out of its slot -/
noncomputable def pass (m : List Slot) : List Bool → List Opd → Option (List Slot × List Slot)
  | [], [] => some ([], m)
  | false :: io, d :: r => match esc m d with
    | some (t, m1) => (match pass m1 io r with
      | some (ss, m2) => some (.fz t :: ss, m2)
      | none => none)
    | none => none
  | true :: io, .b i :: r => match m[i]? with
    | some (.ow o) => (match pass (m.set i .no) io r with
      | some (ss, m2) => some (.ow o :: ss, m2)
      | none => none)
    | _ => none
  | _, _ => none
/-- what comes back into the slots -/
noncomputable def back (m : List Slot) : List Bool → List Opd → List Slot → Option (List Slot)
  | [], [], _ => some m
  | false :: io, _ :: r, _ :: outs => back m io r outs
  | true :: io, .b i :: r, s :: outs => back (m.set i s) io r outs
  | _, _, _ => none
mutual
noncomputable def bindP (m : List Slot) : Pt → T → Option (List Slot)
  | .nm i, x => if i < m.length then some (m.set i (.fz x)) else none
  | .tup ps, x => match x with
    | .tup xs => bindPs m ps xs
    | _ => none
noncomputable def bindPs (m : List Slot) : Pts → List T → Option (List Slot)
  | .nil, [] => some m
  | .cons p r, x :: xs => (match bindP m p x with
    | some m1 => bindPs m1 r xs
    | none => none)
  | _, _ => none
end
noncomputable def wipeM (m : List Slot) : List Nat → List Slot
  | [] => m
  | v :: vs => (wipeM m vs).set v .no
/-- the slots vs as they stand in m0 -/
noncomputable def restM (m0 m : List Slot) : List Nat → List Slot
  | [] => m
  | v :: vs => (restM m0 m vs).set v (m0[v]?.getD .no)
noncomputable def noOw (m : List Slot) (vs : List Nat) : Bool := vs.all fun v => match m[v]? with
  | some (.ow _) => false
  | some _ => true
  | none => false
noncomputable def rangeT (lo hi : Int) : List T := (List.range (hi - lo).toNat).map fun (k : Nat) => T.int (lo + (k : Int))
noncomputable def enumT : Nat → List T → List T
  | _, [] => []
  | k, x :: r => .tup [.int (k : Int), x] :: enumT (k + 1) r
noncomputable def zipT : List T → List T → List T
  | x :: xs, y :: ys => .tup [x, y] :: zipT xs ys
  | _, _ => []
/-- what a for walks: the items -/
noncomputable def itemsT : T → Option (List T)
  | .lst xs => some xs
  | .tup xs => some xs
  | .scr ns => some (ns.map .int)
  | .dic kvs => some (kvs.map fun kv => unkey kv.1)
  | .str z => if z.length ≤ sizeLine then some (z.cps.toList.map fun c => .str ⟨#[c]⟩) else none
  | _ => none
noncomputable def loT (x : T) : Option (List T) := match x with
  | .lst xs => some xs
  | _ => none
noncomputable def loE (x : T) : Option (List T) := match x with
  | .lst xs => some xs
  | .tup xs => some xs
  | _ => none
noncomputable def wideI (i : Int) : Bool := decide (-(2 ^ 62) ≤ i ∧ i < 2 ^ 62)

noncomputable def O.lendable : O → Bool
  | .dic _ => false
  | _ => true
/-- owned objects, lent: those of is are frozen, the others out of sight -/
noncomputable def lendM (is : List Nat) : Nat → List Slot → List Slot
  | _, [] => []
  | k, .ow o :: r => (if k ∈ is ∧ o.lendable = true then .fz o.frz else .no) :: lendM is (k + 1) r
  | k, .fz t :: r => .fz t :: lendM is (k + 1) r
  | k, .no :: r => .no :: lendM is (k + 1) r
/-- flat contents -/
noncomputable def thinO : O → Bool
  | .lst xs => xs.all flatT
  | .dic kvs => kvs.all fun kv => flatT kv.2
  | .ins _ _ => false
/-! ### the comprehension's and the loops' turns -/
noncomputable def compGo (own : List Nat) (p : Pt) (cond elt : List Slot → Res R) : List T → List T → List Slot → Res (List T)
  | [], acc, m => .ok acc m
  | x :: xs, acc, m => match bindP (wipeM m own) p x with
    | none => .no
    | some m1 => (cond m1).bind fun r m2 => match r with
      | .fz (.bl true) => (elt m2).bind fun r m3 => match esc m3 r.opd with
        | some (t, m4) => if acc.length < sizeLine then compGo own p cond elt xs (acc ++ [t]) (wipeM m4 own) else .no
        | none => .no
      | .fz (.bl false) => compGo own p cond elt xs acc (wipeM m2 own)
      | _ => .no
noncomputable def dcGo (own : List Nat) (p : Pt) (cond ke ve : List Slot → Res R) : List T → List (Key × T) → List Slot → Res (List (Key × T))
  | [], acc, m => .ok acc m
  | x :: xs, acc, m => match bindP (wipeM m own) p x with
    | none => .no
    | some m1 => (cond m1).bind fun r m2 => match r with
      | .fz (.bl true) => (ke m2).bind fun rk m3 => match rk with
        | .fz kt => (match keyT kt with
          | some k => (ve m3).bind fun rv m4 => (match esc m4 rv.opd with
            | some (t, m5) => if acc.length < sizeLine then dcGo own p cond ke ve xs (putT acc k t) (wipeM m5 own) else .no
            | none => .no)
          | none => .no)
        | _ => .no
      | .fz (.bl false) => dcGo own p cond ke ve xs acc (wipeM m2 own)
      | _ => .no
noncomputable def forGo (p : Pt) (body : List Slot → Fl) : List T → List Slot → Fl
  | [], m => .nx m
  | x :: xs, m => match bindP m p x with
    | none => .no
    | some m1 => match body m1 with
      | .nx m2 => forGo p body xs m2
      | .ct m2 => forGo p body xs m2
      | .bk m2 => .nx m2
      | f => f
noncomputable def whGo (cond : List Slot → Res R) (body : List Slot → Fl) : Nat → List Slot → Fl
  | 0, _ => .no
  | n + 1, m => match cond m with
    | .ok (.fz (.bl true)) m1 => (match body m1 with
      | .nx m2 => whGo cond body n m2
      | .ct m2 => whGo cond body n m2
      | .bk m2 => .nx m2
      | f => f)
    | .ok (.fz (.bl false)) m1 => .nx m1
    | .ex x m1 => .ex x m1
    | _ => .no

/-! ### the evaluator -/
noncomputable def opR (f : Op) (ds : List Opd) (m : List Slot) : Res R := match ders m ds with
  | some ts => (match opF f ts with
    | some r => .ok r m
    | none => .no)
  | none => .no
/-- the right one of an own == : of the same class, or no instance -/
noncomputable def besideT (c : Nat) : Option T → Bool
  | some (.ins c' _) => decide (c' = c)
  | some _ => true
  | none => false
noncomputable def callR (cal : Nat → List Slot → CRes) (f : Nat) (io : List Bool) (ds : List Opd) (m : List Slot) : Res R := match pass m io ds with
  | some (args, m1) => (match cal f args with
    | .ok (.bo _) _ => .no
    | .ok r outs => (match back m1 io ds outs with
      | some m2 => .ok r m2
      | none => .no)
    | .ex x outs => (match back m1 io ds outs with
      | some m2 => .ex x m2
      | none => .no)
    | .no => .no)
  | none => .no
section
variable (cal : Nat → List Slot → CRes)
mutual
noncomputable def evE : E → List Slot → Res R
  | .c t, m => .ok (.fz t) m
  | .var i, m => match m[i]? with
    | some (.fz t) => .ok (.fz t) m
    | some (.ow _) => .ok (.bo i) m
    | _ => .no
  | .lst es, m => (evDs es m).bind fun ds m1 => match escs m1 ds with
    | some (ts, m2) => if ts.length ≤ sizeLine then .ok (.ow (.lst ts)) m2 else .no
    | none => .no
  | .tup es, m => (evDs es m).bind fun ds m1 => match escs m1 ds with
    | some (ts, m2) => if ts.length ≤ sizeLine then .ok (.fz (.tup ts)) m2 else .no
    | none => .no
  | .op f es, m => (evDs es m).bind fun ds m1 => opR f ds m1
  | .an a b, m => (evE a m).bind fun r m1 => match r with
    | .fz (.bl true) => evE b m1
    | .fz (.bl false) => .ok (.fz (.bl false)) m1
    | _ => .no
  | .or a b, m => (evE a m).bind fun r m1 => match r with
    | .fz (.bl true) => .ok (.fz (.bl true)) m1
    | .fz (.bl false) => evE b m1
    | _ => .no
  | .nt a, m => (evE a m).bind fun r m1 => match r with
    | .fz (.bl k) => .ok (.fz (.bl (!k))) m1
    | _ => .no
  | .ite c a b, m => (evE c m).bind fun r m1 => match r with
    | .fz (.bl true) => evE a m1
    | .fz (.bl false) => evE b m1
    | _ => .no
  | .ch f g a b c, m => (evE a m).bind fun ra m1 => (evE b m1).bind fun rb m2 => (opR f [ra.opd, rb.opd] m2).bind fun r m3 => match r with
    | .fz (.bl true) => (evE c m3).bind fun rc m4 => opR g [rb.opd, rc.opd] m4
    | .fz (.bl false) => .ok (.fz (.bl false)) m3
    | _ => .no
  | .slc a b c, m => (evE a m).bind fun ra m1 => (evE b m1).bind fun rb m2 => match der m2 rb.opd with
    | some (.int i) => (evE c m2).bind fun rc m3 => (match der m3 rc.opd, der m3 ra.opd with
      | some (.int j), some t => (match slF t (some i) (some j) with
        | some r => .ok r m3
        | none => .no)
      | _, _ => .no)
    | _ => .no
  | .jn a b, m => (evE a m).bind fun ra m1 => match der m1 ra.opd with
    | some (.str z) => (evE b m1).bind fun rb m2 => (match der m2 rb.opd with
      | some t => (match joinF (.str z) t with
        | some r => .ok r m2
        | none => .no)
      | none => .no)
    | _ => .no
  | .fld c e f, m => (evE e m).bind fun r m1 => match der m1 r.opd with
    | some (.ins c' fs) => if c' = c then (match fs.lookup f with
      | some t => .ok (.fz t) m1
      | none => .no) else .no
    | _ => .no
  | .con c e f t, m => (evE e m).bind fun r m1 => match der m1 r.opd with
    | some (.ins c' fs) => if c' = c ∧ fs.lookup f = none then .ok (.fz t) m1 else .no
    | _ => .no
  | .prop c f e, m => (evE e m).bind fun r m1 => match der m1 r.opd with
    | some (.ins c' _) => if c' = c then (callR cal f [false] [r.opd] m1).calm else .no
    | _ => .no
  | .meth c f n io e es, m => (evE e m).bind fun r m1 => match der m1 r.opd with
    | some (.ins c' fs) => if c' = c ∧ fs.lookup n = none then (evDs es m1).bind fun ds m2 => (callR cal f (false :: io) (r.opd :: ds) m2).calm else .no
    | _ => .no
  | .mk c f pm es, m => (evDs es m).bind fun ds m1 => match escs m1 ds with
    | some (ts, m2) => (match cal f (.ow (.ins c []) :: (pmT pm ts).map .fz) with
      | .ok (.fz .non) (.ow o :: _) => .ok (.ow o) m2
      | _ => .no)
    | none => .no
  | .ceq neg c f a b, m => (evE a m).bind fun ra m1 => (evE b m1).bind fun rb m2 => match der m2 ra.opd with
    | some (.ins c' _) => if c' = c ∧ besideT c (der m2 rb.opd) = true then (callR cal f [false, false] [ra.opd, rb.opd] m2).calm.bind fun r m3 => (match r with
      | .fz (.bl k) => .ok (.fz (.bl (if neg = true then !k else k))) m3
      | _ => .no) else .no
    | _ => opR (if neg = true then .ne else .eq) [ra.opd, rb.opd] m2
  | .spc s c f a, m => (evE a m).bind fun ra m1 => match der m1 ra.opd with
    | some (.ins c' _) => if c' = c then (callR cal f [false] [ra.opd] m1).calm.bind fun r m2 => (match r with
      | .fz (.str z) => if s = true then .ok (.fz (.str z)) m2 else .no
      | .fz (.bl z) => if s = true then .no else .ok (.fz (.bl z)) m2
      | _ => .no) else .no
    | _ => .no
  | .lsx bs es, m => (evDx es bs m).bind fun ds m1 => match escs m1 ds with
    | some (ts, m2) => if ts.length ≤ sizeLine then .ok (.ow (.lst ts)) m2 else .no
    | none => .no
  | .fst es, m => (evJs es Str.empty m).bind fun z m1 => .ok (.fz (.str z)) m1
  | .dic0, m => .ok (.ow (.dic [])) m
  | .dgt a b c, m => (evE a m).bind fun ra m1 => match der m1 ra.opd with
    | some (.dic _) => (evE b m1).bind fun rb m2 => (evE c m2).bind fun rc m3 => (match der m3 ra.opd, der m3 rb.opd, der m3 rc.opd with
      | some (.dic kvs), some k, some x => if flatT x = true then (match keyT k with
        | some q => .ok (.fz ((valT kvs q).getD x)) m3
        | none => .no) else .no
      | _, _, _ => .no)
    | _ => .no
  | .dsc kvs, m => if kvs.all (fun kv => flatT kv.2) = true ∧ kvs.length ≤ 15 then .ok (.ow (.dic (putsT [] kvs))) m else .no
  | .dcm own p s cs k v, m => (evSrc s m).bind fun xs m1 => if noOw m1 own = true then
      (dcGo own p (fun m => evAll cs m) (fun m => evE k m) (fun m => evE v m) xs [] (wipeM m1 own)).calm.bind fun acc m2 => .ok (.ow (.dic acc)) (restM m1 m2 own)
    else .no
  | .isc cs ns e, m => (evE e m).bind fun r m1 => match der m1 r.opd with
    | some (.ins c _) => if c ∈ cs then .ok (.fz (.bl true)) m1 else if c ∈ ns then .ok (.fz (.bl false)) m1 else .no
    | some _ => .ok (.fz (.bl false)) m1
    | none => .no
  | .bop c f a b, m => (evE a m).bind fun ra m1 => (evE b m1).bind fun rb m2 => match der m2 ra.opd, der m2 rb.opd with
    | some (.ins c1 _), some (.ins c2 _) => if c1 = c ∧ c2 = c then (callR cal f [false, false] [ra.opd, rb.opd] m2).calm else .no
    | _, _ => .no
  | .uop c f a, m => (evE a m).bind fun ra m1 => match der m1 ra.opd with
    | some (.ins c1 _) => if c1 = c then (callR cal f [false] [ra.opd] m1).calm else .no
    | _ => .no
  | .inn neg c f a b, m => (evE a m).bind fun ra m1 => (evE b m1).bind fun rb m2 => match der m2 rb.opd with
    | some (.ins c1 _) => if c1 = c then (callR cal f [false, false] [rb.opd, ra.opd] m2).calm.bind fun r m3 => (match r with
      | .fz (.bl k) => .ok (.fz (.bl (if neg = true then !k else k))) m3
      | _ => .no) else .no
    | _ => .no
  | .gti c f a b, m => (evE a m).bind fun ra m1 => (evE b m1).bind fun rb m2 => match der m2 ra.opd with
    | some (.ins c1 _) => if c1 = c then (callR cal f [false, false] [ra.opd, rb.opd] m2).calm else .no
    | _ => .no
  | .ccm f, m => match cal f [.no] with
    | .ok (.fz t) _ => .ok (.fz t) m
    | .ok (.ow o) _ => .ok (.ow o) m
    | _ => .no
  | .lr s, m => (evSrc s m).bind fun xs m1 => if xs.length ≤ sizeLine then .ok (.ow (.lst xs)) m1 else .no
  | .lend is e, m => match evE e (lendM is 0 m) with
    | .ok (.fz t) _ => if flatT t = true then .ok (.fz t) m else .no
    | .ok (.ow o) _ => if thinO o = true then .ok (.ow o) m else .no
    | _ => .no
  | .mki c f io es, m => (evDs es m).bind fun ds m1 => match pass m1 io ds with
    | some (args, m2) => (match cal f (.ow (.ins c []) :: args) with
      | .ok (.fz .non) (.ow o :: outs) => (match back m2 io ds outs with
        | some m3 => .ok (.ow o) m3
        | none => .no)
      | _ => .no)
    | none => .no
  | .call f io es, m => (evDs es m).bind fun ds m1 => callR cal f io ds m1
  | .comp own p s cs e, m => (evSrc s m).bind fun xs m1 => if noOw m1 own = true then
      (compGo own p (fun m => evAll cs m) (fun m => evE e m) xs [] (wipeM m1 own)).calm.bind fun acc m2 => .ok (.ow (.lst acc)) (restM m1 m2 own)
    else .no
noncomputable def evDs : Es → List Slot → Res (List Opd)
  | .nil, m => .ok [] m
  | .cons e r, m => (evE e m).bind fun x m1 => (evDs r m1).bind fun xs m2 => .ok (x.opd :: xs) m2
/-- items, some of them starred -/
noncomputable def evDx : Es → List Bool → List Slot → Res (List Opd)
  | .nil, _, m => .ok [] m
  | .cons e r, bs, m => (evE e m).bind fun x m1 => if bs.headD false = true then (match der m1 x.opd with
      | some (.lst xs) => (evDx r bs.tail m1).bind fun ds m2 => .ok (xs.map Opd.t ++ ds) m2
      | _ => .no) else (evDx r bs.tail m1).bind fun ds m2 => .ok (x.opd :: ds) m2
/-- the texts one behind the other -/
noncomputable def evJs : Es → Str → List Slot → Res Str
  | .nil, acc, m => .ok acc m
  | .cons e r, acc, m => (evE e m).bind fun x m1 => match x with
    | .fz (.str y) => if (acc ++ y).length ≤ sizeLine then evJs r (acc ++ y) m1 else .no
    | .fz (.int i) => if (acc ++ toString i).length ≤ sizeLine ∧ i.natAbs.log2 < 1920 then evJs r (acc ++ toString i) m1 else .no
    | _ => .no
noncomputable def evAll : Es → List Slot → Res R
  | .nil, m => .ok (.fz (.bl true)) m
  | .cons e r, m => (evE e m).bind fun x m1 => match x with
    | .fz (.bl true) => evAll r m1
    | .fz (.bl false) => .ok (.fz (.bl false)) m1
    | _ => .no
noncomputable def evSrc : Src → List Slot → Res (List T)
  | .it e, m => (evE e m).bind fun r m1 => match esc m1 r.opd with
    | some (t, m2) => (match itemsT t with
      | some xs => .ok xs m2
      | none => .no)
    | none => .no
  | .rng1 e, m => (evE e m).bind fun r m1 => match der m1 r.opd with
    | some (.int j) => if wideI j = true then .ok (rangeT 0 j) m1 else .no
    | _ => .no
  | .rng2 a b, m => (evE a m).bind fun ra m1 => (evE b m1).bind fun rb m2 => match der m2 ra.opd, der m2 rb.opd with
    | some (.int i), some (.int j) => if wideI i = true ∧ wideI j = true then .ok (rangeT i j) m2 else .no
    | _, _ => .no
  | .enum e, m => (evE e m).bind fun r m1 => match esc m1 r.opd with
    | some (t, m2) => (match loE t with
      | some xs => .ok (enumT 0 xs) m2
      | none => .no)
    | none => .no
  | .zip a b, m => (evE a m).bind fun ra m1 => (evE b m1).bind fun rb m2 => match escs m2 [ra.opd, rb.opd] with
    | some ([t, u], m3) => (match loT t, loT u with
      | some xs, some ys => .ok (zipT xs ys) m3
      | _, _ => .no)
    | _ => .no
end
/-- name += value, name -= value: whole numbers -/
noncomputable def augF (f : Op) (x y : T) : Option T := match f, x, y with
  | .add, .int i, .int j => some (.int (i + j))
  | .sub, .int i, .int j => some (.int (i - j))
  | _, _, _ => none
/-- a value that is returned: an owned slot's object is moved out -/
noncomputable def outR (r : R) (m : List Slot) : Option (R × List Slot) := match r with
  | .bo i => (match m[i]? with
    | some (.ow o) => some (.ow o, m.set i .no)
    | some (.fz t) => some (.fz t, m)
    | _ => none)
  | r => some (r, m)
/-- name = value -/
noncomputable def putR (i : Nat) (r : R) (m : List Slot) : Fl := if i < m.length then (match r with
    | .fz t => .nx (m.set i (.fz t))
    | .ow o => .nx (m.set i (.ow o))
    | .bo j => (match esc m (.b j) with
      | some (t, m1) => .nx (m1.set i (.fz t))
      | none => .no)) else .no
noncomputable def putS (f : Str) (v : T) : List (Str × T) → List (Str × T)
  | [] => [(f, v)]
  | (g, x) :: r => if g = f then (g, v) :: r else (g, x) :: putS f v r
noncomputable def putSs (l : List (Str × T)) (gs : List (Str × T)) : List (Str × T) := l.foldl (fun g p => putS p.1 p.2 g) gs
noncomputable def ofR (r : Res R) (k : R → List Slot → Fl) : Fl := match r with
  | .ok r m => k r m
  | .ex x m => .ex x m
  | .no => .no
variable (L : Nat)
mutual
noncomputable def evS : S → List Slot → Fl
  | .set i e, m => ofR (evE cal e m) fun r m1 => putR i r m1
  | .unp p e, m => ofR (evE cal e m) fun r m1 => match esc m1 r.opd with
    | some (t, m2) => (match bindP m2 p t with
      | some m3 => .nx m3
      | none => .no)
    | none => .no
  | .par i j a b, m => ofR (evE cal a m) fun ra m1 => ofR (evE cal b m1) fun rb m2 => match escs m2 [ra.opd, rb.opd] with
    | some ([t, u], m3) => if i < m3.length ∧ j < m3.length then .nx ((m3.set i (.fz t)).set j (.fz u)) else .no
    | _ => .no
  | .aug i f e, m => match m[i]? with
    | some (.fz x) => ofR (evE cal e m) fun r m1 => (match m1[i]?, der m1 r.opd with
      | some (.fz _), some y => (match augF f x y with
        | some z => .nx (m1.set i (.fz z))
        | none => .no)
      | _, _ => .no)
    | _ => .no
  | .ex e, m => ofR (evE cal e m) fun _ m1 => .nx m1
  | .ret e, m => ofR (evE cal e m) fun r m1 => match outR r m1 with
    | some (r, m2) => .rt r m2
    | none => .no
  | .retn, m => .rt (.fz .non) m
  | .ife c a b, m => ofR (evE cal c m) fun r m1 => match r with
    | .fz (.bl true) => evSs a m1
    | .fz (.bl false) => evSs b m1
    | _ => .no
  | .wh c b, m => whGo (fun m => evE cal c m) (fun m => evSs b m) L m
  | .fr p s b, m => match evSrc cal s m with
    | .ok xs m1 => forGo p (fun m => evSs b m) xs m1
    | .ex x m1 => .ex x m1
    | .no => .no
  | .app i e, m => match m[i]? with
    | some (.ow (.lst _)) => ofR (evE cal e m) fun r m1 => (match esc m1 r.opd with
      | some (t, m2) => (match m2[i]? with
        | some (.ow (.lst xs)) => if xs.length < sizeLine then .nx (m2.set i (.ow (.lst (xs ++ [t])))) else .no
        | _ => .no)
      | none => .no)
    | _ => .no
  | .sto i k v, m => ofR (evE cal v m) fun rv m1 => match m1[i]? with
    | some (.ow _) => ofR (evE cal k m1) fun rk m2 => (match esc m2 rv.opd with
      | some (t, m3) => (match der m3 rk.opd, m3[i]? with
        | some (.int j), some (.ow (.lst xs)) => (match ixN xs.length j with
          | some n => .nx (m3.set i (.ow (.lst (xs.set n t))))
          | none => .no)
        | some kt, some (.ow (.dic kvs)) => (match keyT kt with
          | some k => if kvs.length < sizeLine then .nx (m3.set i (.ow (.dic (putT kvs k t)))) else .no
          | none => .no)
        | _, _ => .no)
      | none => .no)
    | _ => .no
  | .stf i c f e, m => ofR (evE cal e m) fun r m1 => match esc m1 r.opd with
    | some (t, m2) => (match m2[i]? with
      | some (.ow (.ins c' fs)) => if c' = c ∧ fs.length < 1000 then .nx (m2.set i (.ow (.ins c (putS f t fs)))) else .no
      | _ => .no)
    | none => .no
  | .stp i c fs e, m => ofR (evE cal e m) fun r m1 => match esc m1 r.opd with
    | some (.tup ts, m2) => (match m2[i]? with
      | some (.ow (.ins c' gs)) => if c' = c ∧ gs.length + fs.length < 1000 ∧ ts.length = fs.length then .nx (m2.set i (.ow (.ins c (putSs (fs.zip ts) gs)))) else .no
      | _ => .no)
    | _ => .no
  | .paro i j a b, m => ofR (evE cal a m) fun ra m1 => match ra with
    | .ow o1 => ofR (evE cal b m1) fun rb m2 => (match rb with
      | .ow o2 => if i < m2.length ∧ j < m2.length ∧ i ≠ j then .nx ((m2.set i (.ow o1)).set j (.ow o2)) else .no
      | _ => .no)
    | _ => .no
  | .scp is A b, m => match evSs b (lendM is 0 m) with
    | .nx m1 => if m1.length = m.length then .nx (wipeM m A) else .no
    | _ => .no
  | .nev, _ => .no
  | .brk, m => .bk m
  | .cnt, m => .ct m
  | .pas, m => .nx m
noncomputable def evSs : Ss → List Slot → Fl
  | .nil, m => .nx m
  | .cons s r, m => match evS s m with
    | .nx m1 => evSs r m1
    | f => f
end
end
/-- what the caller sees of the arguments' slots -/
noncomputable def outsM : List Bool → List Slot → List Slot
  | [], _ => []
  | _ :: io, [] => .no :: outsM io []
  | true :: io, s :: m => s :: outsM io m
  | false :: io, _ :: m => .no :: outsM io m
noncomputable def runD (cal : Nat → List Slot → CRes) (L : Nat) (d : Def) (args : List Slot) : CRes := if args.length = d.np then (match evSs cal L d.body (args ++ List.replicate (d.ns - d.np) .no) with
    | .nx m => .ok (.fz .non) (outsM d.io m)
    | .rt (.bo _) _ => .no
    | .rt r m => .ok r (outsM d.io m)
    | .ex x m => .ex x (outsM d.io m)
    | _ => .no) else .no
noncomputable def callF (Γ : Nat → Option Def) (L : Nat) : Nat → Nat → List Slot → CRes
  | 0, _, _ => .no
  | k + 1, f, args => match Γ f with
    | some d => runD (callF Γ L k) L d args
    | none => .no
end Mi
set_option maxHeartbeats 4000000
namespace Mi
open PySem PySem.Spec PyProof.Rows L2

/-! ### results, read as wishes -/
noncomputable def Res.sat {α : Type} (r : Res α) (A : α → List Slot → Prop) (B : T → List Slot → Prop) : Prop := match r with
  | .ok a m => A a m
  | .ex x m => B x m
  | .no => False
theorem Res.sat_bind {α β : Type} {r : Res α} {f : α → List Slot → Res β} {A : β → List Slot → Prop} {B : T → List Slot → Prop} : (r.bind f).sat A B ↔ r.sat (fun a m => (f a m).sat A B) B := by
  cases r <;> exact Iff.rfl
theorem Res.sat_mono {α : Type} {r : Res α} {A A' : α → List Slot → Prop} {B : T → List Slot → Prop} (h : r.sat A B) (k : ∀ a m, A a m → A' a m) : r.sat A' B := by
  cases r with
  | ok a m => exact k a m h
  | ex x m => exact h
  | no => exact h

structure Ct where
  G : Gm
  w0 : Wd
  s0 : St
  fx : Nat → Bool
  EM : T → List Slot → Prop
/-- a result's relation -/
noncomputable def RR (G : Gm) (w : Wd) (m : List Slot) (σ : St) : R → V → Prop
  | .fz t, v => RF G w t v
  | .ow o, v => ∃ p, v = .ref p ∧ RO G w p o ∧ w.L p ∧ ∀ (i : Nat) (o' : O), m[i]? = some (.ow o') → σ[i]? ≠ some (some (.ref p))
  | .bo i, v => σ[i]? = some (some v)
noncomputable def RD (G : Gm) (w : Wd) (σ : St) : Opd → V → Prop
  | .t t, v => RF G w t v
  | .b i, v => σ[i]? = some (some v)
inductive RDs (G : Gm) (w : Wd) (σ : St) : List Opd → List V → Prop
  | nil : RDs G w σ [] []
  | cons {d : Opd} {v : V} {ds : List Opd} {vs : List V} : RD G w σ d v → RDs G w σ ds vs → RDs G w σ (d :: ds) (v :: vs)
/-- representation now: the top may be owned -/
inductive RA (G : Gm) (w : Wd) : T → V → Prop
  | fz {t : T} {v : V} : RF G w t v → RA G w t v
  | ow {o : O} {p : Addr} : RO G w p o → RA G w o.frz (.ref p)
inductive RAs (G : Gm) (w : Wd) : List T → List V → Prop
  | nil : RAs G w [] []
  | cons {t : T} {v : V} {ts : List T} {vs : List V} : RA G w t v → RAs G w ts vs → RAs G w (t :: ts) (v :: vs)
section
variable {G : Gm} {w w' : Wd} {m m' : List Slot} {σ : St}
theorem RD.mono {d : Opd} {v : V} (r : RD G w σ d v) (mo : Mo w w') : RD G w' σ d v := by
  cases d with
  | t t => exact RF.mono mo r
  | b i => exact r
theorem RDs.mono {ds : List Opd} {vs : List V} (r : RDs G w σ ds vs) (mo : Mo w w') : RDs G w' σ ds vs := by
  induction r with
  | nil => exact .nil
  | cons a _ ih => exact .cons (a.mono mo) ih
theorem RAs.length {ts : List T} {vs : List V} (r : RAs G w ts vs) : ts.length = vs.length := by
  induction r with
  | nil => rfl
  | cons _ _ ih => exact congrArg Nat.succ ih
/-- an operand is read -/
theorem SR.der (S : SR G w m σ) {d : Opd} {v : V} {t : T} (r : RD G w σ d v) (h : der m d = some t) : RA G w t v := by
  cases d with
  | t t' =>
    cases h
    exact .fz r
  | b i =>
    have r' : σ[i]? = some (some v) := r
    cases e : m[i]? with
    | none => simp [Mi.der, e] at h
    | some s =>
      have q := S.sl i s e
      cases s with
      | no => simp [Mi.der, e] at h
      | fz t' =>
        simp only [Mi.der, e, Option.some.injEq] at h
        subst h
        obtain ⟨x, e1, e2⟩ := q
        rw [r'] at e1
        cases e1
        exact .fz e2
      | ow o =>
        simp only [Mi.der, e, Option.some.injEq] at h
        subst h
        obtain ⟨a, e1, e2, _⟩ := q
        rw [r'] at e1
        cases e1
        exact .ow e2
/-- an operand is kept: its slot is frozen -/
theorem SR.esc (S : SR G w m σ) {d : Opd} {v : V} {t : T} (r : RD G w σ d v) (h : esc m d = some (t, m')) : ∃ w', w'.H = w.H ∧ SR G w' m' σ ∧ Ex w w' ∧ RF G w' t v := by
  cases d with
  | t t' =>
    cases h
    exact ⟨w, rfl, S, .refl w, r⟩
  | b i =>
    have r' : σ[i]? = some (some v) := r
    cases e : m[i]? with
    | none => simp [Mi.esc, e] at h
    | some s =>
      have q := S.sl i s e
      cases s with
      | no => simp [Mi.esc, e] at h
      | fz t' =>
        simp only [Mi.esc, e, Option.some.injEq, Prod.mk.injEq] at h
        obtain ⟨rfl, rfl⟩ := h
        obtain ⟨x, e1, e2⟩ := q
        rw [r'] at e1
        cases e1
        exact ⟨w, rfl, S, .refl w, e2⟩
      | ow o =>
        simp only [Mi.esc, e, Option.some.injEq, Prod.mk.injEq] at h
        obtain ⟨rfl, rfl⟩ := h
        obtain ⟨a, e1, _, _⟩ := q
        rw [r'] at e1
        cases e1
        obtain ⟨h1, h2, h3⟩ := S.frSlot e r'
        exact ⟨w.fr a, rfl, h1, h3, h2⟩
theorem SR.escs : ∀ {ds : List Opd} {vs : List V} {ts : List T} {w : Wd} {m m' : List Slot}, SR G w m σ → RDs G w σ ds vs → escs m ds = some (ts, m') → ∃ w', w'.H = w.H ∧ SR G w' m' σ ∧ Ex w w' ∧ RFs G w' ts vs
  | _, _, _, w, _, _, S, .nil, h => by cases h; exact ⟨w, rfl, S, .refl w, .nil⟩
  | _, _, _, w, m, _, S, .cons (d := d) (ds := ds) a b, h => by
    unfold Mi.escs at h
    cases h1 : Mi.esc m d with
    | none => rw [h1] at h; cases h
    | some p =>
      obtain ⟨t, m1⟩ := p
      rw [h1] at h
      obtain ⟨w1, e1, S1, x1, r1⟩ := S.esc a h1
      simp only at h
      cases h2 : Mi.escs m1 ds with
      | none => rw [h2] at h; cases h
      | some p2 =>
        obtain ⟨us, m2⟩ := p2
        rw [h2] at h
        cases h
        obtain ⟨w2, e2, S2, x2, r2⟩ := SR.escs S1 (b.mono x1.mo) h2
        exact ⟨w2, e2.trans e1, S2, x1.trans x2, .cons (r1.mono x2.mo) r2⟩
/-- a result as an operand -/
theorem SR.opd (S : SR G w m σ) {r : R} {v : V} (q : RR G w m σ r v) : ∃ w', w'.H = w.H ∧ SR G w' m σ ∧ Ex w w' ∧ RD G w' σ r.opd v := by
  cases r with
  | fz t => exact ⟨w, rfl, S, .refl w, q⟩
  | bo i => exact ⟨w, rfl, S, .refl w, q⟩
  | ow o =>
    obtain ⟨p, rfl, r, l, n⟩ := q
    exact ⟨w.fr p, rfl, S.fr l r.trk n, .fr l, r.rf (.inr rfl) .fr rfl⟩
end

/-! ### readings -/
structure Pre (C : Ct) (w : Wd) (m : List Slot) (σ : St) : Prop where
  sr : SR C.G w m σ
  ex : Ex C.w0 w
  fix : ∀ j, C.fx j = true → σ[j]? = C.s0[j]?
theorem Pre.step {C : Ct} {w w' : Wd} {m m' : List Slot} {σ : St} (p : Pre C w m σ) (s : SR C.G w' m' σ) (x : Ex w w') : Pre C w' m' σ := ⟨s, p.ex.trans x, p.fix⟩
section
variable (C : Ct)
noncomputable def rdE (f : List Slot → Res R) : TE := fun σ H Q => ∃ w m, w.H = H ∧ Pre C w m σ ∧ (f m).sat (fun r m' => ∀ w' v, SR C.G w' m' σ → Ex w w' → RR C.G w' m' σ r v → Q v w'.H) C.EM
noncomputable def rdD (f : List Slot → Res Opd) : TE := fun σ H Q => ∃ w m, w.H = H ∧ Pre C w m σ ∧ (f m).sat (fun d m' => ∀ w' v, SR C.G w' m' σ → Ex w w' → RD C.G w' σ d v → Q v w'.H) C.EM
noncomputable def rdDs (f : List Slot → Res (List Opd)) : TA := fun σ H Q => ∃ w m, w.H = H ∧ Pre C w m σ ∧ (f m).sat (fun ds m' => ∀ w' vs, SR C.G w' m' σ → Ex w w' → RDs C.G w' σ ds vs → Q vs w'.H) C.EM
noncomputable def rdB (f : List Slot → Res R) : TT := fun σ H Q => ∃ w m, w.H = H ∧ Pre C w m σ ∧ (f m).sat (fun r m' => ∃ k, r = .fz (.bl k) ∧ ∀ w', SR C.G w' m' σ → Ex w w' → Q k w'.H) C.EM
end
theorem PE.imp {X : Cx} {e : Expr} {t t' : TE} (h : PE X e t) (i : ∀ σ H Q, t' σ H Q → t σ H Q) : PE X e t' := ⟨fun pins s σ H Q I q => h.run pins s σ H Q I (i σ H Q q)⟩
theorem PT.imp {X : Cx} {e : Expr} {t t' : TT} (h : PT X e t) (i : ∀ σ H Q, t' σ H Q → t σ H Q) : PT X e t' := ⟨fun pins s σ H Q I q => h.run pins s σ H Q I (i σ H Q q)⟩
theorem PW.imp {X : Cx} {e : Expr} {t t' : TT} (h : PW X e t) (i : ∀ σ H Q, t' σ H Q → t σ H Q) : PW X e t' := ⟨fun wh pins s σ H Q I q => h.run wh pins s σ H Q I (i σ H Q q)⟩
theorem PA.imp {X : Cx} {es : List Expr} {t t' : TA} (h : PA X es t) (i : ∀ σ H Q, t' σ H Q → t σ H Q) : PA X es t' := ⟨fun p pins s σ H Q I q => h.run p pins s σ H Q I (i σ H Q q)⟩
theorem PS.imp {X : Cx} {e : Stmt} {t t' : TS} (h : PS X e t) (i : ∀ D σ H, t' D σ H → t D σ H) : PS X e t' := ⟨fun pins s σ H D I q => h.run pins s σ H D I (i D σ H q)⟩
theorem PSs.imp {X : Cx} {e : List Stmt} {t t' : TS} (h : PSs X e t) (i : ∀ D σ H, t' D σ H → t D σ H) : PSs X e t' := ⟨fun pins s σ H D I q => h.run pins s σ H D I (i D σ H q)⟩

section
variable {C : Ct} {X : Cx}
noncomputable def opdF (f : List Slot → Res R) : List Slot → Res Opd := fun m => (f m).bind fun r m' => .ok r.opd m'
theorem rd_opd {f : List Slot → Res R} {σ : St} {H : Hp} {Q : VK} (h : rdD C (opdF f) σ H Q) : rdE C f σ H Q := by
  obtain ⟨w, m, e, P, q⟩ := h
  refine ⟨w, m, e, P, ?_⟩
  rw [opdF, Res.sat_bind] at q
  refine Res.sat_mono q fun r m' k w' v S' x' rr => ?_
  obtain ⟨w2, e2, S2, x2, d2⟩ := S'.opd rr
  have := k w2 v S2 (x'.trans x2) d2
  rwa [e2] at this
theorem pe_opd {e : Expr} {f : List Slot → Res R} (h : PE X e (rdE C f)) : PE X e (rdD C (opdF f)) := PE.imp h fun _ _ _ q => rd_opd q
theorem pa_nilM : PA X [] (rdDs C fun m => .ok [] m) := PA.imp pa_nil fun σ H Q ⟨w, m, e, P, q⟩ => by
  have := q w [] P.sr (.refl w) .nil
  rwa [e] at this
/-- argument by argument -/
noncomputable def consD (f : List Slot → Res R) (g : List Slot → Res (List Opd)) : List Slot → Res (List Opd) := fun m => (f m).bind fun x m1 => (g m1).bind fun xs m2 => .ok (x.opd :: xs) m2
theorem rd_cons {f : List Slot → Res R} {g : List Slot → Res (List Opd)} {σ : St} {H : Hp} {Q : List V → Hp → Prop} (h : rdDs C (consD f g) σ H Q) : tCons (rdD C (opdF f)) (rdDs C g) σ H Q := by
  obtain ⟨w, m, e, P, q⟩ := h
  refine ⟨w, m, e, P, ?_⟩
  rw [consD, Res.sat_bind] at q
  rw [opdF, Res.sat_bind]
  refine Res.sat_mono q fun r m1 q1 w1 v1 S1 x1 r1 => ?_
  rw [Res.sat_bind] at q1
  refine ⟨w1, m1, rfl, P.step S1 x1, Res.sat_mono q1 fun ds m2 q2 w2 vs S2 x2 r2 => ?_⟩
  exact q2 w2 (v1 :: vs) S2 (x1.trans x2) (.cons (r1.mono x2.mo) r2)
theorem pa_consM {e : Expr} {es : List Expr} {f : List Slot → Res R} {g : List Slot → Res (List Opd)} (h : PE X e (rdE C f)) (hr : PA X es (rdDs C g)) (hs : starEach (e :: es) X.env = (false, eval e X.env) :: starEach es X.env) : PA X (e :: es) (rdDs C (consD f g)) :=
  PA.imp (pa_cons (pe_opd h) hr hs) fun _ _ _ q => rd_cons q
end
end Mi
set_option maxHeartbeats 4000000
namespace Mi
open PySem PySem.Spec PyProof.Rows L2

section
variable {G : Gm} {w : Wd} {m : List Slot} {σ : St} {v : V}
theorem RA.cases' {t : T} (h : RA G w t v) : RF G w t v ∨ ∃ o p, t = O.frz o ∧ v = .ref p ∧ RO G w p o := by
  cases h with
  | fz r => exact .inl r
  | ow r => exact .inr ⟨_, _, rfl, rfl, r⟩
theorem RA.int {i : Int} (h : RA G w (.int i) v) : v = .int i := by
  rcases h.cases' with r | ⟨o, p, e, _, _⟩
  · cases r; rfl
  · cases o <;> cases e
theorem RA.str {i : Str} (h : RA G w (.str i) v) : v = .str i := by
  rcases h.cases' with r | ⟨o, p, e, _, _⟩
  · cases r; rfl
  · cases o <;> cases e
theorem RA.bl {i : Bool} (h : RA G w (.bl i) v) : v = .bl i := by
  rcases h.cases' with r | ⟨o, p, e, _, _⟩
  · cases r; rfl
  · cases o <;> cases e
theorem RA.non (h : RA G w .non v) : v = .non := by
  rcases h.cases' with r | ⟨o, p, e, _, _⟩
  · cases r; rfl
  · cases o <;> cases e
theorem RF.lst_inv {xs : List T} : RF G w (.lst xs) v → ∃ a vs, v = .ref a ∧ w.F a ∧ w.H a = some (.lst vs) ∧ RFs G w xs vs
  | .lst f h r => ⟨_, _, rfl, f, h, r⟩
theorem RF.tup_inv {xs : List T} : RF G w (.tup xs) v → ∃ a vs, v = .ref a ∧ ((w.F a ∧ w.H a = some (.tup vs)) ∨ KT G.K a vs) ∧ RFs G w xs vs
  | .tup h r => ⟨_, _, rfl, h, r⟩
theorem RF.scr_inv {ns : List Int} : RF G w (.scr ns) v → ∃ a, v = .ref a ∧ ((w.F a ∧ ∃ o, w.H a = some (.frz o (.lst (ns.map V.int)))) ∨ KL G.K a (ns.map V.int))
  | .scr h => ⟨_, rfl, h⟩
theorem RF.dic_inv {kvs : List (Key × T)} : RF G w (.dic kvs) v → ∃ a ks, v = .ref a ∧ w.F a ∧ Rdo (w.H a) (.dK ks) ∧ RFk G w kvs ks
  | .dic f h r => ⟨_, _, rfl, f, h, r⟩
theorem RF.ins_inv {c : Nat} {fs : List (Str × T)} : RF G w (.ins c fs) v → ∃ a dx gs, v = .ref a ∧ w.F a ∧ w.H a = some (.ins (G.cls c) dx gs) ∧ RFf G w fs gs
  | .ins f h r => ⟨_, _, _, rfl, f, h, r⟩
theorem RO.lst_inv {p : Addr} {xs : List T} : RO G w p (.lst xs) → ∃ vs, w.H p = some (.lst vs) ∧ RFs G w xs vs
  | .lst h r => ⟨_, h, r⟩
theorem RO.dic_inv {p : Addr} {kvs : List (Key × T)} : RO G w p (.dic kvs) → ∃ ks, w.H p = some (.dK ks) ∧ RFk G w kvs ks
  | .dic h r => ⟨_, h, r⟩
theorem RO.ins_inv {p : Addr} {c : Nat} {fs : List (Str × T)} : RO G w p (.ins c fs) → ∃ dx gs, w.H p = some (.ins (G.cls c) dx gs) ∧ RFf G w fs gs
  | .ins h r => ⟨_, _, h, r⟩
theorem RA.lst {xs : List T} (h : RA G w (.lst xs) v) : ∃ a vs, v = .ref a ∧ w.H a = some (.lst vs) ∧ RFs G w xs vs := by
  rcases h.cases' with r | ⟨o, p, e, rfl, r⟩
  · obtain ⟨a, vs, e, _, h1, r1⟩ := r.lst_inv
    exact ⟨a, vs, e, h1, r1⟩
  · cases o <;> cases e
    obtain ⟨vs, h1, r1⟩ := r.lst_inv
    exact ⟨_, vs, rfl, h1, r1⟩
theorem RA.tup {xs : List T} (h : RA G w (.tup xs) v) : ∃ a vs, v = .ref a ∧ SqT G.K w.H a vs ∧ RFs G w xs vs := by
  rcases h.cases' with r | ⟨o, p, e, _, _⟩
  · obtain ⟨a, vs, e, h1, r1⟩ := r.tup_inv
    refine ⟨a, vs, e, ?_, r1⟩
    rcases h1 with ⟨_, h1⟩ | h1
    · exact .inl (.inl h1)
    · exact .inr h1
  · cases o <;> cases e
theorem RA.scr {ns : List Int} (h : RA G w (.scr ns) v) : ∃ a, v = .ref a ∧ SqL G.K w.H a (ns.map V.int) := by
  rcases h.cases' with r | ⟨o, p, e, _, _⟩
  · obtain ⟨a, e, h1⟩ := r.scr_inv
    refine ⟨a, e, ?_⟩
    rcases h1 with ⟨_, o, h1⟩ | h1
    · exact .inl (.inr ⟨o, h1⟩)
    · exact .inr h1
  · cases o <;> cases e
theorem RA.dic {kvs : List (Key × T)} (h : RA G w (.dic kvs) v) : ∃ a ks, v = .ref a ∧ Rdo (w.H a) (.dK ks) ∧ RFk G w kvs ks := by
  rcases h.cases' with r | ⟨o, p, e, rfl, r⟩
  · obtain ⟨a, vs, e, _, h1, r1⟩ := r.dic_inv
    exact ⟨a, vs, e, h1, r1⟩
  · cases o <;> cases e
    obtain ⟨vs, h1, r1⟩ := r.dic_inv
    exact ⟨_, vs, rfl, .inl h1, r1⟩
theorem RA.ins {c : Nat} {fs : List (Str × T)} (h : RA G w (.ins c fs) v) : ∃ a dx gs, v = .ref a ∧ w.H a = some (.ins (G.cls c) dx gs) ∧ RFf G w fs gs := by
  rcases h.cases' with r | ⟨o, p, e, rfl, r⟩
  · obtain ⟨a, dx, vs, e, _, h1, r1⟩ := r.ins_inv
    exact ⟨a, dx, vs, e, h1, r1⟩
  · cases o <;> cases e
    obtain ⟨dx, vs, h1, r1⟩ := r.ins_inv
    exact ⟨_, dx, vs, rfl, h1, r1⟩
theorem RFs.of_ints : ∀ (ns : List Int), RFs G w (ns.map T.int) (ns.map V.int)
  | [] => .nil
  | n :: ns => .cons (.int n) (RFs.of_ints ns)
theorem RFs.bools : ∀ {ts : List T} {vs : List V} {bs : List Bool}, RFs G w ts vs → bools ts = some bs → vs = bs.map V.bl
  | _, _, _, .nil, h => by cases h; rfl
  | _, _, _, .cons (t := t) (ts := ts) a b, h => by
    cases t with
    | bl k =>
      cases a
      cases h1 : Mi.bools ts with
      | none => simp [Mi.bools, h1] at h
      | some bs =>
        simp only [Mi.bools, h1, Option.map_some, Option.some.injEq] at h
        subst h
        rw [RFs.bools b h1]
        rfl
    | _ => simp [Mi.bools] at h
theorem RFs.strs' : ∀ {ts : List T} {vs : List V} {bs : List Str}, RFs G w ts vs → strsT ts = some bs → vs = bs.map V.str
  | _, _, _, .nil, h => by cases h; rfl
  | _, _, _, .cons (t := t) (ts := ts) a b, h => by
    cases t with
    | str k =>
      cases a
      cases h1 : Mi.strsT ts with
      | none => simp [Mi.strsT, h1] at h
      | some bs =>
        simp only [Mi.strsT, h1, Option.map_some, Option.some.injEq] at h
        subst h
        rw [RFs.strs' b h1]
        rfl
    | _ => simp [Mi.strsT] at h
/-! flat values -/
noncomputable def vT : T → V
  | .non => .non
  | .bl b => .bl b
  | .int i => .int i
  | .str s => .str s
  | _ => .non
theorem RF.flat {t : T} (h : flatT t = true) (r : RF G w t v) : v = vT t := by
  cases r <;> first | rfl | cases h
theorem RA.flat {t : T} (h : flatT t = true) (r : RA G w t v) : v = vT t := by
  rcases r.cases' with r | ⟨o, p, e, _, _⟩
  · exact r.flat h
  · subst e; cases o <;> cases h
theorem flat_vT {t : T} (h : flatT t = true) : flatV (vT t) = true := by
  cases t <;> first | rfl | cases h
theorem eqT_vT {t u : T} (h : flatT t = true) (h' : flatT u = true) : eqV (vT t) (vT u) = eqT t u := by
  cases t <;> (try cases h) <;> cases u <;> first | rfl | cases h'
theorem RFs.flat : ∀ {ts : List T} {vs : List V}, RFs G w ts vs → ts.all flatT = true → vs = ts.map vT
  | _, _, .nil, _ => rfl
  | _, _, .cons a b, h => by
    rw [List.all_cons, Bool.and_eq_true] at h
    rw [a.flat h.1, RFs.flat b h.2]
    rfl
theorem all_flatV {ts : List T} (h : ts.all flatT = true) : (ts.map vT).all flatV = true := by
  rw [List.all_map]
  rw [List.all_eq_true] at h ⊢
  exact fun x hx => flat_vT (h x hx)
theorem any_eqT {ts : List T} {x : T} (hx : flatT x = true) (h : ts.all flatT = true) : inV (vT x) (ts.map vT) = ts.any fun y => eqT y x := by
  unfold inV
  induction ts with
  | nil => rfl
  | cons t r ih =>
    rw [List.all_cons, Bool.and_eq_true] at h
    rw [List.map_cons, List.any_cons, List.any_cons, ih h.2, eqT_vT h.1 hx]

/-- what follows -/
noncomputable def After (G : Gm) (w : Wd) (m : List Slot) (σ : St) (res : R) (Q : VK) : Prop := ∀ w' v, SR G w' m σ → Ex w w' → RR G w' m σ res v → Q v w'.H
theorem After.fz {t : T} {Q : VK} (k : After G w m σ (.fz t) Q) (S : SR G w m σ) (r : RF G w t v) : Q v w.H := k w v S (.refl w) r
theorem After.new {o : O} {Q : VK} (k : After G w m σ (.ow o) Q) (S : SR G w m σ) {p : Addr} {u : HO} (hp : w.H p = none) (r : RO G (w.new p u) p o) : Q (.ref p) (upd w.H p u) := by
  refine k (w.new p u) (.ref p) (S.new hp) (Ex.new S.trk hp) ⟨p, rfl, r, .inr rfl, fun i o' h e => ?_⟩
  obtain ⟨a, e1, r1, _⟩ := S.sl i _ h
  rw [e] at e1
  cases e1
  obtain ⟨u', hu⟩ := r1.trk
  rw [hp] at hu
  cases hu
theorem RFs.new {xs : List T} {vs : List V} (r : RFs G w xs vs) (S : SR G w m σ) {p : Addr} {u : HO} (hp : w.H p = none) : RFs G (w.new p u) xs vs := RFs.mono (Mo.new S.trk hp) r
/-- a new list -/
theorem After.lst {xs : List T} {vs : List V} {Q : VK} (k : After G w m σ (.ow (.lst xs)) Q) (S : SR G w m σ) (r : RFs G w xs vs) : ∀ p, w.H p = none → Q (.ref p) (upd w.H p (.lst vs)) :=
  fun p hp => k.new S hp (.lst upd_same (r.new S hp))
/-- a new tuple, frozen at once -/
theorem After.tup {xs : List T} {vs : List V} {Q : VK} (k : After G w m σ (.fz (.tup xs)) Q) (S : SR G w m σ) (r : RFs G w xs vs) : ∀ p, w.H p = none → Q (.ref p) (upd w.H p (.tup vs)) := fun p hp => by
  have S1 := S.new (u := .tup vs) hp
  have r1 := r.new (u := .tup vs) S hp
  have hH : (w.new p (.tup vs)).H p = some (.tup vs) := upd_same
  refine k ((w.new p (.tup vs)).fr p) (.ref p) (S1.fr (.inr rfl) ⟨_, hH⟩ fun i o h e => ?_) ((Ex.new S.trk hp).trans (.fr (.inr rfl))) (.tup (.inl ⟨.inr rfl, hH⟩) (RFs.mono .fr r1))
  obtain ⟨a, e1, r1', _⟩ := S.sl i _ h
  rw [e] at e1
  cases e1
  obtain ⟨u', hu⟩ := r1'.trk
  rw [hp] at hu
  cases hu
end

end Mi
set_option maxHeartbeats 400000
namespace Mi
open PySem PySem.Spec PyProof.Rows L2
noncomputable def OpOk2 (G : Gm) (f : Op) (r : R2) : Prop := ∀ (w : Wd) (m : List Slot) (σ : St) (t1 t2 : T) (v1 v2 : V) (res : R) (Q : VK), SR G w m σ → RA G w t1 v1 → RA G w t2 v2 → opF f [t1, t2] = some res → After G w m σ res Q → r v1 v2 w.H Q
noncomputable def OpOk1 (G : Gm) (f : Op) (r : V → Hp → VK → Prop) : Prop := ∀ (w : Wd) (m : List Slot) (σ : St) (t1 : T) (v1 : V) (res : R) (Q : VK), SR G w m σ → RA G w t1 v1 → opF f [t1] = some res → After G w m σ res Q → r v1 w.H Q
section
variable {G : Gm}
/-! ### arithmetic -/
noncomputable def rAddM : R2 := fun x y H Q => ((∃ i j, x = .int i ∧ y = .int j ∧ Q (.int (i + j)) H) ∨ (∃ i j, x = .str i ∧ y = .str j ∧ i.length + j.length ≤ sizeLine ∧ Q (.str (i ++ j)) H)) ∨ rCat x y H Q
theorem okAdd : OpOk2 G .add rAddM := fun w m σ t1 t2 v1 v2 res Q S a b h k => by
  replace h : addF t1 t2 = some res := h
  cases t1 <;> try (cases h; done)
  case int i =>
    cases t2 <;> try (cases h; done)
    case int j =>
      cases a.int; cases b.int
      cases h
      exact .inl (.inl ⟨i, j, rfl, rfl, k.fz S (.int _)⟩)
  case str i =>
    cases t2 <;> try (cases h; done)
    case str j =>
      cases a.str; cases b.str
      simp only [addF] at h
      split at h
      · rename_i hl
        cases h
        exact .inl (.inr ⟨i, j, rfl, rfl, hl, k.fz S (.str _)⟩)
      · cases h
  case lst xs =>
    cases t2 <;> try (cases h; done)
    case lst ys =>
      obtain ⟨p, vs, rfl, h1, r1⟩ := a.lst
      obtain ⟨q, us, rfl, h2, r2⟩ := b.lst
      simp only [addF] at h
      split at h
      · rename_i hl
        cases h
        refine .inr ⟨p, q, vs, us, rfl, rfl, h1, h2, by rw [← r1.length, ← r2.length]; exact hl, k.lst S (r1.append r2)⟩
      · cases h
theorem okSub : OpOk2 G .sub (rI0 fun i j => .int (i - j)) := fun w m σ t1 t2 v1 v2 res Q S a b h k => by
  replace h : subF t1 t2 = some res := h
  cases t1 <;> try (cases h; done)
  case int i =>
    cases t2 <;> try (cases h; done)
    case int j =>
      cases a.int; cases b.int
      cases h
      exact ⟨i, j, rfl, rfl, k.fz S (.int _)⟩
noncomputable def rMulS : R2 := fun x y H Q => ∃ z n, x = .str z ∧ y = .int n ∧ 0 ≤ n ∧ n ≤ 1000 ∧ z.length ≤ 1000 ∧ Q (.str (Txt.mul z n)) H
noncomputable def rMulM : R2 := fun x y H Q => rI CMulW (fun i j => .int (i * j)) x y H Q ∨ rMulS x y H Q
theorem okMul : OpOk2 G .mul rMulM := fun w m σ t1 t2 v1 v2 res Q S a b h k => by
  replace h : mulF t1 t2 = some res := h
  cases t1 <;> try (cases h; done)
  case int i =>
    cases t2 <;> try (cases h; done)
    case int j =>
      cases a.int; cases b.int
      simp only [mulF] at h
      split at h
      · rename_i hl
        cases h
        exact .inl ⟨i, j, rfl, rfl, hl, k.fz S (.int _)⟩
      · cases h
  case str z =>
    cases t2 <;> try (cases h; done)
    case int j =>
      cases a.str; cases b.int
      simp only [mulF] at h
      split at h
      · rename_i hl
        cases h
        exact .inr ⟨z, j, rfl, rfl, hl.1, hl.2.1, hl.2.2, k.fz S (.str _)⟩
      · cases h
theorem okFdiv : OpOk2 G .fdiv (rI CDivW fun i j => .int (i / j)) := fun w m σ t1 t2 v1 v2 res Q S a b h k => by
  replace h : fdivF t1 t2 = some res := h
  cases t1 <;> try (cases h; done)
  case int i =>
    cases t2 <;> try (cases h; done)
    case int j =>
      cases a.int; cases b.int
      simp only [fdivF] at h
      split at h
      · rename_i hl
        cases h
        exact ⟨i, j, rfl, rfl, hl, k.fz S (.int _)⟩
      · cases h
theorem okMod : OpOk2 G .mod (rI (fun _ j => 0 < j) fun i j => .int (i % j)) := fun w m σ t1 t2 v1 v2 res Q S a b h k => by
  replace h : modF t1 t2 = some res := h
  cases t1 <;> try (cases h; done)
  case int i =>
    cases t2 <;> try (cases h; done)
    case int j =>
      cases a.int; cases b.int
      simp only [modF] at h
      split at h
      · rename_i hl
        cases h
        exact ⟨i, j, rfl, rfl, hl, k.fz S (.int _)⟩
      · cases h
theorem okPow : OpOk2 G .pow (rI CPow fun i j => .int (i ^ j.toNat)) := fun w m σ t1 t2 v1 v2 res Q S a b h k => by
  replace h : powF t1 t2 = some res := h
  cases t1 <;> try (cases h; done)
  case int i =>
    cases t2 <;> try (cases h; done)
    case int j =>
      cases a.int; cases b.int
      simp only [powF] at h
      split at h
      · rename_i hl
        cases h
        exact ⟨i, j, rfl, rfl, hl, k.fz S (.int _)⟩
      · cases h
theorem okCmp {f : Op} {p : Int → Int → Bool} (hf : ∀ x y, opF f [x, y] = cmpF p x y) : OpOk2 G f (rI0 fun i j => .bl (p i j)) := fun w m σ t1 t2 v1 v2 res Q S a b h k => by
  rw [hf] at h
  cases t1 <;> try (cases h; done)
  case int i =>
    cases t2 <;> try (cases h; done)
    case int j =>
      cases a.int; cases b.int
      cases h
      exact ⟨i, j, rfl, rfl, k.fz S (.bl _)⟩
/-! ### equality -/
theorem scal_flat {x y : T} (h : scalT x y = true) : flatT x = true ∧ flatT y = true ∧ scal (vT x) (vT y) = true ∧ decide (vT x = vT y) = eqT x y := by
  cases x with
  | non => cases y <;> first | cases h; done | exact ⟨rfl, rfl, rfl, rfl⟩
  | bl a => cases y <;> first | cases h; done | exact ⟨rfl, rfl, rfl, dec_bl⟩ | exact ⟨rfl, rfl, rfl, rfl⟩
  | int a => cases y <;> first | cases h; done | exact ⟨rfl, rfl, rfl, dec_int⟩ | exact ⟨rfl, rfl, rfl, rfl⟩
  | str a => cases y <;> first | cases h; done | exact ⟨rfl, rfl, rfl, dec_str⟩ | exact ⟨rfl, rfl, rfl, rfl⟩
  | _ => cases h
mutual
theorem RF.dp {G : Gm} {w : Wd} : ∀ (t : T) (v : V) (d : PyData), RF G w t v → pyT t = some d → Dp G.K w.H v d
  | .non, _, _, r, h => by cases r; cases h; exact .non
  | .bl b, _, _, r, h => by cases r; cases h; exact .bl b
  | .int i, _, _, r, h => by cases r; cases h; exact .int i
  | .str s, _, _, r, h => by cases r; cases h; exact .str s
  | .lst xs, v, d, r, h => by
    obtain ⟨a, vs, rfl, f, e, r⟩ := r.lst_inv
    cases h1 : pyTs xs with
    | none => rw [pyT, h1] at h; cases h
    | some ds =>
      rw [pyT, h1] at h
      cases h
      exact .lst (.inl (.inl e)) (RFs.dp xs vs ds r h1)
  | .tup xs, v, d, r, h => by
    obtain ⟨a, vs, rfl, e, r⟩ := r.tup_inv
    cases h1 : pyTs xs with
    | none => rw [pyT, h1] at h; cases h
    | some ds =>
      rw [pyT, h1] at h
      cases h
      refine .tup ?_ (RFs.dp xs vs ds r h1)
      rcases e with ⟨_, e⟩ | e
      · exact .inl (.inl e)
      · exact .inr e
  | .dic _, _, _, _, h => by cases h
  | .ins _ _, _, _, _, h => by cases h
  | .scr _, _, _, _, h => by cases h
theorem RFs.dp {G : Gm} {w : Wd} : ∀ (t : List T) (v : List V) (d : List PyData), RFs G w t v → pyTs t = some d → DpAll G.K w.H v d
  | [], _, _, r, h => by cases r; rw [pyTs] at h; cases h; exact .nil
  | t :: ts, _, _, r, h => by
    cases r with
    | cons a b =>
      cases h1 : pyT t with
      | none => rw [pyTs, h1] at h; cases h
      | some d =>
        cases h2 : pyTs ts with
        | none => rw [pyTs, h1, h2] at h; cases h
        | some ds =>
          rw [pyTs, h1, h2] at h
          cases h
          exact .cons (RF.dp t _ d a h1) (RFs.dp ts _ ds b h2)
end
theorem RA.dp {w : Wd} {t : T} {v : V} {d : PyData} (r : RA G w t v) (h : pyT t = some d) : Dp G.K w.H v d := by
  rcases r.cases' with r | ⟨o, p, rfl, rfl, r2⟩
  · exact RF.dp _ _ _ r h
  · cases o with
    | lst xs =>
      obtain ⟨vs, e, r⟩ := r2.lst_inv
      cases h1 : pyTs xs with
      | none => simp [O.frz, pyT, h1] at h
      | some ds =>
        simp only [O.frz, pyT, h1, Option.map_some, Option.some.injEq] at h
        subst h
        exact .lst (.inl (.inl e)) (RFs.dp _ _ _ r h1)
    | dic _ => cases h
    | ins _ _ => cases h
/-- two dicts of flat values, item by item -/
noncomputable def sameV : V → V → Bool
  | .bl _, .bl _ => true
  | .int _, .int _ => true
  | .str _, .str _ => true
  | _, _ => false
inductive Hv (ls : List (Key × V)) : List (Key × V) → Bool → Prop
  | nil : Hv ls [] true
  | miss {k : Key} {v : V} {r : List (Key × V)} : valV ls k = none → Hv ls ((k, v) :: r) false
  | hit {k : Key} {v y : V} {r : List (Key × V)} {b : Bool} : valV ls k = some y → sameV v y = true → Hv ls r b → Hv ls ((k, v) :: r) (decide (v = y) && b)
noncomputable def rDic (k' : Bool → Bool) : R2 := fun x y H Q => ∃ a b ks ls r, x = .ref a ∧ y = .ref b ∧ Rd H a (.dK ks) ∧ Rd H b (.dK ls) ∧ (ks.length = ls.length → Hv ls ks r) ∧ Q (.bl (k' (ks.length == ls.length && r))) H
theorem eqAt_sameV {A : Around} {s : Shared} {v y : V} {u u' : Value} (h : sameV v y = true) (r : RelV v u) (r' : RelV y u') : SeqAt.EqAt A s u u' (decide (v = y)) := by
  cases v <;> cases y <;> try (cases h; done)
  case bl.bl a b =>
    cases r; cases r'
    rw [show decide (V.bl a = V.bl b) = (a == b) from by cases a <;> cases b <;> rfl]
    exact SeqAt.EqAt.bool_bool a b
  case int.int a b =>
    obtain ⟨t, rfl⟩ := r
    obtain ⟨t', rfl⟩ := r'
    rw [show decide (V.int a = V.int b) = (a == b) from dec_int]
    exact SeqAt.EqAt.int_int a t b t'
  case str.str a b =>
    obtain ⟨t, rfl⟩ := r
    obtain ⟨t', rfl⟩ := r'
    rw [show decide (V.str a = V.str b) = (a == b) from dec_str]
    exact SeqAt.EqAt.str_str a t b t'
theorem hv_hits {A : Around} {s : Shared} {ls : List (Key × V)} {vb : List (Key × Value)} (rb : KV ls vb) {ks : List (Key × V)} {va : List (Key × Value)} {b : Bool} (h : Hv ls ks b) : KV ks va → PySem.W.KeqHits A s vb va b := by
  intro ra
  unfold KV at ra
  induction h generalizing va with
  | nil => cases ra; exact .nil
  | @miss k v r e =>
    cases ra with
    | @cons _ q _ qs h t =>
      obtain ⟨k2, v2⟩ := q
      obtain ⟨h1, _⟩ := h
      have h1 : k = k2 := h1
      have rr : RelO (valV ls k) (valueAt vb k) := rb.val k
      rw [e] at rr
      subst h1
      refine .miss ?_
      cases hv : valueAt vb k with
      | none => rfl
      | some z => rw [hv] at rr; exact rr.elim
  | @hit k v y r b e sv _ ih =>
    cases ra with
    | @cons _ q _ qs h t =>
      obtain ⟨k2, v2⟩ := q
      obtain ⟨h1, h2⟩ := h
      have h1 : k = k2 := h1
      subst h1
      have rr : RelO (some y) (valueAt vb k) := by rw [← e]; exact rb.val k
      obtain ⟨z, hz, rz⟩ := rr.some_of
      exact .hit hz (eqAt_sameV sv h2 rz) (ih t)
theorem op_eqDic {X : Cx} (hu : X.A.units < cLine) : OpR X (compareOp .Eq) (rDic id) := by
  intro pins s σ H x y v u Q I rx ry h
  obtain ⟨a, b, ks, ls, r, rfl, rfl, ea, eb, hp, q⟩ := h
  obtain rfl : v = Value.ref a := rx
  obtain rfl : u = Value.ref b := ry
  obtain ⟨_, ya, va, ra, da⟩ := (show ObjOk X.prog X.w H s.heap a (.dK ks) from ea.ok I.hok)
  obtain ⟨_, yb, vb, rb, db⟩ := (show ObjOk X.prog X.w H s.heap b (.dK ls) from eb.ok I.hok)
  exact PySem.W.keq_eq (knd := mixKind X.prog X.w) (r := r) ya yb da db hu (fun hl => hv_hits rb (hp (by rw [ra.length, rb.length]; exact hl)) ra) (fin_bl I q (by simp [ra.length, rb.length]))
theorem op_neDic {X : Cx} (hu : X.A.units < cLine) : OpR X (compareOp .NotEq) (rDic not) := by
  intro pins s σ H x y v u Q I rx ry h
  obtain ⟨a, b, ks, ls, r, rfl, rfl, ea, eb, hp, q⟩ := h
  obtain rfl : v = Value.ref a := rx
  obtain rfl : u = Value.ref b := ry
  obtain ⟨_, ya, va, ra, da⟩ := (show ObjOk X.prog X.w H s.heap a (.dK ks) from ea.ok I.hok)
  obtain ⟨_, yb, vb, rb, db⟩ := (show ObjOk X.prog X.w H s.heap b (.dK ls) from eb.ok I.hok)
  exact PySem.W.keq_ne (knd := mixKind X.prog X.w) (r := r) ya yb da db hu (fun hl => hv_hits rb (hp (by rw [ra.length, rb.length]; exact hl)) ra) (fin_bl I q (by simp [ra.length, rb.length]))
theorem RFk.valV {G : Gm} {w : Wd} {kvs : List (Key × T)} {ks : List (Key × V)} (r : RFk G w kvs ks) (k : Key) : (valT kvs k = none ∧ L2.valV ks k = none) ∨ ∃ t v, valT kvs k = some t ∧ L2.valV ks k = some v ∧ RF G w t v := by
  match kvs, ks, r with
  | [], [], .nil => exact .inl ⟨rfl, rfl⟩
  | (j, t) :: kvs, (_, v) :: ks, .cons a b =>
    by_cases e : j = k
    · exact .inr ⟨t, v, by simp [valT, e], by simp [L2.valV, e], a⟩
    · have := RFk.valV b k
      simpa [valT, L2.valV, e] using this
theorem sameK_v {x y : T} {G : Gm} {w : Wd} {u v : V} (h : sameK x y = true) (a : RF G w x u) (b : RF G w y v) : sameV u v = true ∧ decide (u = v) = eqT x y := by
  cases x <;> cases y <;> try (cases h; done)
  case bl.bl p q => cases a; cases b; exact ⟨rfl, dec_bl⟩
  case int.int p q => cases a; cases b; exact ⟨rfl, dec_int⟩
  case str.str p q => cases a; cases b; exact ⟨rfl, dec_str⟩
theorem hitsT_v {G : Gm} {w : Wd} {ls : List (Key × T)} {ls' : List (Key × V)} (rl : RFk G w ls ls') : ∀ {ks : List (Key × T)} {ks' : List (Key × V)} {b : Bool}, RFk G w ks ks' → hitsT ls ks = some b → Hv ls' ks' b
  | [], _, b, .nil, h => by cases h; exact .nil
  | (k, v) :: r, _, b, .cons (v := v') a rr, h => by
    rw [hitsT] at h
    rcases rl.valV k with ⟨e1, e2⟩ | ⟨t, u, e1, e2, ru⟩
    · rw [e1] at h
      cases h
      exact .miss e2
    · rw [e1] at h
      simp only at h
      split at h
      · rename_i hs
        cases hr : hitsT ls r with
        | none => rw [hr] at h; cases h
        | some b' =>
          rw [hr] at h
          cases h
          obtain ⟨s1, s2⟩ := sameK_v hs a ru
          rw [← s2]
          exact .hit e2 s1 (hitsT_v rl rr hr)
      · cases h
noncomputable def rEqM (K : PySem.W.Frag) : R2 := fun x y H Q => (rEq x y H Q ∨ rEqD K x y H Q) ∨ rDic id x y H Q
noncomputable def rNeM (K : PySem.W.Frag) : R2 := fun x y H Q => (rNe x y H Q ∨ rNeD K x y H Q) ∨ rDic not x y H Q
theorem okEqG {f : Op} {k' : Bool → Bool} {r1 r2 : R2} (hf : ∀ x y, opF f [x, y] = eqF x y k') (h1 : ∀ x y H Q, scal x y = true → Q (.bl (k' (decide (x = y)))) H → r1 x y H Q)
    (h2 : ∀ x y H Q d e, Dp G.K H x d → Dp G.K H y e → SeqAt.shaped d = true → SeqAt.shaped e = true → Q (.bl (k' (PyData.eqv d e))) H → r2 x y H Q) : OpOk2 G f (fun x y H Q => (r1 x y H Q ∨ r2 x y H Q) ∨ rDic k' x y H Q) := fun w m σ t1 t2 v1 v2 res Q S a b h k => by
  rw [hf] at h
  unfold eqF at h
  split at h
  · rename_i hs
    obtain ⟨f1, f2, sc, de⟩ := scal_flat hs
    cases h
    rw [a.flat f1, b.flat f2]
    refine .inl (.inl (h1 _ _ _ _ sc ?_))
    rw [de]
    exact k.fz S (.bl _)
  · split at h
    · rename_i d e hd he
      split at h
      · rename_i hsh
        cases h
        exact .inl (.inr (h2 _ _ _ _ d e (a.dp hd) (b.dp he) hsh.1 hsh.2 (k.fz S (.bl _))))
      · cases h
    · split at h
      · rename_i ks ls _ _
        obtain ⟨p, us, e1, hp, r1⟩ := a.dic
        obtain ⟨q, vs, e2, hq, r2⟩ := b.dic
        unfold eqD at h
        split at h
        · rename_i hl
          cases hh : hitsT ls ks with
          | none => rw [hh] at h; cases h
          | some c =>
            rw [hh] at h
            cases h
            refine .inr ⟨p, q, us, vs, c, e1, e2, hp, hq, fun _ => hitsT_v r2 r1 hh, ?_⟩
            rw [← r1.length, ← r2.length, hl, beq_self_eq_true, Bool.true_and]
            exact k.fz S (.bl _)
        · rename_i hl
          cases h
          refine .inr ⟨p, q, us, vs, true, e1, e2, hp, hq, fun z => absurd (by rw [r1.length, r2.length]; exact z) hl, ?_⟩
          rw [← r1.length, ← r2.length, show (ks.length == ls.length) = false from by simpa using hl, Bool.false_and]
          exact k.fz S (.bl _)
      · cases h
theorem okEq : OpOk2 G .eq (rEqM G.K) := okEqG (k' := id) (fun _ _ => rfl) (fun x y H Q s q => ⟨s, q⟩) fun x y H Q d e a b c c' q => ⟨d, e, a, b, c, c', q⟩
theorem okNe : OpOk2 G .ne (rNeM G.K) := okEqG (k' := not) (fun _ _ => rfl) (fun x y H Q s q => ⟨s, q⟩) fun x y H Q d e a b c c' q => ⟨d, e, a, b, c, c', q⟩
/-! ### in, is -/
noncomputable def rInM0 (K : PySem.W.Frag) (neg : Bool) : R2 := fun x y H Q => (∃ (c : Nat) (z : Str), x = .str ⟨#[c]⟩ ∧ y = .str z ∧ Q (.bl (if neg then !decide (c ∈ z.cps.toList) else decide (c ∈ z.cps.toList))) H) ∨ rIn K neg x y H Q
/-- y in d, by its keys -/
noncomputable def rInK (neg : Bool) : R2 := fun x y H Q => ∃ (a : Addr) (kvs : List (Key × V)) (k : Key), x = kV k ∧ y = .ref a ∧ Rd H a (.dK kvs) ∧ Q (.bl (if neg then !(valV kvs k).isSome else (valV kvs k).isSome)) H
noncomputable def rInM (K : PySem.W.Frag) (neg : Bool) : R2 := fun x y H Q => rInM0 K neg x y H Q ∨ rInK neg x y H Q
theorem any_kv (k : Key) : ∀ {kvs : List (Key × T)} {ks : List (Key × V)} {w : Wd}, RFk G w kvs ks → (kvs.any fun kv => decide (kv.1 = k)) = (valV ks k).isSome
  | _, _, _, .nil => rfl
  | _, _, _, .cons (k := j) _ r => by
    have z := any_kv k r
    unfold valV at z ⊢
    rw [List.any_cons, z, List.find?_cons]
    cases h : decide (j = k) with
    | true => simp only [h]; rfl
    | false => simp only [h]; rfl
theorem key_v {w : Wd} {t : T} {k : Key} {v : V} (h : keyT t = some k) (r : RA G w t v) : v = kV k := by
  cases t <;> try (cases h; done)
  case int i => cases h; exact r.int
  case str s => cases h; exact r.str
theorem okInG {f : Op} {neg : Bool} (hf : ∀ x y, opF f [x, y] = inF (fun b => if neg then !b else b) x y) : OpOk2 G f (rInM G.K neg) := fun w m σ t1 t2 v1 v2 res Q S a b h k => by
  rw [hf] at h
  have seq : ∀ xs, (∃ p us, v2 = .ref p ∧ (SqL G.K w.H p us ∨ SqT G.K w.H p us) ∧ RFs G w xs us) → (if flatT t1 = true ∧ xs.all flatT = true then fB ((fun b => if neg then !b else b) (xs.any fun y => eqT y t1)) else none) = some res → rIn G.K neg v1 v2 w.H Q := fun xs ⟨p, us, e, hq, r⟩ h => by
    split at h
    · rename_i hs
      cases h
      refine ⟨p, us, e, hq, ?_, ?_, ?_⟩
      · rw [a.flat hs.1]; exact flat_vT hs.1
      · rw [r.flat hs.2]; exact all_flatV hs.2
      · rw [a.flat hs.1, r.flat hs.2, any_eqT hs.1 hs.2]
        exact k.fz S (.bl _)
    · cases h
  cases t2 with
  | lst xs =>
    obtain ⟨p, us, e, h1, r⟩ := b.lst
    refine .inl (.inr (seq xs ⟨p, us, e, .inl (.inl (.inl h1)), r⟩ ?_))
    cases t1 <;> exact h
  | tup xs =>
    obtain ⟨p, us, e, h1, r⟩ := b.tup
    refine .inl (.inr (seq xs ⟨p, us, e, .inr h1, r⟩ ?_))
    cases t1 <;> exact h
  | str z =>
    cases t1 <;> try (cases h; done)
    case str x =>
      cases a.str; cases b.str
      simp only [inF] at h
      split at h
      · rename_i c hc
        cases h
        refine .inl (.inl ⟨c, z, ?_, rfl, k.fz S (.bl _)⟩)
        obtain ⟨⟨l⟩⟩ := x
        simp only at hc
        rw [hc]
      · cases h
  | dic kvs =>
    obtain ⟨p, ks, rfl, h1, r⟩ := b.dic
    have h' : ((keyT t1).bind fun q => fB ((fun b => if neg then !b else b) (kvs.any fun kv => decide (kv.1 = q)))) = some res := by cases t1 <;> exact h
    cases e : keyT t1 with
    | none => rw [e] at h'; cases h'
    | some q =>
      rw [e] at h'
      cases h'
      refine .inr ⟨p, ks, q, key_v e a, rfl, h1, ?_⟩
      rw [any_kv q r] at k
      exact k.fz S (.bl _)
  | _ => cases t1 <;> cases h
theorem okIn : OpOk2 G .isin (rInM G.K false) := okInG fun _ _ => rfl
theorem okNotin : OpOk2 G .notin (rInM G.K true) := okInG fun _ _ => rfl
theorem isNon_v {w : Wd} {t : T} {v : V} (r : RA G w t v) : decide (v = .non) = isNon t := by
  rcases r.cases' with r | ⟨o, p, rfl, rfl, r⟩
  · cases r <;> simp [isNon]
  · cases o <;> simp [isNon, O.frz]
theorem okIsn : OpOk2 G .isn (fun x y H Q => y = .non ∧ Q (.bl (decide (x = .non))) H) := fun w m σ t1 t2 v1 v2 res Q S a b h k => by
  replace h : isnF id t1 t2 = some res := h
  unfold isnF at h
  split at h
  · rename_i hn
    cases h
    have e2 : v2 = .non := by
      have z := isNon_v b
      rw [hn] at z
      exact of_decide_eq_true z
    refine ⟨e2, ?_⟩
    rw [isNon_v a]
    exact k.fz S (.bl _)
  · cases h
theorem okNotn : OpOk2 G .notn (fun x y H Q => y = .non ∧ Q (.bl (!decide (x = .non))) H) := fun w m σ t1 t2 v1 v2 res Q S a b h k => by
  replace h : isnF not t1 t2 = some res := h
  unfold isnF at h
  split at h
  · rename_i hn
    cases h
    have e2 : v2 = .non := by
      have z := isNon_v b
      rw [hn] at z
      exact of_decide_eq_true z
    refine ⟨e2, ?_⟩
    rw [isNon_v a]
    exact k.fz S (.bl _)
  · cases h
/-! ### items -/
theorem atI_get {α : Type} {xs : List α} {i : Int} {x : α} (h : atI xs i = some x) : ∃ j, ixN xs.length i = some j ∧ xs[j]? = some x := by
  unfold atI at h
  cases e : ixN xs.length i with
  | none => rw [e] at h; cases h
  | some j => rw [e] at h; exact ⟨j, rfl, h⟩
theorem atI_of {α : Type} {xs : List α} {i : Int} {x : α} {j : Nat} (e : ixN xs.length i = some j) (h : xs[j]? = some x) : atI xs i = some x := by
  unfold atI
  rw [e]
  exact h
noncomputable def rIxD : R2 := fun x y H Q => ∃ a v, x = .ref a ∧ DGet H a y (some v) ∧ Q v H
theorem ix_dict {X : Cx} (hu : X.A.units + 1 < cLine) : IxR X rIxD := by
  intro value slice pins s σ H x y v u Q I rx ry h hs
  obtain ⟨a, z, rfl, g, q⟩ := h
  cases rx
  exact tail_any (dict_typeIs I g) PySem.F.slot_dict_getitem.lookup (d_getItem hu I g ry fun w' s3 I3 rw' => ⟨z, H, I3, rw', q⟩) hs
/-- list, tuple, str or dict -/
noncomputable def rIxM (K : PySem.W.Frag) : R2 := fun x y H Q => rIx K x y H Q ∨ rIxD x y H Q
theorem ix_any {X : Cx} (hu : X.A.units + 1 < cLine) : IxR X (rIxM X.K) := ix_seq.or (ix_dict hu)
theorem okIdx0 : ∀ (w : Wd) (m : List Slot) (σ : St) (t1 t2 : T) (v1 v2 : V) (res : R) (Q : VK), (∀ kvs, t1 ≠ .dic kvs) → SR G w m σ → RA G w t1 v1 → RA G w t2 v2 → opF .idx [t1, t2] = some res → After G w m σ res Q → rIx G.K v1 v2 w.H Q := fun w m σ t1 t2 v1 v2 res Q nd S a b h k => by
  replace h : idxF t1 t2 = some res := h
  cases t2 <;> try (cases t1 <;> first | exact absurd rfl (nd _) | cases h; done)
  case int i =>
    cases b.int
    cases t1 <;> try (first | exact absurd rfl (nd _) | cases h; done)
    case lst xs =>
      obtain ⟨p, vs, rfl, h1, r⟩ := a.lst
      simp only [idxF, Option.map_eq_some_iff] at h
      obtain ⟨t, h2, rfl⟩ := h
      obtain ⟨j, e1, e2⟩ := atI_get h2
      obtain ⟨v, e3, r3⟩ := r.get e2
      rw [r.length] at e1
      exact .inl ⟨p, vs, i, v, rfl, rfl, .inl (.inl h1), atI_of e1 e3, k.fz S r3⟩
    case tup xs =>
      obtain ⟨p, vs, rfl, h1, r⟩ := a.tup
      simp only [idxF, Option.map_eq_some_iff] at h
      obtain ⟨t, h2, rfl⟩ := h
      obtain ⟨j, e1, e2⟩ := atI_get h2
      obtain ⟨v, e3, r3⟩ := r.get e2
      rw [r.length] at e1
      exact .inr (.inl ⟨p, vs, i, v, rfl, rfl, h1, atI_of e1 e3, k.fz S r3⟩)
    case scr ns =>
      obtain ⟨p, rfl, h1⟩ := a.scr
      simp only [idxF, Option.map_eq_some_iff] at h
      obtain ⟨n, h2, rfl⟩ := h
      obtain ⟨j, e1, e2⟩ := atI_get h2
      exact .inl ⟨p, _, i, .int n, rfl, rfl, h1, atI_of (by rw [List.length_map]; exact e1) (by rw [List.getElem?_map, e2]; rfl), k.fz S (.int n)⟩
    case str z =>
      cases a.str
      simp only [idxF] at h
      split at h
      · rename_i hl
        simp only [Option.map_eq_some_iff] at h
        obtain ⟨c, h2, rfl⟩ := h
        exact .inr (.inr ⟨z, i, c, rfl, rfl, hl, h2, k.fz S (.str _)⟩)
      · cases h
theorem okIdx : OpOk2 G .idx (rIxM G.K) := fun w m σ t1 t2 v1 v2 res Q S a b h k => by
  by_cases hd : ∃ kvs, t1 = .dic kvs
  · obtain ⟨kvs, rfl⟩ := hd
    replace h : (keyT t2).bind (fun q => (valT kvs q).map R.fz) = some res := h
    obtain ⟨p, ks, rfl, h1, r⟩ := a.dic
    cases e : keyT t2 with
    | none => rw [e] at h; cases h
    | some q =>
      rw [e] at h
      have h : (valT kvs q).map R.fz = some res := h
      rcases r.valV q with ⟨z, _⟩ | ⟨t, v, z1, z2, r'⟩
      · rw [z] at h; cases h
      · rw [z1] at h
        cases h
        refine .inr ⟨p, v, rfl, .inl ⟨ks, q, h1, key_v e b, z2.symm⟩, k.fz S r'⟩
  · exact .inl (okIdx0 w m σ t1 t2 v1 v2 res Q (fun kvs z => hd ⟨kvs, z⟩) S a b h k)
/-! ### slices -/
noncomputable def rSlM (K : PySem.W.Frag) : V → Option Int → Option Int → Hp → VK → Prop := fun x lo hi H Q => rSlL K x lo hi H Q ∨ rSlS x lo hi H Q
theorem RFs.cut {w : Wd} {xs : List T} {vs : List V} {lo hi : Option Int} (r : RFs G w xs vs) : RFs G w (cutT xs lo hi) (cutV vs lo hi) := by
  unfold cutT cutV
  rw [r.length]
  exact (r.drop _).take _
theorem cut_ints {ns : List Int} {lo hi : Option Int} : cutV (ns.map V.int) lo hi = (cutI ns lo hi).map V.int := by
  unfold cutI cutV
  rw [List.length_map, ← List.map_drop, ← List.map_take]
theorem okSl {w : Wd} {m : List Slot} {σ : St} {t : T} {v : V} {lo hi : Option Int} {res : R} {Q : VK} (S : SR G w m σ) (a : RA G w t v) (h : slF t lo hi = some res) (k : After G w m σ res Q) : rSlM G.K v lo hi w.H Q := by
  cases t <;> try (cases h; done)
  case lst xs =>
    obtain ⟨p, vs, rfl, h1, r⟩ := a.lst
    cases h
    exact .inl ⟨p, vs, rfl, .inl (.inl h1), k.lst S r.cut⟩
  case scr ns =>
    obtain ⟨p, rfl, h1⟩ := a.scr
    cases h
    refine .inl ⟨p, _, rfl, h1, ?_⟩
    rw [cut_ints]
    exact k.lst S (RFs.of_ints _)
  case str z =>
    cases a.str
    simp only [slF] at h
    split at h
    · rename_i hl
      cases h
      exact .inr ⟨z, rfl, hl, k.fz S (.str _)⟩
    · cases h
/-! ### built-in calls -/
noncomputable def rLenM (K : PySem.W.Frag) : List V → Hp → VK → Prop := fun xs H Q => (∃ x n, xs = [x] ∧ LenV K x H n ∧ Q (.int n) H) ∨ ∃ a kvs, xs = [V.ref a] ∧ Rdo (H a) (.dK kvs) ∧ Q (.int kvs.length) H
theorem okLen : OpOk1 G .len (fun x H Q => rLenM G.K [x] H Q) := fun w m σ t1 v1 res Q S a h k => by
  replace h : lenF t1 = some res := h
  cases t1 <;> try (cases h; done)
  case str z =>
    cases a.str
    simp only [lenF] at h
    split at h
    · rename_i hl
      cases h
      exact .inl ⟨.str z, z.length, rfl, ⟨hl, rfl⟩, k.fz S (.int _)⟩
    · cases h
  case lst xs =>
    obtain ⟨p, vs, rfl, h1, r⟩ := a.lst
    cases h
    rw [r.length] at k
    exact .inl ⟨.ref p, vs.length, rfl, .inl ⟨vs, .inl (.inl h1), rfl⟩, k.fz S (.int _)⟩
  case tup xs =>
    obtain ⟨p, vs, rfl, h1, r⟩ := a.tup
    cases h
    rw [r.length] at k
    exact .inl ⟨.ref p, vs.length, rfl, .inr ⟨vs, h1, rfl⟩, k.fz S (.int _)⟩
  case scr ns =>
    obtain ⟨p, rfl, h1⟩ := a.scr
    cases h
    exact .inl ⟨.ref p, ns.length, rfl, .inl ⟨_, h1, by rw [List.length_map]⟩, k.fz S (.int _)⟩
  case dic kvs =>
    obtain ⟨p, ks, rfl, h1, r⟩ := a.dic
    cases h
    rw [r.length] at k
    exact .inr ⟨p, ks, rfl, h1, k.fz S (.int _)⟩
noncomputable def rStrM : List V → Hp → VK → Prop := fun xs H Q => (∃ i, xs = [.int i] ∧ i.natAbs.log2 < 1920 ∧ Q (.str (toString i)) H) ∨ ∃ a, xs = [.str a] ∧ Q (.str a) H
theorem okStr : OpOk1 G .str (fun x H Q => rStrM [x] H Q) := fun w m σ t1 v1 res Q S a h k => by
  replace h : strF t1 = some res := h
  cases t1 <;> try (cases h; done)
  case int i =>
    cases a.int
    simp only [strF] at h
    split at h
    · rename_i hl
      cases h
      exact .inl ⟨i, rfl, hl, k.fz S (.str _)⟩
    · cases h
  case str z =>
    cases a.str
    cases h
    exact .inr ⟨z, rfl, k.fz S (.str _)⟩
noncomputable def rIntM : List V → Hp → VK → Prop := fun xs H Q => ((∃ i, xs = [.int i] ∧ Q (.int i) H) ∨ ∃ k, xs = [.bl k] ∧ Q (.int (if k then 1 else 0)) H) ∨ ∃ a n, xs = [.str a] ∧ PySem.intText? a = some n ∧ a.length ≤ 640 ∧ Q (.int n) H
theorem okInt : OpOk1 G .int (fun x H Q => rIntM [x] H Q) := fun w m σ t1 v1 res Q S a h k => by
  replace h : intF t1 = some res := h
  cases t1 <;> try (cases h; done)
  case int i =>
    cases a.int
    cases h
    exact .inl (.inl ⟨i, rfl, k.fz S (.int _)⟩)
  case bl i =>
    cases a.bl
    cases h
    exact .inl (.inr ⟨i, rfl, k.fz S (.int _)⟩)
  case str z =>
    cases a.str
    simp only [intF] at h
    split at h
    · rename_i n hn
      split at h
      · rename_i hl
        cases h
        exact .inr ⟨z, n, rfl, hn, hl, k.fz S (.int _)⟩
      · cases h
    · cases h
theorem okAbs : OpOk1 G .abs (fun x H Q => ∃ i, [x] = [V.int i] ∧ Q (.int (if i < 0 then -i else i)) H) := fun w m σ t1 v1 res Q S a h k => by
  replace h : absF t1 = some res := h
  cases t1 <;> try (cases h; done)
  case int i =>
    cases a.int
    cases h
    exact ⟨i, rfl, k.fz S (.int _)⟩
noncomputable def rListM (K : PySem.W.Frag) : List V → Hp → VK → Prop := fun xs H Q => (∃ p ys, xs = [.ref p] ∧ (SqL K H p ys ∨ SqT K H p ys) ∧ ∀ l, H l = none → Q (.ref l) (upd H l (.lst ys))) ∨
  ∃ (a : Addr) (kvs : List (Key × V)), xs = [.ref a] ∧ Rd H a (.dK kvs) ∧ ∀ p, H p = none → Q (.ref p) (upd H p (.lst (kvs.map fun kv => kV kv.1)))
theorem unkey_vs {w : Wd} : ∀ {kvs : List (Key × T)} {ks : List (Key × V)}, RFk G w kvs ks → RFs G w (kvs.map fun kv => unkey kv.1) (ks.map fun kv => kV kv.1)
  | _, _, .nil => .nil
  | _, _, .cons (k := .inl i) _ r => .cons (.int i) (unkey_vs r)
  | _, _, .cons (k := .inr s) _ r => .cons (.str s) (unkey_vs r)
theorem okList : OpOk1 G .list (fun x H Q => rListM G.K [x] H Q) := fun w m σ t1 v1 res Q S a h k => by
  replace h : listF t1 = some res := h
  cases t1 <;> try (cases h; done)
  case lst xs =>
    obtain ⟨p, vs, rfl, h1, r⟩ := a.lst
    cases h
    exact .inl ⟨p, vs, rfl, .inl (.inl (.inl h1)), k.lst S r⟩
  case tup xs =>
    obtain ⟨p, vs, rfl, h1, r⟩ := a.tup
    cases h
    exact .inl ⟨p, vs, rfl, .inr h1, k.lst S r⟩
  case scr ns =>
    obtain ⟨p, rfl, h1⟩ := a.scr
    cases h
    exact .inl ⟨p, _, rfl, .inl h1, k.lst S (RFs.of_ints _)⟩
  case dic kvs =>
    obtain ⟨p, ks, rfl, h1, r⟩ := a.dic
    cases h
    exact .inr ⟨p, ks, rfl, h1, k.lst S (unkey_vs r)⟩
theorem okAll : OpOk1 G .all (fun x H Q => rAll G.K [x] H Q) := fun w m σ t1 v1 res Q S a h k => by
  replace h : allF t1 = some res := h
  cases t1 <;> try (cases h; done)
  case lst xs =>
    obtain ⟨p, vs, rfl, h1, r⟩ := a.lst
    simp only [allF] at h
    cases e : bools xs with
    | none => rw [e] at h; cases h
    | some bs =>
      rw [e] at h
      cases h
      have := r.bools e
      subst this
      exact ⟨p, bs, rfl, .inl (.inl h1), k.fz S (.bl _)⟩
noncomputable def rJoinM (K : PySem.W.Frag) : V → List V → Hp → VK → Prop := fun x xs H Q => ∃ a p, ∃ ys : List Str, x = .str a ∧ xs = [.ref p] ∧ (SqL K H p (ys.map V.str) ∨ SqT K H p (ys.map V.str)) ∧ (ys.map (·.length)).sum + ys.length * a.length ≤ 16777216 ∧ Q (.str (Txt.join a ys)) H
theorem okJoin : OpOk2 G .join (fun x y H Q => (∃ a, x = .str a) ∧ rJoinM G.K x [y] H Q) := fun w m σ t1 t2 v1 v2 res Q S a b h k => by
  replace h : joinF t1 t2 = some res := h
  cases t1 <;> try (cases h; done)
  case str z =>
    cases t2 <;> try (cases h; done)
    case lst xs =>
      cases a.str
      obtain ⟨p, vs, rfl, h1, r⟩ := b.lst
      simp only [joinF] at h
      cases e : strsT xs with
      | none => rw [e] at h; cases h
      | some ys =>
        rw [e] at h
        simp only [Option.bind_some] at h
        split at h
        · rename_i hl
          cases h
          have := r.strs' e
          subst this
          exact ⟨⟨z, rfl⟩, z, p, ys, rfl, rfl, .inl (.inl (.inl h1)), hl, k.fz S (.str _)⟩
        · cases h
/-! ### isinstance -/
noncomputable def Ty.nm : Ty → String
  | .int => "int" | .bool => "bool" | .str => "str" | .list => "list" | .tuple => "tuple" | .dict => "dict"
noncomputable def tyT : T → String
  | .non => "NoneType" | .bl _ => "bool" | .int _ => "int" | .str _ => "str" | .lst _ => "list" | .tup _ => "tuple" | .dic _ => "dict" | .scr _ => "list" | .ins _ _ => "object"
end
end Mi
set_option maxHeartbeats 1000000
namespace Mi
open PySem PySem.Spec PyProof.Rows L2

section
variable {C : Ct} {X : Cx} {cal : Nat → List Slot → CRes}
theorem n_cst {e : Expr} {v : V} {t : T} (h : PE X e (tC v)) (r : ∀ w, RF C.G w t v) : PE X e (rdE C (evE cal (.c t))) := PE.imp h fun σ H Q ⟨w, m, e, P, q⟩ => by
  rw [evE] at q
  have := q w v P.sr (.refl w) (r w)
  rwa [e] at this
theorem n_var {e : Expr} {i : Nat} (h : PE X e (tVar i)) : PE X e (rdE C (evE cal (.var i))) := PE.imp h fun σ H Q ⟨w, m, e, P, q⟩ => by
  rw [evE] at q
  cases h1 : m[i]? with
  | none => rw [h1] at q; exact q.elim
  | some s =>
    rw [h1] at q
    have sl := P.sr.sl i s h1
    cases s with
    | no => exact q.elim
    | fz t =>
      obtain ⟨v, e1, r⟩ := sl
      have := q w v P.sr (.refl w) r
      rw [e] at this
      exact ⟨v, e1, this⟩
    | ow o =>
      obtain ⟨a, e1, r, l⟩ := sl
      have := q w (.ref a) P.sr (.refl w) e1
      rw [e] at this
      exact ⟨_, e1, this⟩
/-- displays -/
theorem n_lst {e : Expr} {es : Es} {exs : List Expr} (hp : ∀ t, PA X exs t → PE X e (tLst t)) (h : PA X exs (rdDs C (evDs cal es))) : PE X e (rdE C (evE cal (.lst es))) := PE.imp (hp _ h) fun σ H Q ⟨w, m, e, P, q⟩ => by
  rw [evE, Res.sat_bind] at q
  refine ⟨w, m, e, P, Res.sat_mono q fun ds m1 q1 w1 vs S1 x1 r1 => ?_⟩
  cases h1 : escs m1 ds with
  | none => rw [h1] at q1; exact q1.elim
  | some p =>
    obtain ⟨ts, m2⟩ := p
    rw [h1] at q1
    simp only at q1
    obtain ⟨w2, e2, S2, x2, r2⟩ := SR.escs S1 r1 h1
    split at q1
    · rename_i hl
      refine ⟨by rw [← r2.length]; exact hl, ?_⟩
      rw [← e2]
      exact After.lst (fun w' v S' x' r' => q1 w' v S' (x1.trans (x2.trans x')) r') S2 r2
    · exact q1.elim
theorem n_tup {e : Expr} {es : Es} {exs : List Expr} (hp : ∀ t, PA X exs t → PE X e (tTup t)) (h : PA X exs (rdDs C (evDs cal es))) : PE X e (rdE C (evE cal (.tup es))) := PE.imp (hp _ h) fun σ H Q ⟨w, m, e, P, q⟩ => by
  rw [evE, Res.sat_bind] at q
  refine ⟨w, m, e, P, Res.sat_mono q fun ds m1 q1 w1 vs S1 x1 r1 => ?_⟩
  cases h1 : escs m1 ds with
  | none => rw [h1] at q1; exact q1.elim
  | some p =>
    obtain ⟨ts, m2⟩ := p
    rw [h1] at q1
    simp only at q1
    obtain ⟨w2, e2, S2, x2, r2⟩ := SR.escs S1 r1 h1
    split at q1
    · rename_i hl
      refine ⟨by rw [← r2.length]; exact hl, ?_⟩
      rw [← e2]
      exact After.tup (fun w' v S' x' r' => q1 w' v S' (x1.trans (x2.trans x')) r') S2 r2
    · exact q1.elim
/-! operations -/
theorem opR_sat {f : Op} {ds : List Opd} {m : List Slot} {A : R → List Slot → Prop} {B : T → List Slot → Prop} (h : (opR f ds m).sat A B) : ∃ ts r, ders m ds = some ts ∧ opF f ts = some r ∧ A r m := by
  unfold opR at h
  cases h1 : ders m ds with
  | none => rw [h1] at h; exact h.elim
  | some ts =>
    rw [h1] at h
    simp only at h
    cases h2 : opF f ts with
    | none => rw [h2] at h; exact h.elim
    | some r =>
      rw [h2] at h
      exact ⟨ts, r, rfl, h2, h⟩
theorem ders2 {m : List Slot} {d1 d2 : Opd} {ts : List T} (h : ders m [d1, d2] = some ts) : ∃ t1 t2, ts = [t1, t2] ∧ der m d1 = some t1 ∧ der m d2 = some t2 := by
  unfold ders ders ders at h
  cases h1 : der m d1 with
  | none => rw [h1] at h; cases h
  | some t1 =>
    cases h2 : der m d2 with
    | none => rw [h1, h2] at h; cases h
    | some t2 =>
      rw [h1, h2] at h
      cases h
      exact ⟨t1, t2, rfl, rfl, rfl⟩
theorem ders1 {m : List Slot} {d1 : Opd} {ts : List T} (h : ders m [d1] = some ts) : ∃ t1, ts = [t1] ∧ der m d1 = some t1 := by
  unfold ders ders at h
  cases h1 : der m d1 with
  | none => rw [h1] at h; cases h
  | some t1 =>
    rw [h1] at h
    cases h
    exact ⟨t1, rfl, rfl⟩
theorem rd_op2 {f : Op} {a b : E} {r : R2} (ok : OpOk2 C.G f r) {σ : St} {H : Hp} {Q : VK} (h : rdE C (evE cal (.op f (.cons a (.cons b .nil)))) σ H Q) : tOp r (rdD C (opdF (evE cal a))) (rdD C (opdF (evE cal b))) σ H Q := by
  obtain ⟨w, m, e, P, q⟩ := h
  rw [evE, Res.sat_bind, evDs, Res.sat_bind] at q
  refine ⟨w, m, e, P, ?_⟩
  rw [opdF, Res.sat_bind]
  refine Res.sat_mono q fun ra m1 q1 w1 v1 S1 x1 r1 => ?_
  rw [evDs, Res.sat_bind, Res.sat_bind] at q1
  refine ⟨w1, m1, rfl, P.step S1 x1, ?_⟩
  rw [opdF, Res.sat_bind]
  refine Res.sat_mono q1 fun rb m2 q2 w2 v2 S2 x2 r2 => ?_
  obtain ⟨ts, res, h1, h2, h3⟩ := opR_sat q2
  obtain ⟨t1, t2, rfl, g1, g2⟩ := ders2 h1
  exact ok w2 m2 σ t1 t2 v1 v2 res Q S2 (S2.der (r1.mono x2.mo) g1) (S2.der r2 g2) h2 fun w' v S' x' r' => h3 w' v S' (x1.trans (x2.trans x')) r'
theorem n_op2 {ex ea eb : Expr} {f : Op} {a b : E} {r : R2} (hp : ∀ ta tb, PE X ea ta → PE X eb tb → PE X ex (tOp r ta tb)) (ok : OpOk2 C.G f r) (ha : PE X ea (rdE C (evE cal a))) (hb : PE X eb (rdE C (evE cal b))) :
    PE X ex (rdE C (evE cal (.op f (.cons a (.cons b .nil))))) := PE.imp (hp _ _ (pe_opd ha) (pe_opd hb)) fun σ H Q q => rd_op2 ok q
theorem n_op1 {ex ea : Expr} {f : Op} {a : E} {r : V → Hp → VK → Prop} (hp : ∀ ta, PE X ea ta → PE X ex (tUn r ta)) (ok : OpOk1 C.G f r) (ha : PE X ea (rdE C (evE cal a))) :
    PE X ex (rdE C (evE cal (.op f (.cons a .nil)))) := PE.imp (hp _ (pe_opd ha)) fun σ H Q ⟨w, m, e, P, q⟩ => by
  rw [evE, Res.sat_bind, evDs, Res.sat_bind] at q
  refine ⟨w, m, e, P, ?_⟩
  rw [opdF, Res.sat_bind]
  refine Res.sat_mono q fun ra m1 q1 w1 v1 S1 x1 r1 => ?_
  obtain ⟨ts, res, h1, h2, h3⟩ := opR_sat q1
  obtain ⟨t1, rfl, g1⟩ := ders1 h1
  exact ok w1 m1 σ t1 v1 res Q S1 (S1.der r1 g1) h2 fun w' v S' x' r' => h3 w' v S' (x1.trans x') r'
/-! booleans -/
theorem n_and {ex ea eb : Expr} {a b : E} (hp : ∀ ta tb, PE X ea ta → PE X eb tb → PE X ex (tAndV ta tb)) (ha : PE X ea (rdE C (evE cal a))) (hb : PE X eb (rdE C (evE cal b))) : PE X ex (rdE C (evE cal (.an a b))) :=
  PE.imp (hp _ _ ha hb) fun σ H Q ⟨w, m, e, P, q⟩ => by
  rw [evE, Res.sat_bind] at q
  refine ⟨w, m, e, P, Res.sat_mono q fun r m1 q1 w1 v1 S1 x1 r1 => ?_⟩
  split at q1
  · cases r1
    refine ⟨true, rfl, ?_⟩
    rw [if_pos rfl]
    exact ⟨w1, m1, rfl, P.step S1 x1, Res.sat_mono q1 fun r m2 q2 w2 v2 S2 x2 r2 => q2 w2 v2 S2 (x1.trans x2) r2⟩
  · cases r1
    refine ⟨false, rfl, ?_⟩
    rw [if_neg (by decide)]
    exact q1 w1 (.bl false) S1 x1 (.bl false)
  · exact q1.elim
theorem n_or {ex ea eb : Expr} {a b : E} (hp : ∀ ta tb, PE X ea ta → PE X eb tb → PE X ex (tOrV ta tb)) (ha : PE X ea (rdE C (evE cal a))) (hb : PE X eb (rdE C (evE cal b))) : PE X ex (rdE C (evE cal (.or a b))) :=
  PE.imp (hp _ _ ha hb) fun σ H Q ⟨w, m, e, P, q⟩ => by
  rw [evE, Res.sat_bind] at q
  refine ⟨w, m, e, P, Res.sat_mono q fun r m1 q1 w1 v1 S1 x1 r1 => ?_⟩
  split at q1
  · cases r1
    refine ⟨true, rfl, ?_⟩
    rw [if_pos rfl]
    exact q1 w1 (.bl true) S1 x1 (.bl true)
  · cases r1
    refine ⟨false, rfl, ?_⟩
    rw [if_neg (by decide)]
    exact ⟨w1, m1, rfl, P.step S1 x1, Res.sat_mono q1 fun r m2 q2 w2 v2 S2 x2 r2 => q2 w2 v2 S2 (x1.trans x2) r2⟩
  · exact q1.elim
theorem n_not {ex ea : Expr} {a : E} (hp : ∀ ta, PE X ea ta → PE X ex (tNotV ta)) (ha : PE X ea (rdE C (evE cal a))) : PE X ex (rdE C (evE cal (.nt a))) :=
  PE.imp (hp _ ha) fun σ H Q ⟨w, m, e, P, q⟩ => by
  rw [evE, Res.sat_bind] at q
  refine ⟨w, m, e, P, Res.sat_mono q fun r m1 q1 w1 v1 S1 x1 r1 => ?_⟩
  split at q1
  · rename_i k
    cases r1
    exact ⟨k, rfl, q1 w1 _ S1 x1 (.bl _)⟩
  · exact q1.elim
theorem n_ite {ex ec ea eb : Expr} {c a b : E} (hp : ∀ tc ta tb, PT X ec tc → PE X ea ta → PE X eb tb → PE X ex (tIf tc ta tb)) (hc : PT X ec (rdB C (evE cal c))) (ha : PE X ea (rdE C (evE cal a))) (hb : PE X eb (rdE C (evE cal b))) : PE X ex (rdE C (evE cal (.ite c a b))) :=
  PE.imp (hp _ _ _ hc ha hb) fun σ H Q ⟨w, m, e, P, q⟩ => by
  rw [evE, Res.sat_bind] at q
  refine ⟨w, m, e, P, Res.sat_mono q fun r m1 q1 => ?_⟩
  split at q1
  · refine ⟨true, rfl, fun w1 S1 x1 => ?_⟩
    dsimp only
    rw [if_pos rfl]
    exact ⟨w1, m1, rfl, P.step S1 x1, Res.sat_mono q1 fun r m2 q2 w2 v2 S2 x2 r2 => q2 w2 v2 S2 (x1.trans x2) r2⟩
  · refine ⟨false, rfl, fun w1 S1 x1 => ?_⟩
    dsimp only
    rw [if_neg (by decide)]
    exact ⟨w1, m1, rfl, P.step S1 x1, Res.sat_mono q1 fun r m2 q2 w2 v2 S2 x2 r2 => q2 w2 v2 S2 (x1.trans x2) r2⟩
  · exact q1.elim
theorem rd_chain {f g : Op} {a b c : E} {r r' : R2} (ok : OpOk2 C.G f r) (ok' : OpOk2 C.G g r') {σ : St} {H : Hp} {Q : VK} (h : rdE C (evE cal (.ch f g a b c)) σ H Q) : tChain r r' (rdD C (opdF (evE cal a))) (rdD C (opdF (evE cal b))) (rdD C (opdF (evE cal c))) σ H Q := by
  obtain ⟨w, m, e, P, q⟩ := h
  rw [evE, Res.sat_bind] at q
  refine ⟨w, m, e, P, ?_⟩
  rw [opdF, Res.sat_bind]
  refine Res.sat_mono q fun ra m1 q1 w1 v1 S1 x1 r1 => ?_
  rw [Res.sat_bind] at q1
  refine ⟨w1, m1, rfl, P.step S1 x1, ?_⟩
  rw [opdF, Res.sat_bind]
  refine Res.sat_mono q1 fun rb m2 q2 w2 v2 S2 x2 r2 => ?_
  rw [Res.sat_bind] at q2
  obtain ⟨ts, res, h1, h2, h3⟩ := opR_sat q2
  obtain ⟨t1, t2, rfl, g1, g2⟩ := ders2 h1
  have r1' := r1.mono x2.mo
  refine ok w2 m2 σ t1 t2 v1 v2 res _ S2 (S2.der r1' g1) (S2.der r2 g2) h2 fun w3 v3 S3 x3 r3 => ?_
  split at h3
  · cases r3
    refine ⟨true, rfl, ?_⟩
    rw [if_pos rfl]
    rw [Res.sat_bind] at h3
    refine ⟨w3, m2, rfl, (P.step S1 x1).step S3 (x2.trans x3), ?_⟩
    rw [opdF, Res.sat_bind]
    refine Res.sat_mono h3 fun rc m4 q4 w4 v4 S4 x4 r4 => ?_
    obtain ⟨us, res', h1', h2', h3'⟩ := opR_sat q4
    obtain ⟨u1, u2, rfl, g1', g2'⟩ := ders2 h1'
    exact ok' w4 m4 σ u1 u2 v2 v4 res' Q S4 (S4.der ((r2.mono x3.mo).mono x4.mo) g1') (S4.der r4 g2') h2' fun w' v S' x' r' => h3' w' v S' (x1.trans (x2.trans (x3.trans (x4.trans x')))) r'
  · cases r3
    refine ⟨false, rfl, ?_⟩
    rw [if_neg (by decide)]
    exact h3 w3 (.bl false) S3 (x1.trans (x2.trans x3)) (.bl false)
  · exact h3.elim
theorem n_chain {ex ea eb ec : Expr} {f g : Op} {a b c : E} {r r' : R2} (hp : ∀ ta tb tc, PE X ea ta → PE X eb tb → PE X ec tc → PE X ex (tChain r r' ta tb tc)) (ok : OpOk2 C.G f r) (ok' : OpOk2 C.G g r')
    (ha : PE X ea (rdE C (evE cal a))) (hb : PE X eb (rdE C (evE cal b))) (hc : PE X ec (rdE C (evE cal c))) : PE X ex (rdE C (evE cal (.ch f g a b c))) := PE.imp (hp _ _ _ (pe_opd ha) (pe_opd hb) (pe_opd hc)) fun σ H Q q => rd_chain ok ok' q
/-! tests -/
theorem rd_bool {a : E} {σ : St} {H : Hp} {Q : Bool → Hp → Prop} (h : rdB C (evE cal a) σ H Q) : rdE C (evE cal a) σ H fun x H1 => ∃ c, x = .bl c ∧ Q c H1 := by
  obtain ⟨w, m, e, P, q⟩ := h
  refine ⟨w, m, e, P, Res.sat_mono q fun r m1 ⟨k, hk, q1⟩ w1 v1 S1 x1 r1 => ?_⟩
  subst hk
  cases r1
  exact ⟨k, rfl, q1 w1 S1 x1⟩
theorem t_val {ex : Expr} {a : E} (hp : ∀ t, PE X ex t → PT X ex (tB t)) (h : PE X ex (rdE C (evE cal a))) : PT X ex (rdB C (evE cal a)) := PT.imp (hp _ h) fun σ H Q q => rd_bool q
theorem t_op2 {ex ea eb : Expr} {f : Op} {a b : E} {r : R2} (hp : ∀ ta tb, PE X ea ta → PE X eb tb → PT X ex (tTest (tOp r ta tb))) (ok : OpOk2 C.G f r) (ha : PE X ea (rdE C (evE cal a))) (hb : PE X eb (rdE C (evE cal b))) :
    PT X ex (rdB C (evE cal (.op f (.cons a (.cons b .nil))))) := PT.imp (hp _ _ (pe_opd ha) (pe_opd hb)) fun σ H Q q => rd_op2 ok (rd_bool q)
theorem t_not {ex ea : Expr} {a : E} (hp : ∀ ta, PT X ea ta → PT X ex (tNot ta)) (h : PT X ea (rdB C (evE cal a))) : PT X ex (rdB C (evE cal (.nt a))) := PT.imp (hp _ h) fun σ H Q ⟨w, m, e, P, q⟩ => by
  rw [evE, Res.sat_bind] at q
  refine ⟨w, m, e, P, Res.sat_mono q fun r m1 q1 => ?_⟩
  split at q1
  · rename_i k
    obtain ⟨k', hk, q1⟩ := q1
    cases hk
    exact ⟨k, rfl, q1⟩
  · exact q1.elim
end
end Mi
set_option maxHeartbeats 1000000
namespace Mi
open PySem PySem.Spec PyProof.Rows L2

/-- p stands in no owned slot -/
noncomputable def Off (m : List Slot) (σ : St) (p : Addr) : Prop := ∀ (j : Nat) (o : O), m[j]? = some (.ow o) → σ[j]? ≠ some (some (.ref p))
noncomputable def Sub (m m1 : List Slot) : Prop := ∀ (j : Nat) (o : O), m1[j]? = some (.ow o) → m[j]? = some (.ow o)
/-- what is owned and stands in no slot stays owned -/
noncomputable def Kept (w : Wd) (m : List Slot) (σ : St) (w1 : Wd) : Prop := ∀ p, w.L p → Off m σ p → w1.L p
theorem Off.sub {m m1 : List Slot} {σ : St} {p : Addr} (h : Off m σ p) (s : Sub m m1) : Off m1 σ p := fun j o e => h j o (s j o e)
theorem Sub.refl (m : List Slot) : Sub m m := fun _ _ h => h
theorem Sub.trans {a b c : List Slot} (x : Sub a b) (y : Sub b c) : Sub a c := fun j o h => x j o (y j o h)
theorem Sub.setNo {m : List Slot} {i : Nat} : Sub m (m.set i .no) := fun j o h => by
  by_cases e : j = i
  · subst e
    by_cases lt : j < m.length
    · rw [List.getElem?_set_self lt] at h; cases h
    · rw [List.getElem?_eq_none (by rw [List.length_set]; omega)] at h; cases h
  · rwa [List.getElem?_set_ne (Ne.symm e)] at h
theorem Sub.setFz {m : List Slot} {i : Nat} {t : T} : Sub m (m.set i (.fz t)) := fun j o h => by
  by_cases e : j = i
  · subst e
    by_cases lt : j < m.length
    · rw [List.getElem?_set_self lt] at h; cases h
    · rw [List.getElem?_eq_none (by rw [List.length_set]; omega)] at h; cases h
  · rwa [List.getElem?_set_ne (Ne.symm e)] at h
section
variable {G : Gm} {w w' : Wd} {m m' : List Slot} {σ : St}
theorem esc_sub {d : Opd} {t : T} (h : esc m d = some (t, m')) : Sub m m' := by
  cases d with
  | t t' => cases h; exact .refl _
  | b i =>
    cases e : m[i]? with
    | none => simp [esc, e] at h
    | some s =>
      cases s with
      | no => simp [esc, e] at h
      | fz t' =>
        simp only [esc, e, Option.some.injEq, Prod.mk.injEq] at h
        obtain ⟨_, rfl⟩ := h
        exact .refl _
      | ow o =>
        simp only [esc, e, Option.some.injEq, Prod.mk.injEq] at h
        obtain ⟨_, rfl⟩ := h
        exact .setFz
theorem SR.escK (S : SR G w m σ) {d : Opd} {v : V} {t : T} (r : RD G w σ d v) (h : Mi.esc m d = some (t, m')) : ∃ w', w'.H = w.H ∧ SR G w' m' σ ∧ Ex w w' ∧ RF G w' t v ∧ Kept w m σ w' := by
  cases d with
  | t t' =>
    cases h
    exact ⟨w, rfl, S, .refl w, r, fun _ l _ => l⟩
  | b i =>
    have r' : σ[i]? = some (some v) := r
    cases e : m[i]? with
    | none => simp [Mi.esc, e] at h
    | some s =>
      have q := S.sl i s e
      cases s with
      | no => simp [Mi.esc, e] at h
      | fz t' =>
        simp only [Mi.esc, e, Option.some.injEq, Prod.mk.injEq] at h
        obtain ⟨rfl, rfl⟩ := h
        obtain ⟨x, e1, e2⟩ := q
        rw [r'] at e1
        cases e1
        exact ⟨w, rfl, S, .refl w, e2, fun _ l _ => l⟩
      | ow o =>
        simp only [Mi.esc, e, Option.some.injEq, Prod.mk.injEq] at h
        obtain ⟨rfl, rfl⟩ := h
        obtain ⟨a, e1, _, _⟩ := q
        rw [r'] at e1
        cases e1
        obtain ⟨h1, h2, h3⟩ := S.frSlot e r'
        exact ⟨w.fr a, rfl, h1, h3, h2, fun p l f => ⟨l, fun z => f i o e (z ▸ r')⟩⟩
end
/-- passed arguments -/
structure PR (G : Gm) (w : Wd) (m m1 : List Slot) (σ : St) (args : List Slot) (vs : List V) : Prop where
  len : args.length = vs.length
  sl : ∀ (k : Nat) (s : Slot), args[k]? = some s → SlR G w s (vs[k]?.map some)
  src : ∀ (k : Nat) (o : O) (b : Addr), args[k]? = some (.ow o) → vs[k]? = some (.ref b) → ∃ j : Nat, m[j]? = some (.ow o) ∧ σ[j]? = some (some (.ref b))
  inj : ∀ (k l : Nat) (o o' : O) (a : Addr), args[k]? = some (.ow o) → args[l]? = some (.ow o') → vs[k]? = some (.ref a) → vs[l]? = some (.ref a) → k = l
  off : ∀ (k : Nat) (o : O) (a : Addr), args[k]? = some (.ow o) → vs[k]? = some (.ref a) → Off m1 σ a
section
variable {G : Gm} {σ : St}
theorem SlR.mono {w w' : Wd} {s : Slot} {v : Option (Option V)} (h : SlR G w s v) (mo : Mo w w') (k : ∀ o a, s = .ow o → v = some (some (.ref a)) → w'.H a = w.H a ∧ w'.L a) : SlR G w' s v := by
  cases s with
  | no => trivial
  | fz t => obtain ⟨x, e, r⟩ := h; exact ⟨x, e, RF.mono mo r⟩
  | ow o =>
    obtain ⟨a, e, r, l⟩ := h
    obtain ⟨k1, k2⟩ := k o a rfl e
    exact ⟨a, e, r.mono mo k1, k2⟩
theorem SR.pass : ∀ {io : List Bool} {ds : List Opd} {vs : List V} {w : Wd} {m m1 args : List Slot}, SR G w m σ → RDs G w σ ds vs → Mi.pass m io ds = some (args, m1) →
    ∃ w1, w1.H = w.H ∧ Ex w w1 ∧ SR G w1 m1 σ ∧ PR G w1 m m1 σ args vs ∧ Kept w m σ w1 ∧ Sub m m1
  | [], _, _, w, m, _, _, S, .nil, h => by
    cases h
    exact ⟨w, rfl, .refl w, S, ⟨rfl, fun k s e => by simp at e, fun k o b e => by simp at e, fun k l o o' a e => by simp at e, fun k o a e => by simp at e⟩, fun _ l _ => l, .refl _⟩
  | [], _, _, _, _, _, _, _, .cons _ _, h => by cases h
  | true :: _, _, _, _, _, _, _, _, .nil, h => by cases h
  | false :: _, _, _, _, _, _, _, _, .nil, h => by cases h
  | false :: io, _, _, w, m, m1, args, S, .cons (d := d) (v := v) (ds := ds) (vs := vs) a b, h => by
    unfold Mi.pass at h
    cases h1 : Mi.esc m d with
    | none => rw [h1] at h; cases h
    | some p =>
      obtain ⟨t, m2⟩ := p
      rw [h1] at h
      simp only at h
      cases h2 : Mi.pass m2 io ds with
      | none => rw [h2] at h; cases h
      | some p2 =>
        obtain ⟨ss, m3⟩ := p2
        rw [h2] at h
        cases h
        obtain ⟨w1, e1, S1, x1, r1, k1⟩ := S.escK a h1
        obtain ⟨w2, e2, x2, S2, pr, k2, sb⟩ := SR.pass S1 (b.mono x1.mo) h2
        have sb1 := esc_sub h1
        refine ⟨w2, e2.trans e1, x1.trans x2, S2, ⟨congrArg Nat.succ pr.len, fun k s e => ?_, fun k o c e q => ?_, fun k l o o' c e1 e2 q1 q2 => ?_, fun k o c e q => ?_⟩, fun p l f => k2 p (k1 p l f) (f.sub sb1), sb1.trans sb⟩
        · cases k with
          | zero =>
            have e' : Slot.fz t = s := by simpa using e
            subst e'
            exact ⟨v, rfl, RF.mono x2.mo r1⟩
          | succ k => exact pr.sl k s (by simpa using e)
        · cases k with
          | zero => simp at e
          | succ k =>
            obtain ⟨j, q1, q2⟩ := pr.src k o c (by simpa using e) (by simpa using q)
            exact ⟨j, sb1 j o q1, q2⟩
        · cases k with
          | zero => simp at e1
          | succ k =>
            cases l with
            | zero => simp at e2
            | succ l => exact congrArg Nat.succ (pr.inj k l o o' c (by simpa using e1) (by simpa using e2) (by simpa using q1) (by simpa using q2))
        · cases k with
          | zero => simp at e
          | succ k => exact pr.off k o c (by simpa using e) (by simpa using q)
  | true :: io, _, _, w, m, m1, args, S, .cons (d := d) (v := v) (ds := ds) (vs := vs) a b, h => by
    cases d with
    | t t => cases h
    | b i =>
      have a' : σ[i]? = some (some v) := a
      unfold Mi.pass at h
      cases e0 : m[i]? with
      | none => rw [e0] at h; cases h
      | some s =>
        cases s with
        | no => rw [e0] at h; cases h
        | fz t => rw [e0] at h; cases h
        | ow o0 =>
          rw [e0] at h
          simp only at h
          cases h2 : Mi.pass (m.set i .no) io ds with
          | none => rw [h2] at h; cases h
          | some p2 =>
            obtain ⟨ss, m3⟩ := p2
            rw [h2] at h
            cases h
            have S1 : SR G w (m.set i .no) σ := S.setNo
            obtain ⟨w2, e2, x2, S2, pr, k2, sb⟩ := SR.pass S1 b h2
            have sb1 : Sub m (m.set i .no) := .setNo
            obtain ⟨c0, ec0, r0, l0⟩ := S.sl i _ e0
            rw [a'] at ec0
            cases ec0
            have lt := (List.getElem?_eq_some_iff.mp e0).1
            have off0 : Off (m.set i .no) σ c0 := fun j o hj z => by
              have hm := sb1 j o hj
              have e := S.inj j i o o0 c0 hm e0 z a'
              subst e
              rw [List.getElem?_set_self lt] at hj
              cases hj
            refine ⟨w2, e2, x2, S2, ⟨congrArg Nat.succ pr.len, fun k s e => ?_, fun k o c e q => ?_, fun k l o o' c e1 e2 q1 q2 => ?_, fun k o c e q => ?_⟩, fun p l f => k2 p l (f.sub sb1), sb1.trans sb⟩
            · cases k with
              | zero =>
                have e' : Slot.ow o0 = s := by simpa using e
                subst e'
                exact ⟨c0, rfl, r0.mono x2.mo (by rw [e2]), k2 c0 l0 off0⟩
              | succ k => exact pr.sl k s (by simpa using e)
            · cases k with
              | zero =>
                have e' : Slot.ow o0 = Slot.ow o := by simpa using e
                cases e'
                have q' : (V.ref c0) = .ref c := by simpa using q
                cases q'
                exact ⟨i, e0, a'⟩
              | succ k =>
                obtain ⟨j, q1, q2⟩ := pr.src k o c (by simpa using e) (by simpa using q)
                exact ⟨j, sb1 j o q1, q2⟩
            · cases k with
              | zero =>
                cases l with
                | zero => rfl
                | succ l =>
                  have q' : (V.ref c0) = .ref c := by simpa using q1
                  cases q'
                  obtain ⟨j, z1, z2⟩ := pr.src l o' c0 (by simpa using e2) (by simpa using q2)
                  exact absurd z2 (off0 j o' z1)
              | succ k =>
                cases l with
                | zero =>
                  have q' : (V.ref c0) = .ref c := by simpa using q2
                  cases q'
                  obtain ⟨j, z1, z2⟩ := pr.src k o c0 (by simpa using e1) (by simpa using q1)
                  exact absurd z2 (off0 j o z1)
                | succ l => exact congrArg Nat.succ (pr.inj k l o o' c (by simpa using e1) (by simpa using e2) (by simpa using q1) (by simpa using q2))
            · cases k with
              | zero =>
                have q' : (V.ref c0) = .ref c := by simpa using q
                cases q'
                exact off0.sub sb
              | succ k => exact pr.off k o c (by simpa using e) (by simpa using q)
/-- a slot takes what stands at its value -/
theorem SR.put {w : Wd} {m : List Slot} {i : Nat} {s : Slot} (S : SR G w m σ) (h : SlR G w s σ[i]?) (off : ∀ o a, s = .ow o → σ[i]? = some (some (.ref a)) → Off m σ a) : SR G w (m.set i s) σ := by
  have get : ∀ {j s'}, (m.set i s)[j]? = some s' → (j = i ∧ s' = s) ∨ (j ≠ i ∧ m[j]? = some s') := fun {j s'} hj => by
    by_cases e : j = i
    · subst e
      have lt := (List.getElem?_eq_some_iff.mp hj).1
      rw [List.length_set] at lt
      rw [List.getElem?_set_self lt] at hj
      cases hj
      exact .inl ⟨rfl, rfl⟩
    · rw [List.getElem?_set_ne (Ne.symm e)] at hj
      exact .inr ⟨e, hj⟩
  refine ⟨by rw [List.length_set]; exact S.len, fun j s' hj => ?_, fun j k o o' a h1 h2 e1 e2 => ?_, S.sep, S.trk⟩
  · rcases get hj with ⟨rfl, rfl⟩ | ⟨_, q⟩
    · exact h
    · exact S.sl j s' q
  · rcases get h1 with ⟨n1, q1⟩ | ⟨n1, q1⟩ <;> rcases get h2 with ⟨n2, q2⟩ | ⟨n2, q2⟩
    · rw [n1, n2]
    · subst n1
      exact absurd e2 (off o a q1.symm e1 k o' q2)
    · subst n2
      exact absurd e1 (off o' a q2.symm e2 j o q1)
    · exact S.inj j k o o' a q1 q2 e1 e2
/-- what comes back -/
theorem SR.back {w : Wd} : ∀ {io : List Bool} {ds : List Opd} {vs : List V} {outs m m2 : List Slot}, SR G w m σ → RDs G w σ ds vs →
    (∀ (k : Nat) (s : Slot), outs[k]? = some s → SlR G w s (vs[k]?.map some)) → (∀ (k l : Nat) (o o' : O) (a : Addr), outs[k]? = some (.ow o) → outs[l]? = some (.ow o') → vs[k]? = some (.ref a) → vs[l]? = some (.ref a) → k = l) →
    (∀ (k : Nat) (o : O) (a : Addr), outs[k]? = some (.ow o) → vs[k]? = some (.ref a) → Off m σ a) → Mi.back m io ds outs = some m2 →
    SR G w m2 σ ∧ ∀ p, Off m σ p → (∀ (k : Nat) (o : O), outs[k]? = some (.ow o) → vs[k]? ≠ some (.ref p)) → Off m2 σ p
  | [], _, _, outs, m, _, S, .nil, _, _, _, h => by
    simp only [Mi.back, Option.some.injEq] at h
    subst h
    exact ⟨S, fun p h _ => h⟩
  | [], _, _, _, _, _, _, .cons _ _, _, _, _, h => by simp [Mi.back] at h
  | true :: _, _, _, _, _, _, _, .nil, _, _, _, h => by simp [Mi.back] at h
  | false :: _, _, _, _, _, _, _, .nil, _, _, _, h => by simp [Mi.back] at h
  | io0 :: io, _, _, [], _, _, _, .cons (d := d) _ _, _, _, _, h => by
    cases io0 <;> cases d <;> cases h
  | false :: io, _, _, s :: outs, m, m2, S, .cons (d := d) (v := v) (ds := ds) (vs := vs) a b, sl, inj, off, h => by
    have h' : Mi.back m io ds outs = some m2 := by cases d <;> exact h
    obtain ⟨q1, q2⟩ := SR.back S b (fun k s e => sl (k + 1) s (by simpa using e)) (fun k l o o' a e1 e2 z1 z2 => Nat.succ.inj (inj (k + 1) (l + 1) o o' a (by simpa using e1) (by simpa using e2) (by simpa using z1) (by simpa using z2)))
      (fun k o a e z => off (k + 1) o a (by simpa using e) (by simpa using z)) h'
    exact ⟨q1, fun p f n => q2 p f fun k o e => n (k + 1) o (by simpa using e)⟩
  | true :: io, _, _, s :: outs, m, m2, S, .cons (d := d) (v := v) (ds := ds) (vs := vs) a b, sl, inj, off, h => by
    cases d with
    | t t => cases h
    | b i =>
      have a' : σ[i]? = some (some v) := a
      have h' : Mi.back (m.set i s) io ds outs = some m2 := h
      have S1 : SR G w (m.set i s) σ := S.put (by have := sl 0 s rfl; rw [a']; exact this) fun o p e z => by
        subst e
        rw [a'] at z
        cases z
        exact off 0 o p rfl rfl
      have offs : ∀ p, Off m σ p → (∀ o, s = .ow o → v ≠ .ref p) → Off (m.set i s) σ p := fun p f n j o hj z => by
        by_cases e : j = i
        · subst e
          have lt := (List.getElem?_eq_some_iff.mp hj).1
          rw [List.length_set] at lt
          rw [List.getElem?_set_self lt] at hj
          have hs : s = .ow o := Option.some.inj hj
          rw [a'] at z
          exact n o hs (Option.some.inj (Option.some.inj z))
        · rw [List.getElem?_set_ne (Ne.symm e)] at hj
          exact f j o hj z
      obtain ⟨q1, q2⟩ := SR.back S1 b (fun k s e => sl (k + 1) s (by simpa using e)) (fun k l o o' a e1 e2 z1 z2 => Nat.succ.inj (inj (k + 1) (l + 1) o o' a (by simpa using e1) (by simpa using e2) (by simpa using z1) (by simpa using z2)))
        (fun k o c e z => offs c (off (k + 1) o c (by simpa using e) (by simpa using z)) fun o' hs hv => by
          subst hs
          have := inj 0 (k + 1) o' o c rfl (by simpa using e) (by simpa using hv) (by simpa using z)
          cases this) h'
      refine ⟨q1, fun p f n => q2 p (offs p f fun o hs hv => n 0 o (by simpa using hs) (by simpa using hv)) fun k o e => n (k + 1) o (by simpa using e)⟩
end
end Mi
set_option maxHeartbeats 1000000
namespace Mi
open PySem PySem.Spec PyProof.Rows L2

/-- a raised value: its class, its own dict -/
noncomputable def RX (G : Gm) (w : Wd) (x : T) (cls : Value) (d : Option Addr) : Prop := ∃ c fs dx gs, x = .ins c fs ∧ cls = .ref (G.cls c) ∧ d = some dx ∧ w.H dx = some (.xd gs) ∧ RFf G w fs gs
theorem RX.mono {G : Gm} {w w' : Wd} {x : T} {cls : Value} {d : Option Addr} (h : RX G w x cls d) (mo : Mo w w') (e : w'.H = w.H) : RX G w' x cls d := by
  obtain ⟨c, fs, dx, gs, h1, h2, h3, h4, h5⟩ := h
  exact ⟨c, fs, dx, gs, h1, h2, h3, by rw [e]; exact h4, RFf.mono mo h5⟩
noncomputable def WM (C : Ct) : WX := fun cls d σ H => ∃ w m x, w.H = H ∧ Pre C w m σ ∧ RX C.G w x cls d ∧ C.EM x m
/-- a def's promise, by the evaluator -/
noncomputable def spM (G : Gm) (cal : Nat → List Slot → CRes) (f : Nat) : Sp := fun vs H Q E => ∃ w args, w.H = H ∧ SR G w args (vs.map some) ∧ match cal f args with
  | .ok r outs => ∀ w' v, SR G w' outs (vs.map some) → Ex w w' → RR G w' outs (vs.map some) r v → Q v w'.H
  | .ex x outs => ∀ w' cls d, SR G w' outs (vs.map some) → Ex w w' → RX G w' x cls d → E cls d w'.H
  | .no => False
theorem mo_same {w w' : Wd} (f : w'.F = w.F) (h : w'.H = w.H) : Mo w w' := ⟨fun a x => by rw [f]; exact x, fun a _ => by rw [h]; exact .refl _⟩
theorem getM {vs : List V} {k : Nat} {a : V} : (vs.map some)[k]? = some (some a) ↔ vs[k]? = some a := by
  rw [List.getElem?_map]
  cases vs[k]? <;> simp
/-- passed arguments, as the callee's rules look at them -/
structure PQ (G : Gm) (w : Wd) (m1 : List Slot) (σ : St) (args : List Slot) (vs : List V) : Prop where
  len : args.length = vs.length
  sl : ∀ (k : Nat) (s : Slot), args[k]? = some s → SlR G w s (vs[k]?.map some)
  inj : ∀ (k l : Nat) (o o' : O) (a : Addr), args[k]? = some (.ow o) → args[l]? = some (.ow o') → vs[k]? = some (.ref a) → vs[l]? = some (.ref a) → k = l
  off : ∀ (k : Nat) (o : O) (a : Addr), args[k]? = some (.ow o) → vs[k]? = some (.ref a) → Off m1 σ a
theorem PR.q {G : Gm} {w : Wd} {m m1 : List Slot} {σ : St} {args : List Slot} {vs : List V} (p : PR G w m m1 σ args vs) : PQ G w m1 σ args vs := ⟨p.len, p.sl, p.inj, p.off⟩
/-- the callee's world, the world behind it -/
noncomputable def callW (w : Wd) (args : List Slot) (vs : List V) : Wd := ⟨w.F, fun a => ∃ (k : Nat) (o : O), args[k]? = some (.ow o) ∧ vs[k]? = some (.ref a), w.H⟩
noncomputable def backW (w w' : Wd) (args : List Slot) (vs : List V) : Wd := ⟨w'.F, fun a => (w.L a ∧ ¬ (callW w args vs).L a ∧ ∃ u, w.H a = some u) ∨ w'.L a, w'.H⟩
section
variable {G : Gm} {σ : St} {w w' : Wd} {m m1 args outs : List Slot} {vs : List V}
theorem PQ.call (pr : PQ G w m1 σ args vs) (S : SR G w m1 σ) : SR G (callW w args vs) args (vs.map some) := by
  have mo : Mo w (callW w args vs) := mo_same rfl rfl
  have inL : ∀ a, (callW w args vs).L a → w.L a := fun a ⟨k, o, e, q⟩ => by
    obtain ⟨b, e1, _, l⟩ := pr.sl k _ e
    rw [q] at e1
    cases e1
    exact l
  refine ⟨by rw [List.length_map]; exact pr.len, fun k s e => ?_, fun k l o o' a e1 e2 q1 q2 => pr.inj k l o o' a e1 e2 (getM.mp q1) (getM.mp q2), fun a l => S.sep a (inL a l), S.trk⟩
  rw [List.getElem?_map]
  refine (pr.sl k s e).mono mo fun o a hs hv => ⟨rfl, k, o, by rw [← hs]; exact e, ?_⟩
  cases hv' : vs[k]? with
  | none => rw [hv'] at hv; cases hv
  | some v => rw [hv'] at hv; cases hv; rfl
theorem call_inL (pr : PQ G w m1 σ args vs) : ∀ a, (callW w args vs).L a → w.L a := fun a ⟨k, o, e, q⟩ => by
  obtain ⟨b, e1, _, l⟩ := pr.sl k _ e
  rw [q] at e1
  cases e1
  exact l
theorem call_ex (pr : PQ G w m1 σ args vs) (x : Ex (callW w args vs) w') : Ex w (backW w w' args vs) :=
  ⟨x.fz, x.kp, fun a u h1 h2 h3 => by
    obtain ⟨q1, q2, q3⟩ := x.ot a u h1 h2 fun z => h3 (call_inL pr a z)
    exact ⟨q1, q2, fun z => z.elim (fun z => h3 z.1) q3⟩⟩
/-- an owned slot of the caller's is untouched -/
theorem call_slot (pr : PQ G w m1 σ args vs) (S : SR G w m1 σ) (x : Ex (callW w args vs) w') {j : Nat} {o : O} {a : Addr} (h : m1[j]? = some (.ow o)) (e : σ[j]? = some (some (.ref a))) :
    w.L a ∧ ¬ (callW w args vs).L a ∧ (∃ u, w.H a = some u) ∧ w'.H a = w.H a ∧ ¬ w'.L a ∧ RO G w a o := by
  obtain ⟨b, e1, r, l⟩ := S.sl j _ h
  rw [e] at e1
  cases e1
  obtain ⟨u, hu⟩ := r.trk
  have np : ¬ (callW w args vs).L a := fun ⟨k, o', e', q⟩ => pr.off k o' a e' q j o h e
  obtain ⟨q1, q2, q3⟩ := x.ot a u hu (S.sep a l) np
  exact ⟨l, np, ⟨u, hu⟩, by rw [q1]; exact hu.symm, q3, r⟩
theorem call_back (pr : PQ G w m1 σ args vs) (S : SR G w m1 σ) (x : Ex (callW w args vs) w') (S' : SR G w' outs (vs.map some)) : SR G (backW w w' args vs) m1 σ := by
  have mo : Mo w (backW w w' args vs) := ⟨x.fz, x.kp⟩
  refine ⟨S.len, fun j s h => ?_, S.inj, fun a l f => ?_, S'.trk⟩
  · refine (S.sl j s h).mono mo fun o a hs hv => ?_
    subst hs
    obtain ⟨q1, q2, q3, q4, _, _⟩ := call_slot pr S x h hv
    exact ⟨q4, .inl ⟨q1, q2, q3⟩⟩
  · rcases l with ⟨l, np, u, hu⟩ | l
    · exact (x.ot a u hu (S.sep a l) np).2.1 f
    · exact S'.sep a l f
theorem call_off (pr : PQ G w m1 σ args vs) (S : SR G w m1 σ) (x : Ex (callW w args vs) w') {p : Addr} (l : w'.L p) : Off m1 σ p := fun j o h e => (call_slot pr S x h e).2.2.2.2.1 l
end

section
variable {C : Ct} {X : Cx} {cal : Nat → List Slot → CRes}
theorem callR_sat {f : Nat} {io : List Bool} {ds : List Opd} {m : List Slot} {A : R → List Slot → Prop} {B : T → List Slot → Prop} (h : (callR cal f io ds m).sat A B) :
    ∃ args m1, pass m io ds = some (args, m1) ∧ ((∃ r outs m2, cal f args = .ok r outs ∧ (∀ i, r ≠ .bo i) ∧ back m1 io ds outs = some m2 ∧ A r m2) ∨ ∃ x outs m2, cal f args = .ex x outs ∧ back m1 io ds outs = some m2 ∧ B x m2) := by
  unfold callR at h
  cases h1 : pass m io ds with
  | none => rw [h1] at h; exact h.elim
  | some p =>
    obtain ⟨args, m1⟩ := p
    rw [h1] at h
    simp only at h
    refine ⟨args, m1, rfl, ?_⟩
    cases h2 : cal f args with
    | no => rw [h2] at h; exact h.elim
    | ok r outs =>
      rw [h2] at h
      cases r with
      | bo i => exact h.elim
      | fz t =>
        simp only at h
        cases h3 : back m1 io ds outs with
        | none => rw [h3] at h; exact h.elim
        | some m2 => rw [h3] at h; exact .inl ⟨_, outs, m2, rfl, (fun _ z => nomatch z), h3, h⟩
      | ow o =>
        simp only at h
        cases h3 : back m1 io ds outs with
        | none => rw [h3] at h; exact h.elim
        | some m2 => rw [h3] at h; exact .inl ⟨_, outs, m2, rfl, (fun _ z => nomatch z), h3, h⟩
    | ex x outs =>
      rw [h2] at h
      simp only at h
      cases h3 : back m1 io ds outs with
      | none => rw [h3] at h; exact h.elim
      | some m2 => rw [h3] at h; exact .inr ⟨x, outs, m2, rfl, h3, h⟩
/-- the call, behind its arguments -/
theorem call_core {f : Nat} {io : List Bool} {ds : List Opd} {vs : List V} {w : Wd} {m : List Slot} {σ : St} {Q : VK} (P : Pre C w m σ) (r : RDs C.G w σ ds vs)
    (h : (callR cal f io ds m).sat (fun r m' => ∀ w' v, SR C.G w' m' σ → Ex w w' → RR C.G w' m' σ r v → Q v w'.H) C.EM) : spM C.G cal f vs w.H Q (fun cls d H => WM C cls d σ H) := by
  obtain ⟨args, m1, hp, h⟩ := callR_sat h
  obtain ⟨w1, e1, x1, S1, pr, _, sb⟩ := SR.pass P.sr r hp
  replace pr := pr.q
  refine ⟨callW w1 args vs, args, e1, pr.call S1, ?_⟩
  rcases h with ⟨r0, outs, m2, hc, nb, hb, k⟩ | ⟨x0, outs, m2, hc, hb, k⟩
  · rw [hc]
    intro w' v S' x' rr
    have S3 := call_back pr S1 x' S'
    have x3 := call_ex pr x'
    have same : Mo w' (backW w1 w' args vs) := mo_same rfl rfl
    obtain ⟨S4, off4⟩ := SR.back S3 (r.mono (x1.trans x3).mo) (fun k s e => by
        have := S'.sl k s e
        rw [List.getElem?_map] at this
        exact this.mono same fun o a hs hv => ⟨rfl, .inr (by
          subst hs
          obtain ⟨b, e1, _, l⟩ := S'.sl k _ e
          rw [List.getElem?_map, hv] at e1
          cases e1
          exact l)⟩)
      (fun k l o o' a e1 e2 z1 z2 => S'.inj k l o o' a e1 e2 (getM.mpr z1) (getM.mpr z2))
      (fun k o a e z => by
        obtain ⟨b, e1, _, l⟩ := S'.sl k _ e
        rw [getM.mpr z] at e1
        cases e1
        exact call_off pr S1 x' l) hb
    refine k (backW w1 w' args vs) v S4 (x1.trans x3) ?_
    cases r0 with
    | fz t => exact RF.mono same rr
    | bo i => exact absurd rfl (nb i)
    | ow o =>
      obtain ⟨p, rfl, ro, l, n⟩ := rr
      refine ⟨p, rfl, ro.mono same rfl, .inr l, off4 p (call_off pr S1 x' l) fun k o' e z => n k o' e (getM.mpr z)⟩
  · rw [hc]
    intro w' cls d S' x' rx
    have S3 := call_back pr S1 x' S'
    have x3 := call_ex pr x'
    have same : Mo w' (backW w1 w' args vs) := mo_same rfl rfl
    obtain ⟨S4, off4⟩ := SR.back S3 (r.mono (x1.trans x3).mo) (fun k s e => by
        have := S'.sl k s e
        rw [List.getElem?_map] at this
        exact this.mono same fun o a hs hv => ⟨rfl, .inr (by
          subst hs
          obtain ⟨b, e1, _, l⟩ := S'.sl k _ e
          rw [List.getElem?_map, hv] at e1
          cases e1
          exact l)⟩)
      (fun k l o o' a e1 e2 z1 z2 => S'.inj k l o o' a e1 e2 (getM.mpr z1) (getM.mpr z2))
      (fun k o a e z => by
        obtain ⟨b, e1, _, l⟩ := S'.sl k _ e
        rw [getM.mpr z] at e1
        cases e1
        exact call_off pr S1 x' l) hb
    exact ⟨backW w1 w' args vs, m2, x0, rfl, P.step S4 (x1.trans x3), rx.mono same rfl, k⟩
noncomputable def tCallM (C : Ct) (cal : Nat → List Slot → CRes) (f : Nat) (t : TA) : TE := fun σ H Q => t σ H fun vs H1 => spM C.G cal f vs H1 Q (fun cls d H => WM C cls d σ H)
theorem n_call {ex : Expr} {exs : List Expr} {f : Nat} {io : List Bool} {es : Es} (hp : ∀ t, PA X exs t → PE X ex (tCallM C cal f t)) (h : PA X exs (rdDs C (evDs cal es))) : PE X ex (rdE C (evE cal (.call f io es))) :=
  PE.imp (hp _ h) fun σ H Q ⟨w, m, e, P, q⟩ => by
  rw [evE, Res.sat_bind] at q
  refine ⟨w, m, e, P, Res.sat_mono q fun ds m1 q1 w1 vs S1 x1 r1 => ?_⟩
  exact call_core (P.step S1 x1) r1 (Res.sat_mono q1 fun r m2 k w' v S' x' rr => k w' v S' (x1.trans x') rr)
end
end Mi
set_option maxHeartbeats 2000000
namespace MiP
open PySem PySem.Spec PyProof.Rows
theorem meets_enum1 {v : Value} {o : Obj} {H : Heap → Prop} (B : Begins v o H) :
    Meets (Builtin.«enumerate.__new__» ⟨[.type "enumerate", v], []⟩) (fun _ R s => H s.heap ∧
      R (.ok (.ret (.ref (s.heap.push o).objs.size))) { s with heap := (s.heap.push o).push { cls := .type "enumerate", data := .fields #[.none, .bool false, .ref s.heap.objs.size, rawInt 0, .none, .none] } }) :=
  .of_wp fun prog w A R s h => by
    obtain ⟨hp, g, d, tk, os⟩ := s; obtain ⟨h1, h⟩ := h
    have hsub := sub_enumerate
    have q1 : ∀ {A' : Around} {E : Value → Shared → Prop} {Q : Value → Shared → Prop}, Q (.ref hp.objs.size) ⟨hp.push o, g, d, tk, os⟩ → wpAny (model prog w) A' (pyIter v) Q E ⟨hp, g, d, tk, os⟩ :=
      fun q => B.iter prog w _ _ ⟨hp, g, d, tk, os⟩ _ h1 q
    wp_walk using q1
    refine wpAny_stack_any fun st => wpAny_pure ?_
    split
    · rename_i c _ _ _ _ _
      cases (c == Value.type "enumerate")
      · wp_walk using q1
        exact ⟨_, rfl, h⟩
      · wp_walk using q1
        exact ⟨_, rfl, h⟩
    · wp_walk using q1
      exact ⟨_, rfl, h⟩
section
variable {prog : Program} {w : World} {A : Around} {E : Value → Shared → Prop} {s : Shared}
theorem enum_begins1 {v : Value} {o : Obj} {H : Heap → Prop} {Q : Value → Shared → Prop} (B : Begins v o H) (h1 : H s.heap)
    (h : ∀ h', IsEnum h' (s.heap.objs.size + 1) s.heap.objs.size 0 .none → h'.get? s.heap.objs.size = some o → h'.objs.size = s.heap.objs.size + 2 →
      (∀ b o, s.heap.get? b = some o → h'.get? b = some o) → Q (.ref (s.heap.objs.size + 1)) { s with heap := h' }) :
    wpAny (model prog w) A (call (.type "enumerate") [v]) Q E s := by
  refine callType_new F.called_enumerate (by decide) (F.typeCall_enumerate_1 _) (F.newCall_enumerate_1 _) (fun obj => F.args_object_init_2 obj _) F.entry_enumerate_new (meets_enum1 B) ⟨h1, ?_⟩
  have hz : (s.heap.push o).objs.size = s.heap.objs.size + 1 := Heap.size_push ..
  show _ ∧ _
  rw [hz]
  have he : IsEnum ((s.heap.push o).push { cls := .type "enumerate", data := .fields #[.none, .bool false, .ref s.heap.objs.size, rawInt 0, .none, .none] }) (s.heap.objs.size + 1) s.heap.objs.size 0 .none := by
    have := Heap.get?_push_size (s.heap.push o) (o := { cls := .type "enumerate", data := .fields #[.none, .bool false, .ref s.heap.objs.size, rawInt 0, .none, .none] }) rfl
    rw [hz] at this; exact this
  refine ⟨⟨_, he, rfl⟩, h _ he (Heap.get?_push_of_some _ (Heap.get?_push_size _ B.free)) (by rw [Heap.size_push, hz]) fun b o x => Heap.get?_push_of_some _ (Heap.get?_push_of_some _ x)⟩
theorem next_enum_tup_end {e it t : Addr} {j : Nat} {items : Array Value} {i : Int} {old : Value} {Q : Option Value → Shared → Prop} (hh : A.handled = none)
    (he : IsEnum s.heap e it i old) (hit : s.heap.IsTupleIter it t j) (hl : s.heap.IsTuple t items) (hx : items[j]? = none)
    (hQ : ∀ h', Heap.ExtBut it s.heap h' → Q none { s with heap := h' }) : wpAny (model prog w) A (pyNext (.ref e)) Q E s := by
  have hT : s.TypeIs (.ref e) "enumerate" := ⟨_, he, rfl⟩
  unfold pyNext
  refine wpAny_bind (wpAny_attempt (wpAny_callSpecial?_slot (name := Str.ofString "__next__") hT F.slot_enumerate_next
    (wpAny_call_entry F.slot_enumerate_next hT F.entry_enumerate_next ?_ (F.args_enumerate_next_1 _))))
  show wpAny _ _ (field (.ref e) 2 >>= _) _ _ _
  refine wpAny_bind (wpAny_field he rfl (x := .ref it) rfl ?_)
  refine wpAny_bind (wpAny_nextOf_tuple_end hh hit hl hx fun h' x he' hx' => ?_)
  obtain ⟨o, ho, hc⟩ := hx'
  refine wpAny_bind (wpAny_isInstance (T := "StopIteration") (b := true) ⟨o, ho, hc⟩ isSubtype_stop ?_)
  exact wpAny_pure (hQ _ he')
end
end MiP
namespace Mi
open PySem PySem.Spec PyProof.Rows L2
/-- enumerate over a tuple that stays -/
noncomputable def IteT (K : PySem.W.Frag) (a : Addr) : It :=
  ⟨fun i H => ∃ (xs : List V) (x : V), SqT K H a xs ∧ xs[i]? = some x, fun i H v H' => ∃ T x, v = .ref T ∧ H T = none ∧ H' = upd H T (.tup [.int (i : Nat), x]) ∧ ∀ xs, SqT K H a xs → xs[i]? = some x, fun i H => ∃ xs : List V, SqT K H a xs ∧ xs.length ≤ i⟩
theorem turn_enumT {P : Program} {w : World} {K : PySem.W.Frag} {elts : List Expr} {kk : Nat} {tpos : Pos} (a e it : Addr) :
    Turn P w K (.Tuple elts kk tpos) (IteT K a) [e, it] e (fun i h => (∃ old, IsEnum h e it ((i : Nat) : Int) old) ∧ h.IsTupleIter it a i ∧ e ≠ it ∧ a ≠ it ∧ e ≠ a) where
  mem := by simp
  obj := fun i h st b hb => by
    obtain ⟨⟨old, he⟩, ⟨o, ho, hc, hd⟩, _⟩ := st
    have e' : b = e ∨ b = it := by simpa using hb
    rcases e' with z | z
    · rw [z]; exact ⟨_, he, fun v q => nomatch q⟩
    · rw [z]; exact ⟨o, ho, fun v q => by rw [hd] at q; cases q⟩
  keep := fun i h h' st k => let ⟨⟨old, he⟩, hi, hne⟩ := st; ⟨⟨old, k e (by simp) _ he⟩, hi.at fun o q => k it (by simp) o q, hne⟩
  item := by
    intro X hP hw hK hc i pins s σ H E I hf st hg
    subst hP hw hK
    obtain ⟨⟨old, he⟩, hit, hne, hna, hea⟩ := st
    obtain ⟨xs, x, hq, hx⟩ := hg
    obtain ⟨its, rv, p, hz⟩ := I.tuple hq
    obtain ⟨u, hu, ru⟩ := rv.get hx
    have hel : e < s.heap.objs.size := Heap.lt_size he
    have hil : it < s.heap.objs.size := by obtain ⟨_, q, _⟩ := hit; exact Heap.lt_size q
    have hlt : i < its.toArray.size := by have := (List.getElem?_eq_some_iff.mp hu).1; simpa using this
    refine wpAny_pyNext_enum_itemD (Draws.tuple (A := X.A.in1) (show X.A.in1.handled = none from I.ok.hd hc) it a hna its.toArray) he ⟨hit, p⟩ hlt hne (by simp [hne, hea]) fun x1 h' tk hx1 ho hst' hT hsz hk => ?_
    have ex : x1 = u := by
      have : its[i]? = some x1 := by simpa using hx1
      rw [hu] at this
      exact (Option.some.inj this).symm
    subst ex
    have e1 : ((i + 1 : Nat) : Int) = (i : Int) + 1 := by omega
    refine ⟨_, rfl, wpAny_letOwnedTupleGo_enum (s := { s with heap := h', toks := tk + 1 }) ho fun h'' he' sb => ?_⟩
    have hT2 : h''.get? s.heap.objs.size = some { cls := .type "tuple", data := .seq #[.int i tk, x1] } := (sb.2 _ (Nat.ne_of_gt hel)).trans hT
    have new : ObjOk X.prog X.w (upd H s.heap.objs.size (.tup [.int (i : Nat), x])) h'' s.heap.objs.size (.tup [.int (i : Nat), x]) :=
      ⟨by show 2 ≤ sizeLine; decide, [.int i tk, x1], .cons ⟨_, rfl⟩ (.cons ru .nil), ⟨_, hT2, rfl, _, rfl⟩⟩
    have I1 : Inv X pins σ (upd H s.heap.objs.size (.tup [.int (i : Nat), x])) { s with heap := h'', toks := tk + 1 } :=
      I.turnedNew (ch := [e, it]) (fun b ob hb q => (sb.2 b (fun z => hb (by simp [z]))).trans (hk b ob (fun z => hb (by simp [z])) (fun z => hb (by simp [z])) q)) hf (Nat.le_refl _) new
    refine ⟨.ref s.heap.objs.size, _, I1, rfl, ⟨_, x, rfl, I.hok.fresh (Nat.le_refl _), rfl, fun ys hy => by rw [I.tuple_inj hy hq]; exact hx⟩, ⟨⟨x1, ?_⟩, hst'.1.at fun o q => (sb.2 it (Ne.symm hne)).trans q, hne, hna, hea⟩, fun b hb => ?_⟩
    · rw [e1]; exact he'
    · have hb' : b < s.heap.objs.size := by
        have e' : b = e ∨ b = it := by simpa using hb
        rcases e' with z | z
        · rw [z]; exact hel
        · rw [z]; exact hil
      rw [upd_ne (Nat.ne_of_lt hb')]
      exact (hf b hb).1
  done := by
    intro X hP hw hK hc i pins s σ H E I hf st hg
    subst hP hw hK
    obtain ⟨⟨old, he⟩, hit, hne, hna, hea⟩ := st
    obtain ⟨xs, hq, hx⟩ := hg
    obtain ⟨its, rv, p, hz⟩ := I.tuple hq
    obtain ⟨f0, f1, f2, f3, f4, f5⟩ := hf it (by simp)
    have hl := rv.length
    exact MiP.next_enum_tup_end (A := X.A) (I.ok.hd hc) he hit p (by simp; omega) fun h' eb => ⟨rfl, I.turned (t' := s.toks) (fun b o hb q => eb b o hb q) f0 f1 f3 f4 f5⟩
  self := fun A i s Q E st h => let ⟨⟨_, he⟩, _⟩ := st; wpAny_pyIter_enum he h
noncomputable def iEnumT (K : PySem.W.Frag) (ta : TA) : TI := fun σ H R => ta σ H fun vs H1 => ∃ a xs, vs = [.ref a] ∧ ((SqL K H1 a xs ∧ R (Ite K a) H1) ∨ (SqT K H1 a xs ∧ R (IteT K a) H1))
theorem pi_enumT {X : Cx} {e : Expr} {ta : TA} {p pos tpos : Pos} {elts : List Expr} {kk : Nat} (hg : Gl X "enumerate") (hm : X.mg "enumerate" = none) (ha : PA X [e] ta) (hs : starEach [e] X.env = [(false, eval e X.env)] := by rfl) :
    PI X (.Tuple elts kk tpos) (.Call (.Name "enumerate" p) [e] [] pos) (iEnumT X.K ta) := by
  refine ⟨fun pins s σ H R I h => ?_⟩
  refine Call_ (ld_blt I hg hm boot_enumerate (PyProof.Rows.callWith_type1 (thn (ha.run pos pins s σ H _ I h) fun us s1 ⟨vs, H1, I1, r1, q1⟩ => ?_) hs rfl))
  obtain ⟨a, xs, ex, hq⟩ := q1
  subst ex
  cases r1 with
  | cons r rr =>
    cases rr
    cases r
    have hfp : ∀ b ∈ [s1.heap.objs.size + 1, s1.heap.objs.size], s1.heap.objs.size ≤ b := fun b hb => by
      have e' : b = s1.heap.objs.size + 1 ∨ b = s1.heap.objs.size := by simpa using hb
      rcases e' with z | z
      · rw [z]; exact Nat.le_add_right _ _
      · rw [z]; exact Nat.le_refl _
    rcases hq with ⟨hq, q⟩ | ⟨hq, q⟩
    · obtain ⟨its, rv, p', hz⟩ := I1.list hq
      refine call_enumerate_list p'.isList fun h' he hit hsz hk => wpAny_pyIter_enum he ?_
      have I2 : Inv X pins σ H1 { s1 with heap := h' } := I1.kept (t' := s1.toks) hk
      exact ⟨s1.heap.objs.size + 1, [s1.heap.objs.size + 1, s1.heap.objs.size], _, _, H1, rfl, I2, turn_enum a (s1.heap.objs.size + 1) s1.heap.objs.size, ⟨⟨.none, he⟩, hit, Nat.succ_ne_self _⟩, fun b hb => I1.fpOk (hfp b hb) (I1.hok.fresh (hfp b hb)), q⟩
    · obtain ⟨its, rv, p', hz⟩ := I1.tuple hq
      have pt : s1.heap.IsTuple a its.toArray := p'
      have hal : a < s1.heap.objs.size := by
        obtain ⟨o, ho, _⟩ := pt
        exact Heap.lt_size ho
      refine MiP.enum_begins1 (begins_tuple a its.toArray) pt fun h' he hit hsz hk => wpAny_pyIter_enum he ?_
      have I2 : Inv X pins σ H1 { s1 with heap := h' } := I1.kept (t' := s1.toks) hk
      exact ⟨s1.heap.objs.size + 1, [s1.heap.objs.size + 1, s1.heap.objs.size], _, _, H1, rfl, I2, turn_enumT a (s1.heap.objs.size + 1) s1.heap.objs.size, ⟨⟨.none, he⟩, ⟨_, hit, rfl, rfl⟩, Nat.succ_ne_self _, Nat.ne_of_lt hal, Nat.ne_of_gt (Nat.lt_succ_of_lt hal)⟩, fun b hb => I1.fpOk (hfp b hb) (I1.hok.fresh (hfp b hb)), q⟩
end Mi
set_option maxHeartbeats 1000000
namespace Mi
open PySem PySem.Spec PyProof.Rows L2

/-! ### patterns -/
mutual
noncomputable def Pt.sl : Pt → List Nat
  | .nm i => [i]
  | .tup ps => ps.sl
noncomputable def Pts.sl : Pts → List Nat
  | .nil => []
  | .cons p r => p.sl ++ r.sl
end
noncomputable def GP (G : Gm) (p : Pt) (g : TG) : Prop := ∀ (w : Wd) (m m' : List Slot) (σ : St) (x : T) (v : V) (Q : St → Hp → Prop), SR G w m σ → RF G w x v → bindP m p x = some m' → (∀ σ', SR G w m' σ' → (∀ j, j ∉ p.sl → σ'[j]? = σ[j]?) → σ'.length = σ.length → Q σ' w.H) → g v σ w.H Q
noncomputable def GPs (G : Gm) (p : Pts) (g : TGs) : Prop := ∀ (w : Wd) (m m' : List Slot) (σ : St) (xs : List T) (vs : List V) (Q : St → Hp → Prop), SR G w m σ → RFs G w xs vs → bindPs m p xs = some m' → (∀ σ', SR G w m' σ' → (∀ j, j ∉ p.sl → σ'[j]? = σ[j]?) → σ'.length = σ.length → Q σ' w.H) → g vs σ w.H Q
section
variable {G : Gm}
theorem gp_name {i : Nat} : GP G (.nm i) (gName i) := fun w m m' σ x v Q S r h k => by
  rw [bindP] at h
  split at h
  · cases h
    refine k _ (S.setFz r) (fun j hj => ?_) (List.length_set ..)
    rw [List.getElem?_set_ne]
    intro e
    subst e
    exact hj (by simp [Pt.sl])
  · cases h
theorem gps_nil : GPs G .nil gNil := fun w m m' σ xs vs Q S r h k => by
  cases r with
  | nil =>
    rw [bindPs] at h
    cases h
    exact ⟨rfl, k σ S (fun _ _ => rfl) rfl⟩
  | cons a b => simp [bindPs] at h
theorem gps_cons {p : Pt} {r : Pts} {g : TG} {u : TGs} (h1 : GP G p g) (h2 : GPs G r u) : GPs G (.cons p r) (gCons g u) := fun w m m' σ xs vs Q S rf h k => by
  cases rf with
  | nil => simp [bindPs] at h
  | @cons x v xs vs a b =>
    rw [bindPs] at h
    cases e : bindP m p x with
    | none => rw [e] at h; cases h
    | some m1 =>
      rw [e] at h
      refine ⟨v, vs, rfl, h1 w m m1 σ x v _ S a e fun σ1 S1 f1 l1 => ?_⟩
      refine h2 w m1 m' σ1 xs vs Q S1 b h fun σ2 S2 f2 l2 => ?_
      refine k σ2 S2 (fun j hj => ?_) (l2.trans l1)
      rw [f2 j (fun z => hj (by simp [Pts.sl, z])), f1 j (fun z => hj (by simp [Pts.sl, z]))]
theorem gp_tup {ps : Pts} {t : TGs} {n : Nat} (hn : ps.len = n) (h : GPs G ps t) : GP G (.tup ps) (gTup G.K n t) := fun w m m' σ x v Q S r hb k => by
  cases x <;> try (simp [bindP] at hb; done)
  case tup xs =>
    obtain ⟨a, vs, rfl, h1, r1⟩ := r.tup_inv
    rw [bindP] at hb
    have sq : SqT G.K w.H a vs := by
      rcases h1 with ⟨_, h1⟩ | h1
      · exact .inl (.inl h1)
      · exact .inr h1
    have len : ∀ (ps : Pts) (xs : List T) (m m' : List Slot), bindPs m ps xs = some m' → xs.length = ps.len := by
      intro ps
      induction ps using Pts.rec (motive_1 := fun _ => True) with
      | nm => trivial
      | tup => trivial
      | nil => intro xs m m' h; cases xs <;> simp [bindPs] at h; rfl
      | cons p r _ ih =>
        intro xs m m' h
        cases xs with
        | nil => simp [bindPs] at h
        | cons x xs =>
          rw [bindPs] at h
          cases e : bindP m p x with
          | none => rw [e] at h; cases h
          | some m1 => rw [e] at h; exact congrArg Nat.succ (ih xs m1 m' h)
    exact ⟨a, vs, rfl, sq, by rw [← r1.length, len _ _ _ _ hb, hn], h w m m' σ xs vs Q S r1 hb fun σ' S' f l => k σ' S' (fun j hj => f j (by simpa [Pt.sl] using hj)) l⟩
end

/-! ### sources -/
/-- the iterator yields the items -/
structure ItOk (G : Gm) (J : It) (xs : List T) (w0 : Wd) : Prop where
  stop : ∀ (w : Wd), Mo w0 w → J.stop xs.length w.H
  go : ∀ (i : Nat) (x : T) (w : Wd), Mo w0 w → xs[i]? = some x → J.go i w.H ∧ ∀ (v : V) (H' : Hp) (m : List Slot) (σ : St), SR G w m σ → J.yld i w.H v H' → ∃ w', w'.H = H' ∧ SR G w' m σ ∧ Ex w w' ∧ RF G w' x v ∧ (∀ p, ¬ w.L p → ¬ w.F p → (∃ u, w.H p = some u) → w'.H p = w.H p ∧ ¬ w'.L p ∧ ¬ w'.F p)
noncomputable def rdS (C : Ct) (f : List Slot → Res (List T)) : TI := fun σ H Rr => ∃ w m, w.H = H ∧ Pre C w m σ ∧ (f m).sat (fun xs m' => ∀ w' J, SR C.G w' m' σ → Ex w w' → ItOk C.G J xs w' → Rr J w'.H) C.EM
theorem PI.imp {X : Cx} {tg e : Expr} {t t' : TI} (h : PI X tg e t) (i : ∀ σ H Q, t' σ H Q → t σ H Q) : PI X tg e t' := ⟨fun pins s σ H Q I q => h.run pins s σ H Q I (i σ H Q q)⟩
theorem PI.or {X : Cx} {tg e : Expr} {t t' : TI} (h : PI X tg e t) (h' : PI X tg e t') : PI X tg e (fun σ H Q => t σ H Q ∨ t' σ H Q) := ⟨fun pins s σ H Q I q => q.elim (h.run pins s σ H Q I) (h'.run pins s σ H Q I)⟩
section
variable {G : Gm} {w : Wd} {m m' : List Slot} {σ : St}
theorem ex_out {w w' : Wd} (x : Ex w w') : ∀ p, ¬ w.L p → ¬ w.F p → (∃ u, w.H p = some u) → w'.H p = w.H p ∧ ¬ w'.L p ∧ ¬ w'.F p := fun p l f ⟨u, h⟩ => by
  obtain ⟨q1, q2, q3⟩ := x.ot p u h f l
  exact ⟨q1.trans h.symm, q3, q2⟩
theorem SR.keep {r : R} {v : V} {t : T} (S : SR G w m σ) (q : RR G w m σ r v) (h : Mi.esc m r.opd = some (t, m')) : ∃ w', w'.H = w.H ∧ SR G w' m' σ ∧ Ex w w' ∧ RF G w' t v := by
  obtain ⟨w1, e1, S1, x1, r1⟩ := S.opd q
  obtain ⟨w2, e2, S2, x2, r2⟩ := S1.esc r1 h
  exact ⟨w2, e2.trans e1, S2, x1.trans x2, r2⟩
theorem it_list {xs : List T} {vs : List V} {a : Addr} (f : w.F a) (h : w.H a = some (.lst vs)) (r : RFs G w xs vs) : ItOk G (Itl G.K a) xs w := by
  have at' : ∀ w', Mo w w' → w'.H a = some (.lst vs) := fun w' mo => (mo.kp a f).eq h (fun k q => by rcases q with q | ⟨o, q⟩ <;> cases q)
  refine ⟨fun w' mo => ⟨vs, .inl (.inl (at' w' mo)), Nat.le_of_eq r.length.symm⟩, fun i x w' mo hx => ?_⟩
  obtain ⟨v, hv, rv⟩ := r.get hx
  have sq : SqL G.K w'.H a vs := .inl (.inl (at' w' mo))
  refine ⟨⟨vs, v, sq, hv⟩, fun v' H' m σ S y => ?_⟩
  obtain ⟨rfl, y⟩ := y
  have := y vs sq
  rw [hv] at this
  cases this
  exact ⟨w', rfl, S, .refl w', RF.mono mo rv, ex_out (.refl w')⟩
theorem RFk.keyAt : ∀ {kvs : List (Key × T)} {ks : List (Key × V)} {i : Nat} {k : Key} {t : T}, RFk G w kvs ks → kvs[i]? = some (k, t) → ∃ v, ks[i]? = some (k, v)
  | _, _, _, _, _, .nil, e => by simp at e
  | _, _, 0, _, _, .cons _ _, e => by simp at e; obtain ⟨rfl, rfl⟩ := e; exact ⟨_, rfl⟩
  | _, _, i + 1, _, _, .cons _ b, e => by
    obtain ⟨v, h⟩ := RFk.keyAt (i := i) b (by simpa using e)
    exact ⟨v, by simpa using h⟩
theorem rf_key (k : Key) : RF G w (unkey k) (kV k) := by
  cases k with
  | inl i => exact .int i
  | inr s => exact .str s
theorem it_keys {kvs : List (Key × T)} {ks : List (Key × V)} {a : Addr} {o : Obj} (f : w.F a) (h : w.H a = some (.frz o (.dK ks))) (r : RFk G w kvs ks) : ItOk G (Itk a o ks) (kvs.map fun kv => unkey kv.1) w := by
  refine ⟨fun w' mo => ⟨(mo.kp a f).locked h, by rw [List.length_map, r.length]; exact Nat.le_refl _⟩, fun i x w' mo hx => ?_⟩
  rw [List.getElem?_map] at hx
  cases e : kvs[i]? with
  | none => rw [e] at hx; cases hx
  | some kt =>
    obtain ⟨k, t⟩ := kt
    rw [e] at hx
    cases hx
    obtain ⟨v, hv⟩ := r.keyAt e
    refine ⟨⟨(mo.kp a f).locked h, (List.getElem?_eq_some_iff.mp hv).1⟩, fun v' H' m σ S y => ?_⟩
    obtain ⟨rfl, k', v2, h2, rfl⟩ := y
    rw [hv] at h2
    cases h2
    exact ⟨w', rfl, S, .refl w', rf_key k, ex_out (.refl w')⟩
/-- a frozen dict is locked -/
noncomputable def Wd.lock (w : Wd) (a : Addr) (o : Obj) (ks : List (Key × V)) : Wd := ⟨w.F, w.L, upd w.H a (.frz o (.dK ks))⟩
theorem SR.lock {a : Addr} {o : Obj} {ks : List (Key × V)} (S : SR G w m σ) (f : w.F a) (h : w.H a = some (.dK ks)) : SR G (w.lock a o ks) m σ ∧ Ex w (w.lock a o ks) := by
  have mo : Mo w (w.lock a o ks) := ⟨fun _ h => h, fun b _ => by
    by_cases e : b = a
    · subst e; exact .inr ⟨ks, o, h, upd_same⟩
    · exact .inl (upd_ne e).symm⟩
  refine ⟨S.grow mo (fun b l => ⟨l, fun _ => upd_ne (show b ≠ a from fun e => S.sep b l (by rw [e]; exact f))⟩) S.sep fun b fb => ?_, mo.fz, mo.kp, fun b u h1 h2 h3 => ⟨?_, h2, h3⟩⟩
  · obtain ⟨u, hu⟩ := S.trk b fb
    by_cases e : b = a
    · subst e; exact ⟨_, upd_same⟩
    · exact ⟨u, (upd_ne e).trans hu⟩
  · exact (upd_ne (show b ≠ a from fun e => h2 (by rw [e]; exact f))).trans h1
theorem it_scr {ns : List Int} {a : Addr} (h : (w.F a ∧ ∃ o, w.H a = some (.frz o (.lst (ns.map V.int)))) ∨ KL G.K a (ns.map V.int)) : ItOk G (Itl G.K a) (ns.map T.int) w := by
  have at' : ∀ w', Mo w w' → SqL G.K w'.H a (ns.map V.int) := fun w' mo => by
    rcases h with ⟨f, o, h⟩ | h
    · exact .inl (.inr ⟨o, (mo.kp a f).eq h (fun k q => by rcases q with q | ⟨o, q⟩ <;> cases q)⟩)
    · exact .inr h
  refine ⟨fun w' mo => ⟨_, at' w' mo, by rw [List.length_map, List.length_map]; exact Nat.le_refl _⟩, fun i x w' mo hx => ?_⟩
  rw [List.getElem?_map] at hx
  cases hn : ns[i]? with
  | none => rw [hn] at hx; cases hx
  | some n =>
    rw [hn] at hx
    cases hx
    have hv : (ns.map V.int)[i]? = some (.int n) := by rw [List.getElem?_map, hn]; rfl
    refine ⟨⟨_, _, at' w' mo, hv⟩, fun v' H' m σ S y => ?_⟩
    obtain ⟨rfl, y⟩ := y
    have := y _ (at' w' mo)
    rw [hv] at this
    cases this
    exact ⟨w', rfl, S, .refl w', .int n, ex_out (.refl w')⟩
theorem it_tup {xs : List T} {vs : List V} {a : Addr} (h : (w.F a ∧ w.H a = some (.tup vs)) ∨ KT G.K a vs) (r : RFs G w xs vs) : ItOk G (Itt G.K a) xs w := by
  have at' : ∀ w', Mo w w' → SqT G.K w'.H a vs := fun w' mo => by
    rcases h with ⟨f, h⟩ | h
    · exact .inl (.inl ((mo.kp a f).eq h (fun k q => by rcases q with q | ⟨o, q⟩ <;> cases q)))
    · exact .inr h
  refine ⟨fun w' mo => ⟨vs, at' w' mo, Nat.le_of_eq r.length.symm⟩, fun i x w' mo hx => ?_⟩
  obtain ⟨v, hv, rv⟩ := r.get hx
  refine ⟨⟨vs, v, at' w' mo, hv⟩, fun v' H' m σ S y => ?_⟩
  obtain ⟨rfl, y⟩ := y
  have := y vs (at' w' mo)
  rw [hv] at this
  cases this
  exact ⟨w', rfl, S, .refl w', RF.mono mo rv, ex_out (.refl w')⟩
theorem it_str {z : Str} : ItOk G (Its z) (z.cps.toList.map fun c => T.str ⟨#[c]⟩) w := by
  refine ⟨fun w' _ => by show z.cps.size ≤ _; simp, fun i x w' mo hx => ?_⟩
  rw [List.getElem?_map] at hx
  cases hc : z.cps.toList[i]? with
  | none => rw [hc] at hx; cases hx
  | some c =>
    rw [hc] at hx
    cases hx
    have hc' : z.cps[i]? = some c := by rw [← Array.getElem?_toList]; exact hc
    refine ⟨(Array.getElem?_eq_some_iff.mp hc').1, fun v' H' m σ S y => ?_⟩
    obtain ⟨rfl, c', h1, rfl⟩ := y
    rw [hc'] at h1
    cases h1
    exact ⟨w', rfl, S, .refl w', .str _, ex_out (.refl w')⟩
theorem it_range {lo hi : Int} : ItOk G (Itr lo (hi - lo).toNat) (rangeT lo hi) w := by
  have len : (rangeT lo hi).length = (hi - lo).toNat := by simp [rangeT]
  refine ⟨fun w' _ => by show (hi - lo).toNat ≤ _; rw [len]; exact Nat.le_refl _, fun i x w' mo hx => ?_⟩
  have lt : i < (hi - lo).toNat := by rw [← len]; exact (List.getElem?_eq_some_iff.mp hx).1
  have ex : x = .int (lo + (i : Int)) := by
    rw [rangeT, List.getElem?_map, List.getElem?_range lt] at hx
    cases hx
    rfl
  subst ex
  refine ⟨lt, fun v' H' m σ S y => ?_⟩
  obtain ⟨rfl, rfl⟩ := y
  exact ⟨w', rfl, S, .refl w', .int _, ex_out (.refl w')⟩
/-- a tuple made by an iterator -/
theorem yld_tup {w : Wd} {p : Addr} {ts : List T} {vs : List V} (S : SR G w m σ) (hp : w.H p = none) (r : RFs G w ts vs) :
    ∃ w', w'.H = upd w.H p (.tup vs) ∧ SR G w' m σ ∧ Ex w w' ∧ RF G w' (.tup ts) (.ref p) := by
  have S1 := S.new (u := .tup vs) hp
  have hH : (w.new p (.tup vs)).H p = some (.tup vs) := upd_same
  refine ⟨(w.new p (.tup vs)).fr p, rfl, S1.fr (.inr rfl) ⟨_, hH⟩ fun i o h e => ?_, (Ex.new S.trk hp).trans (.fr (.inr rfl)), .tup (.inl ⟨.inr rfl, hH⟩) (RFs.mono .fr (r.new S hp))⟩
  obtain ⟨a, e1, r1', _⟩ := S.sl i _ h
  rw [e] at e1
  cases e1
  obtain ⟨u', hu⟩ := r1'.trk
  rw [hp] at hu
  cases hu
theorem enum_len : ∀ (k : Nat) (xs : List T), (enumT k xs).length = xs.length
  | _, [] => rfl
  | k, x :: r => congrArg Nat.succ (enum_len (k + 1) r)
theorem enum_get : ∀ (k : Nat) (xs : List T) (i : Nat), (enumT k xs)[i]? = xs[i]?.map fun x => .tup [.int ((k + i : Nat) : Int), x]
  | _, [], i => by simp [enumT]
  | k, x :: r, 0 => by simp [enumT]
  | k, x :: r, i + 1 => by
    have := enum_get (k + 1) r i
    simp only [enumT, List.getElem?_cons_succ, this]
    rw [show k + 1 + i = k + (i + 1) by omega]
theorem it_enum {xs : List T} {vs : List V} {a : Addr} (f : w.F a) (h : w.H a = some (.lst vs)) (r : RFs G w xs vs) : ItOk G (Ite G.K a) (enumT 0 xs) w := by
  have at' : ∀ w', Mo w w' → w'.H a = some (.lst vs) := fun w' mo => (mo.kp a f).eq h (fun k q => by rcases q with q | ⟨o, q⟩ <;> cases q)
  refine ⟨fun w' mo => ⟨vs, .inl (.inl (at' w' mo)), by rw [enum_len]; exact Nat.le_of_eq r.length.symm⟩, fun i x w' mo hx => ?_⟩
  rw [enum_get] at hx
  cases hn : xs[i]? with
  | none => rw [hn] at hx; cases hx
  | some t =>
    rw [hn] at hx
    cases hx
    obtain ⟨v, hv, rv⟩ := r.get hn
    have sq : SqL G.K w'.H a vs := .inl (.inl (at' w' mo))
    refine ⟨⟨vs, v, sq, hv⟩, fun v' H' m σ S y => ?_⟩
    obtain ⟨p, x', rfl, hp, rfl, y⟩ := y
    have := y vs sq
    rw [hv] at this
    cases this
    obtain ⟨w2, e2, S2, x2, r2⟩ := yld_tup (ts := [.int ((0 + i : Nat) : Int), t]) (vs := [.int (i : Nat), v]) S hp (.cons (by rw [Nat.zero_add]; exact .int _) (.cons (RF.mono mo rv) .nil))
    exact ⟨w2, e2, S2, x2, r2, ex_out x2⟩
theorem zip_get : ∀ (xs ys : List T) (i : Nat), (zipT xs ys)[i]? = match xs[i]?, ys[i]? with
    | some x, some y => some (.tup [x, y])
    | _, _ => none
  | [], ys, i => by simp [zipT]
  | x :: xs, [], i => by
    cases h : (x :: xs)[i]? <;> simp [zipT]
  | x :: xs, y :: ys, 0 => by simp [zipT]
  | x :: xs, y :: ys, i + 1 => by
    have := zip_get xs ys i
    simpa [zipT] using this
theorem zip_len : ∀ (xs ys : List T), (zipT xs ys).length = min xs.length ys.length
  | [], ys => by simp [zipT]
  | x :: xs, [] => by simp [zipT]
  | x :: xs, y :: ys => by
    have := zip_len xs ys
    simp [zipT, this]
    try omega
theorem it_zip {xs ys : List T} {vs us : List V} {a b : Addr} (f : w.F a) (h : w.H a = some (.lst vs)) (r : RFs G w xs vs) (f' : w.F b) (h' : w.H b = some (.lst us)) (r' : RFs G w ys us) : ItOk G (Itz G.K a b) (zipT xs ys) w := by
  have at1 : ∀ w', Mo w w' → w'.H a = some (.lst vs) := fun w' mo => (mo.kp a f).eq h (fun k q => by rcases q with q | ⟨o, q⟩ <;> cases q)
  have at2 : ∀ w', Mo w w' → w'.H b = some (.lst us) := fun w' mo => (mo.kp b f').eq h' (fun k q => by rcases q with q | ⟨o, q⟩ <;> cases q)
  refine ⟨fun w' mo => ⟨vs, us, .inl (.inl (at1 w' mo)), .inl (.inl (at2 w' mo)), ?_⟩, fun i x w' mo hx => ?_⟩
  · rw [zip_len, ← r.length, ← r'.length]
    omega
  · rw [zip_get] at hx
    cases hn : xs[i]? with
    | none => rw [hn] at hx; cases hx
    | some t =>
      cases hk : ys[i]? with
      | none => rw [hn, hk] at hx; cases hx
      | some u =>
        rw [hn, hk] at hx
        cases hx
        obtain ⟨v, hv, rv⟩ := r.get hn
        obtain ⟨v2, hv2, rv2⟩ := r'.get hk
        have sq : SqL G.K w'.H a vs := .inl (.inl (at1 w' mo))
        have sq2 : SqL G.K w'.H b us := .inl (.inl (at2 w' mo))
        refine ⟨⟨vs, us, v, v2, sq, sq2, hv, hv2⟩, fun v' H' m σ S y => ?_⟩
        obtain ⟨p, x', y', rfl, hp, rfl, y1, y2⟩ := y
        have z1 := y1 vs sq
        have z2 := y2 us sq2
        rw [hv] at z1
        rw [hv2] at z2
        cases z1
        cases z2
        obtain ⟨w2, e2, S2, x2, r2⟩ := yld_tup (ts := [t, u]) (vs := [v, v2]) S hp (.cons (RF.mono mo rv) (.cons (RF.mono mo rv2) .nil))
        exact ⟨w2, e2, S2, x2, r2, ex_out x2⟩
end
section
variable {C : Ct} {X : Cx} {cal : Nat → List Slot → CRes}
noncomputable def iKeysL (td : TE) : TI := fun σ H R => td σ H fun x H1 => ∃ d kvs, x = .ref d ∧ ((∃ o, H1 d = some (.frz o (.dK kvs)) ∧ R (Itk d o kvs) H1) ∨ (H1 d = some (.dK kvs) ∧ ∀ o, R (Itk d o kvs) (upd H1 d (.frz o (.dK kvs)))))
theorem pi_keysL {tg e : Expr} {td : TE} (he : PE X e td) : PI X tg e (iKeysL td) := by
  refine ⟨fun pins s σ H R I h => ?_⟩
  refine thn (he.run pins s σ H _ I h) fun u s1 ⟨x, H1, I1, rx, d, kvs, ex, q⟩ => ?_
  subst ex
  obtain rfl : u = Value.ref d := rx
  rcases q with ⟨o, hd, q⟩ | ⟨hd, q⟩
  · obtain ⟨hs, hgd, hx, es, ep, vs, hdt, hsz, kv, hm⟩ := I1.frzK hd
    refine iter_keys hs hgd hx hdt (pi_one (tk := s1.toks) I1 _ (turn_keys _ hdt) ⟨_, Heap.get?_push_size _ rfl, rfl, ?_⟩ q)
    rw [hsz] <;> rfl
  · obtain ⟨o, I2⟩ := I1.lock hd trivial
    obtain ⟨hs, hgd, hx, es, ep, vs, hdt, hsz, kv, hm⟩ := I2.frzK upd_same
    refine iter_keys hs hgd hx hdt (pi_one (tk := s1.toks) I2 _ (turn_keys _ hdt) ⟨_, Heap.get?_push_size _ rfl, rfl, ?_⟩ (q o))
    rw [hsz] <;> rfl
noncomputable def iAnyM (K : PySem.W.Frag) (te : TE) : TI := fun σ H R => ((iList K te σ H R ∨ iTup K te σ H R) ∨ iStr te σ H R) ∨ iKeysL te σ H R
theorem s_it {tg e : Expr} {a : E} (hp : ∀ t, PE X e t → PI X tg e (iAnyM C.G.K t)) (h : PE X e (rdE C (evE cal a))) : PI X tg e (rdS C (evSrc cal (.it a))) := PI.imp (hp _ h) fun σ H Q ⟨w, m, e, P, q⟩ => by
  rw [evSrc, Res.sat_bind] at q
  cases h0 : evE cal a m with
  | no => rw [h0] at q; exact q.elim
  | ex x m1 =>
    rw [h0] at q
    exact .inl (.inl (.inl ⟨w, m, e, P, by rw [h0]; exact q⟩))
  | ok r m1 =>
    rw [h0] at q
    have q : Res.sat (match esc m1 r.opd with
      | some (t, m2) => (match itemsT t with
        | some xs => Res.ok xs m2
        | none => .no)
      | none => .no) (fun xs m' => ∀ w' J, SR C.G w' m' σ → Ex w w' → ItOk C.G J xs w' → Q J w'.H) C.EM := q
    cases h1 : esc m1 r.opd with
    | none => rw [h1] at q; exact q.elim
    | some p =>
      obtain ⟨t, m2⟩ := p
      rw [h1] at q
      simp only at q
      cases h2 : itemsT t with
      | none => rw [h2] at q; exact q.elim
      | some xs =>
        rw [h2] at q
        have q : ∀ w' J, SR C.G w' m2 σ → Ex w w' → ItOk C.G J xs w' → Q J w'.H := q
        cases t <;> try (cases h2; done)
        case lst ys =>
          cases h2
          refine .inl (.inl (.inl ⟨w, m, e, P, ?_⟩))
          rw [h0]
          intro w1 v S1 x1 r1
          obtain ⟨w2, e2, S2, x2, r2⟩ := S1.keep r1 h1
          obtain ⟨a, vs, rfl, f, h3, r3⟩ := r2.lst_inv
          refine ⟨a, rfl, ⟨vs, .inl (.inl (by rw [← e2]; exact h3))⟩, ?_⟩
          rw [← e2]
          exact q w2 _ S2 (x1.trans x2) (it_list f h3 r3)
        case tup ys =>
          cases h2
          refine .inl (.inl (.inr ⟨w, m, e, P, ?_⟩))
          rw [h0]
          intro w1 v S1 x1 r1
          obtain ⟨w2, e2, S2, x2, r2⟩ := S1.keep r1 h1
          obtain ⟨a, vs, rfl, h3, r3⟩ := r2.tup_inv
          refine ⟨a, rfl, ⟨vs, ?_⟩, ?_⟩
          · rcases h3 with ⟨_, h3⟩ | h3
            · exact .inl (.inl (by rw [← e2]; exact h3))
            · exact .inr h3
          · rw [← e2]
            exact q w2 _ S2 (x1.trans x2) (it_tup h3 r3)
        case scr ns =>
          cases h2
          refine .inl (.inl (.inl ⟨w, m, e, P, ?_⟩))
          rw [h0]
          intro w1 v S1 x1 r1
          obtain ⟨w2, e2, S2, x2, r2⟩ := S1.keep r1 h1
          obtain ⟨a, rfl, h3⟩ := r2.scr_inv
          refine ⟨a, rfl, ⟨ns.map V.int, ?_⟩, ?_⟩
          · rcases h3 with ⟨_, o, h3⟩ | h3
            · exact .inl (.inr ⟨o, by rw [← e2]; exact h3⟩)
            · exact .inr h3
          · rw [← e2]
            exact q w2 _ S2 (x1.trans x2) (it_scr h3)
        case dic kvs =>
          cases h2
          refine .inr ⟨w, m, e, P, ?_⟩
          rw [h0]
          intro w1 v S1 x1 r1
          obtain ⟨w2, e2, S2, x2, r2⟩ := S1.keep r1 h1
          obtain ⟨a, ks, rfl, f, h3, r3⟩ := r2.dic_inv
          refine ⟨a, ks, rfl, ?_⟩
          rw [← e2]
          rcases h3 with h3 | ⟨o, h3⟩
          · refine .inr ⟨h3, fun o => ?_⟩
            obtain ⟨S3, x3⟩ := S2.lock (o := o) f h3
            exact q (w2.lock a o ks) _ S3 (x1.trans (x2.trans x3)) (it_keys (w := w2.lock a o ks) f upd_same (RFk.mono x3.mo r3))
          · exact .inl ⟨o, h3, q w2 _ S2 (x1.trans x2) (it_keys f h3 r3)⟩
        case str z =>
          simp only [itemsT] at h2
          split at h2
          · rename_i hl
            cases h2
            refine .inl (.inr ⟨w, m, e, P, ?_⟩)
            rw [h0]
            intro w1 v S1 x1 r1
            obtain ⟨w2, e2, S2, x2, r2⟩ := S1.keep r1 h1
            have rz : v = .str z := by cases r2; rfl
            subst rz
            refine ⟨z, rfl, ?_⟩
            rw [← e2]
            exact q w2 _ S2 (x1.trans x2) it_str
          · cases h2
theorem s_rng1 {tg e ea : Expr} {a : E} (hp : ∀ t, PE X ea t → PI X tg e (iRng1 (tCons t tNil))) (h : PE X ea (rdE C (evE cal a))) : PI X tg e (rdS C (evSrc cal (.rng1 a))) := PI.imp (hp _ (pe_opd h)) fun σ H Q ⟨w, m, e, P, q⟩ => by
  rw [evSrc, Res.sat_bind] at q
  refine ⟨w, m, e, P, ?_⟩
  rw [opdF, Res.sat_bind]
  refine Res.sat_mono q fun r m1 q1 w1 v S1 x1 r1 => ?_
  split at q1
  · rename_i j hj
    split at q1
    · rename_i hw
      have e1 : v = .int j := (S1.der r1 hj).int
      subst e1
      have hw' := of_decide_eq_true (show decide (-(2 ^ 62) ≤ j ∧ j < 2 ^ 62) = true from hw)
      refine ⟨j, rfl, hw'.1, hw'.2, ?_⟩
      have it := it_range (G := C.G) (w := w1) (lo := 0) (hi := j)
      rw [Int.sub_zero] at it
      exact q1 w1 _ S1 x1 it
    · exact q1.elim
  · exact q1.elim
theorem s_rng2 {tg e ea eb : Expr} {a b : E} (hp : ∀ t u, PE X ea t → PE X eb u → PI X tg e (iRng2 (tCons t (tCons u tNil)))) (h : PE X ea (rdE C (evE cal a))) (h' : PE X eb (rdE C (evE cal b))) : PI X tg e (rdS C (evSrc cal (.rng2 a b))) :=
  PI.imp (hp _ _ (pe_opd h) (pe_opd h')) fun σ H Q ⟨w, m, e, P, q⟩ => by
  rw [evSrc, Res.sat_bind] at q
  refine ⟨w, m, e, P, ?_⟩
  rw [opdF, Res.sat_bind]
  refine Res.sat_mono q fun ra m1 q1 w1 v S1 x1 r1 => ?_
  rw [Res.sat_bind] at q1
  refine ⟨w1, m1, rfl, P.step S1 x1, ?_⟩
  rw [opdF, Res.sat_bind]
  refine Res.sat_mono q1 fun rb m2 q2 w2 u S2 x2 r2 => ?_
  split at q2
  · rename_i i j hi hj
    split at q2
    · rename_i hw
      have e1 : v = .int i := (S2.der (r1.mono x2.mo) hi).int
      have e2 : u = .int j := (S2.der r2 hj).int
      subst e1; subst e2
      have h1 := of_decide_eq_true (show decide (-(2 ^ 62) ≤ i ∧ i < 2 ^ 62) = true from hw.1)
      have h2 := of_decide_eq_true (show decide (-(2 ^ 62) ≤ j ∧ j < 2 ^ 62) = true from hw.2)
      exact ⟨i, j, rfl, ⟨h1.1, h1.2, h2.1, h2.2⟩, q2 w2 _ S2 (x1.trans x2) it_range⟩
    · exact q2.elim
  · exact q2.elim
theorem it_enumT {G : Gm} {w : Wd} {xs : List T} {vs : List V} {a : Addr} (h : (w.F a ∧ w.H a = some (.tup vs)) ∨ KT G.K a vs) (r : RFs G w xs vs) : ItOk G (IteT G.K a) (enumT 0 xs) w := by
  have h : ∀ w', Mo w w' → SqT G.K w'.H a vs := fun w' mo => by
    rcases h with ⟨f, h⟩ | h
    · exact .inl (.inl ((mo.kp a f).eq h (fun k q => by rcases q with q | ⟨o, q⟩ <;> cases q)))
    · exact .inr h
  refine ⟨fun w' mo => ⟨vs, h w' mo, by rw [enum_len]; exact Nat.le_of_eq r.length.symm⟩, fun i x w' mo hx => ?_⟩
  rw [enum_get] at hx
  cases hn : xs[i]? with
  | none => rw [hn] at hx; cases hx
  | some t =>
    rw [hn] at hx
    cases hx
    obtain ⟨v, hv, rv⟩ := r.get hn
    refine ⟨⟨vs, v, h w' mo, hv⟩, fun v' H' m σ S y => ?_⟩
    obtain ⟨p, x', rfl, hp, rfl, y⟩ := y
    have := y vs (h w' mo)
    rw [hv] at this
    cases this
    obtain ⟨w2, e2, S2, x2, r2⟩ := yld_tup (ts := [.int ((0 + i : Nat) : Int), t]) (vs := [.int (i : Nat), v]) S hp (.cons (by rw [Nat.zero_add]; exact .int _) (.cons (RF.mono mo rv) .nil))
    exact ⟨w2, e2, S2, x2, r2, ex_out x2⟩
theorem s_enum {tg e ea : Expr} {a : E} (hp : ∀ t, PE X ea t → PI X tg e (iEnumT C.G.K (tCons t tNil))) (h : PE X ea (rdE C (evE cal a))) : PI X tg e (rdS C (evSrc cal (.enum a))) := PI.imp (hp _ h) fun σ H Q ⟨w, m, e, P, q⟩ => by
  rw [evSrc, Res.sat_bind] at q
  refine ⟨w, m, e, P, Res.sat_mono q fun r m1 q1 w1 v S1 x1 r1 => ?_⟩
  cases h1 : esc m1 r.opd with
  | none => rw [h1] at q1; exact q1.elim
  | some p =>
    obtain ⟨t, m2⟩ := p
    rw [h1] at q1
    simp only at q1
    cases t <;> try (exact q1.elim)
    case lst ys =>
      have q1 : ∀ w' J, SR C.G w' m2 σ → Ex w w' → ItOk C.G J (enumT 0 ys) w' → Q J w'.H := q1
      obtain ⟨w2, e2, S2, x2, r2⟩ := S1.keep r1 h1
      obtain ⟨a, vs, rfl, f, h3, r3⟩ := r2.lst_inv
      refine ⟨a, vs, rfl, .inl ⟨.inl (.inl (by rw [← e2]; exact h3)), ?_⟩⟩
      rw [← e2]
      exact q1 w2 _ S2 (x1.trans x2) (it_enum f h3 r3)
    case tup ys =>
      have q1 : ∀ w' J, SR C.G w' m2 σ → Ex w w' → ItOk C.G J (enumT 0 ys) w' → Q J w'.H := q1
      obtain ⟨w2, e2, S2, x2, r2⟩ := S1.keep r1 h1
      obtain ⟨a, vs, rfl, h3, r3⟩ := r2.tup_inv
      refine ⟨a, vs, rfl, .inr ⟨?_, ?_⟩⟩
      · rw [← e2]
        rcases h3 with ⟨f, h⟩ | h
        · exact .inl (.inl h)
        · exact .inr h
      · rw [← e2]
        exact q1 w2 _ S2 (x1.trans x2) (it_enumT h3 r3)
theorem s_zip {tg e ea eb : Expr} {a b : E} (hp : ∀ t u, PE X ea t → PE X eb u → PI X tg e (iZip C.G.K (tCons t (tCons u tNil)))) (h : PE X ea (rdE C (evE cal a))) (h' : PE X eb (rdE C (evE cal b))) : PI X tg e (rdS C (evSrc cal (.zip a b))) :=
  PI.imp (hp _ _ (pe_opd h) (pe_opd h')) fun σ H Q ⟨w, m, e, P, q⟩ => by
  rw [evSrc, Res.sat_bind] at q
  refine ⟨w, m, e, P, ?_⟩
  rw [opdF, Res.sat_bind]
  refine Res.sat_mono q fun ra m1 q1 w1 v S1 x1 r1 => ?_
  rw [Res.sat_bind] at q1
  refine ⟨w1, m1, rfl, P.step S1 x1, ?_⟩
  rw [opdF, Res.sat_bind]
  refine Res.sat_mono q1 fun rb m2 q2 w2 u S2 x2 r2 => ?_
  cases h1 : escs m2 [ra.opd, rb.opd] with
  | none => rw [h1] at q2; exact q2.elim
  | some p =>
    obtain ⟨ts, m3⟩ := p
    rw [h1] at q2
    obtain ⟨w3, e3, S3, x3, r3⟩ := SR.escs S2 (.cons (r1.mono x2.mo) (.cons r2 .nil)) h1
    cases r3 with
    | @cons t _ ts1 _ a1 b1 =>
      cases b1 with
      | @cons t' _ ts2 _ a2 b2 =>
        cases b2
        simp only at q2
        cases t <;> try (exact q2.elim)
        case lst xs =>
          cases t' <;> try (exact q2.elim)
          case lst ys =>
            have q2 : ∀ w' J, SR C.G w' m3 σ → Ex w w' → ItOk C.G J (zipT xs ys) w' → Q J w'.H := q2
            obtain ⟨a, vs, rfl, f, h3, r3⟩ := a1.lst_inv
            obtain ⟨b, us, rfl, f', h4, r4⟩ := a2.lst_inv
            refine ⟨a, b, vs, us, rfl, .inl (.inl (by rw [← e3]; exact h3)), .inl (.inl (by rw [← e3]; exact h4)), ?_⟩
            rw [← e3]
            exact q2 w3 _ S3 (x1.trans (x2.trans x3)) (it_zip f h3 r3 f' h4 r4)
end
end Mi
set_option maxHeartbeats 1000000
namespace Mi
open PySem PySem.Spec PyProof.Rows L2

theorem wipe_in {σ : St} : ∀ {vs : List Nat} {j : Nat}, j ∈ vs → (wipe σ vs)[j]? = if j < σ.length then some none else none
  | [], j, h => by cases h
  | v :: vs, j, h => by
    unfold wipe
    by_cases e : v = j
    · subst e
      split
      · rename_i lt
        rw [List.getElem?_set_self (by rw [wipe_length]; exact lt)]
      · rename_i lt
        rw [List.getElem?_eq_none (by rw [List.length_set, wipe_length]; omega)]
    · rw [List.getElem?_set_ne e]
      exact wipe_in ((List.mem_cons.mp h).resolve_left fun z => e z.symm)
theorem wipe_eq {σ τ : St} {vs : List Nat} (l : τ.length = σ.length) (h : ∀ j, j ∉ vs → τ[j]? = σ[j]?) : wipe τ vs = wipe σ vs := by
  apply List.ext_getElem?
  intro j
  by_cases e : j ∈ vs
  · rw [wipe_in e, wipe_in e, l]
  · rw [wipe_out e, wipe_out e, h j e]
section
variable {G : Gm} {w w' w1 : Wd} {m m1 m2 : List Slot} {σ τ : St} {D : Addr} {u : HO}
theorem SR.setNone {i : Nat} (S : SR G w m σ) : SR G w (m.set i .no) (σ.set i none) := by
  have sub : ∀ {k : Nat} {o1 : O}, (m.set i Slot.no)[k]? = some (.ow o1) → k ≠ i ∧ m[k]? = some (.ow o1) := fun {k o1} hk => by
    by_cases hj : k = i
    · subst hj
      by_cases lt : k < m.length
      · rw [List.getElem?_set_self lt] at hk; cases hk
      · rw [List.getElem?_eq_none (by rw [List.length_set]; omega)] at hk; cases hk
    · exact ⟨hj, by rwa [List.getElem?_set_ne (Ne.symm hj)] at hk⟩
  refine ⟨by rw [List.length_set, List.length_set]; exact S.len, fun j s h => ?_, fun j k o1 o2 b h1 h2 e1 e2 => ?_, S.sep, S.trk⟩
  · by_cases hj : j = i
    · subst hj
      have lt : j < m.length := by have := (List.getElem?_eq_some_iff.mp h).1; rwa [List.length_set] at this
      rw [List.getElem?_set_self lt] at h
      cases h
      trivial
    · rw [List.getElem?_set_ne (Ne.symm hj)] at h
      rw [List.getElem?_set_ne (Ne.symm hj)]
      exact S.sl j s h
  · obtain ⟨n1, q1⟩ := sub h1
    obtain ⟨n2, q2⟩ := sub h2
    rw [List.getElem?_set_ne (Ne.symm n1)] at e1
    rw [List.getElem?_set_ne (Ne.symm n2)] at e2
    exact S.inj j k o1 o2 b q1 q2 e1 e2
theorem SR.wipe (S : SR G w m σ) : ∀ vs : List Nat, SR G w (wipeM m vs) (L2.wipe σ vs)
  | [] => S
  | v :: vs => (SR.wipe S vs).setNone
theorem SR.wipeM (S : SR G w m σ) : ∀ vs : List Nat, SR G w (Mi.wipeM m vs) σ
  | [] => S
  | v :: vs => (SR.wipeM S vs).setNo
theorem restM_length {m0 m : List Slot} : ∀ vs : List Nat, (restM m0 m vs).length = m.length
  | [] => rfl
  | v :: vs => by unfold restM; rw [List.length_set, restM_length vs]
theorem restM_in {m0 m : List Slot} : ∀ {vs : List Nat} {j : Nat}, j ∈ vs → (restM m0 m vs)[j]? = if j < m.length then some (m0[j]?.getD .no) else none
  | [], j, h => by cases h
  | v :: vs, j, h => by
    unfold restM
    by_cases e : v = j
    · subst e
      split
      · rename_i lt
        rw [List.getElem?_set_self (by rw [restM_length]; exact lt)]
      · rename_i lt
        rw [List.getElem?_eq_none (by rw [List.length_set, restM_length]; omega)]
    · rw [List.getElem?_set_ne e]
      exact restM_in ((List.mem_cons.mp h).resolve_left fun z => e z.symm)
theorem restM_out {m0 m : List Slot} : ∀ {vs : List Nat} {j : Nat}, j ∉ vs → (restM m0 m vs)[j]? = m[j]?
  | [], j, h => rfl
  | v :: vs, j, h => by
    simp only [List.mem_cons, not_or] at h
    unfold restM
    rw [List.getElem?_set_ne (fun z => h.1 z.symm)]
    exact restM_out h.2
theorem SR.rest {vs : List Nat} (S1 : SR G w1 m1 σ) (mo : Mo w1 w) (S : SR G w m τ) (l : τ.length = σ.length) (hτ : ∀ j, j ∉ vs → τ[j]? = σ[j]?) (no : noOw m1 vs = true) : SR G w (restM m1 m vs) σ := by
  have no' : ∀ j ∈ vs, ∀ o, m1[j]?.getD .no ≠ .ow o := fun j hj o e => by
    have := List.all_eq_true.mp no j hj
    cases h : m1[j]? with
    | none => rw [h] at e; cases e
    | some s =>
      rw [h] at e this
      have e : s = .ow o := e
      subst e
      cases this
  have sub : ∀ {k : Nat} {o1 : O}, (restM m1 m vs)[k]? = some (.ow o1) → k ∉ vs ∧ m[k]? = some (.ow o1) := fun {k o1} hk => by
    by_cases hj : k ∈ vs
    · rw [restM_in hj] at hk
      split at hk
      · exact absurd (Option.some.inj hk) (no' k hj o1)
      · cases hk
    · exact ⟨hj, by rwa [restM_out hj] at hk⟩
  refine ⟨by rw [restM_length, S.len, l], fun j s h => ?_, fun j k o1 o2 b h1 h2 e1 e2 => ?_, S.sep, S.trk⟩
  · by_cases hj : j ∈ vs
    · rw [restM_in hj] at h
      split at h
      · rename_i lt
        have lt1 : j < m1.length := by rw [S1.len, ← l, ← S.len]; exact lt
        have e1 : m1[j]? = some m1[j] := List.getElem?_eq_getElem lt1
        rw [e1] at h
        have h : m1[j] = s := Option.some.inj h
        rw [h] at e1
        have q := S1.sl j s e1
        cases s with
        | no => trivial
        | fz t => obtain ⟨x, a, b⟩ := q; exact ⟨x, a, RF.mono mo b⟩
        | ow o => exact absurd (by rw [e1]; rfl) (no' j hj o)
      · cases h
    · rw [restM_out hj] at h
      have q := S.sl j s h
      rwa [hτ j hj] at q
  · obtain ⟨n1, q1⟩ := sub h1
    obtain ⟨n2, q2⟩ := sub h2
    exact S.inj j k o1 o2 b q1 q2 (by rw [hτ j n1]; exact e1) (by rw [hτ k n2]; exact e2)
theorem Mo.poke (nf : ¬ w.F D) : Mo w (w.wr D u) := ⟨fun _ h => h, fun a f => .inl (upd_ne (show a ≠ D from fun z => nf (z ▸ f))).symm⟩
theorem SR.poke (S : SR G w m σ) (nf : ¬ w.F D) (nl : ¬ w.L D) : SR G (w.wr D u) m σ :=
  S.grow (Mo.poke nf) (fun a l => ⟨l, fun _ => upd_ne (show a ≠ D from fun z => nl (z ▸ l))⟩) S.sep fun a f => by
    obtain ⟨v, h⟩ := S.trk a f
    exact ⟨v, (upd_ne (show a ≠ D from fun z => nf (z ▸ f))).trans h⟩
theorem Ex.poke (x : Ex w1 w) (h : w1.H D = none) (nf : ¬ w.F D) : Ex w1 (w.wr D u) :=
  ⟨x.fz, fun a f => (x.kp a f).trans (.inl (upd_ne (show a ≠ D from fun z => nf (z ▸ x.fz a f))).symm), fun a v h1 h2 h3 => by
    obtain ⟨q1, q2, q3⟩ := x.ot a v h1 h2 h3
    exact ⟨(upd_ne (ne_of_none h1 h)).trans q1, q2, q3⟩⟩
/-- a new object is taken in -/
noncomputable def Wd.ad (w : Wd) (D : Addr) : Wd := ⟨w.F, fun a => w.L a ∨ a = D, w.H⟩
theorem SR.adopt (S : SR G w m σ) (nf : ¬ w.F D) : SR G (w.ad D) m σ :=
  S.grow ⟨fun _ h => h, fun _ _ => .refl _⟩ (fun a l => ⟨.inl l, fun _ => rfl⟩) (fun a l f => l.elim (fun l => S.sep a l f) fun e => nf (e ▸ f)) S.trk
theorem Ex.adopt (x : Ex w1 w) (h : w1.H D = none) : Ex w1 (w.ad D) := ⟨x.fz, x.kp, fun a v h1 h2 h3 => by
  obtain ⟨q1, q2, q3⟩ := x.ot a v h1 h2 h3
  exact ⟨q1, q2, fun z => z.elim q3 (ne_of_none h1 h)⟩⟩
end
section
variable {C : Ct} {X : Cx} {cal : Nat → List Slot → CRes}
noncomputable def Ct.inn (C : Ct) : Ct := ⟨C.G, C.w0, C.s0, fun _ => false, fun _ _ => False⟩
theorem Res.sat_calm {α : Type} {r : Res α} {A : α → List Slot → Prop} {B : T → List Slot → Prop} (h : r.calm.sat A B) : r.sat A fun _ _ => False := by
  cases r with
  | ok a m => exact h
  | ex x m => exact h
  | no => exact h
theorem rd_comp {own : List Nat} {p : Pt} {s : Src} {cs : Es} {e : E} {g : TG} (hg : GP C.G p g) (hsub : ∀ j ∈ p.sl, j ∈ own) {σ : St} {H : Hp} {Q : VK} (h : rdE C (evE cal (.comp own p s cs e)) σ H Q) :
    tLc (rdS C (evSrc cal s)) g (rdB C.inn (evAll cal cs)) (rdE C.inn (evE cal e)) own σ H Q := by
  obtain ⟨w, m, eH, P, q⟩ := h
  rw [evE, Res.sat_bind] at q
  refine ⟨w, m, eH, P, Res.sat_mono q fun xs m1 q1 w1 J S1 x1 it => ?_⟩
  split at q1
  · rename_i no
    intro D hD
    rw [Res.sat_bind] at q1
    have q1 := Res.sat_calm q1
    have nf1 : ¬ w1.F D := fun f => by
      obtain ⟨u, z⟩ := S1.trk D f
      rw [hD] at z; cases z
    refine ⟨fun i n H => i + n = xs.length ∧ ∃ wq mc acc vs, wq.H = H ∧ SR C.G wq mc (wipe σ own) ∧ Ex w1 wq ∧ ¬ wq.F D ∧ ¬ wq.L D ∧ wq.H D = some (.lst vs) ∧ RFs C.G wq acc vs ∧
      (compGo own p (fun m => evAll cal cs m) (fun m => evE cal e m) (xs.drop i) acc mc).sat (fun acc m2 => (Res.ok (R.ow (.lst acc)) (restM m1 m2 own)).sat (fun r m' => ∀ w' v, SR C.G w' m' σ → Ex w w' → RR C.G w' m' σ r v → Q v w'.H) C.EM) fun _ _ => False, ?_, ?_⟩
    · refine ⟨xs.length, by omega, ?_⟩
      -- the owner of D, in no slot: forget
      have S0 := S1.wipe own
      have nlD : ∃ w1' : Wd, w1'.H = w1.H ∧ SR C.G w1' (wipeM m1 own) (wipe σ own) ∧ Ex w1 w1' ∧ ¬ w1'.F D ∧ ¬ w1'.L D := by
        refine ⟨⟨w1.F, fun a => w1.L a ∧ a ≠ D, w1.H⟩, rfl, ?_, ⟨fun _ h => h, fun _ _ => .refl _, fun a u h1 h2 h3 => ⟨h1, h2, fun z => h3 z.1⟩⟩, nf1, fun z => z.2 rfl⟩
        refine ⟨S0.len, fun j s h => ?_, S0.inj, fun a l f => S0.sep a l.1 f, S0.trk⟩
        have q := S0.sl j s h
        cases s with
        | no => trivial
        | fz t => obtain ⟨x, a, b⟩ := q; exact ⟨x, a, RF.mono (w := w1) (w' := ⟨w1.F, fun a => w1.L a ∧ a ≠ D, w1.H⟩) (mo_same rfl rfl) b⟩
        | ow o =>
          obtain ⟨a, e1, r, l⟩ := q
          refine ⟨a, e1, r.mono (mo_same rfl rfl) rfl, l, fun z => ?_⟩
          obtain ⟨u, hu⟩ := r.trk
          rw [z, hD] at hu; cases hu
      obtain ⟨w1', e1', S1', x1', nf', nl'⟩ := nlD
      refine ⟨w1'.wr D (.lst []), wipeM m1 own, [], [], by show upd w1'.H D _ = _; rw [e1'], S1'.poke nf' nl', x1'.poke hD nf', nf', nl', upd_same, .nil, ?_⟩
      rw [List.drop_zero]
      exact q1
    · rintro i n H ⟨hin, wc, mc, acc, vs, rfl, S, xc, nf, nl, hDv, rs, q2⟩
      cases hdr : xs.drop i with
      | nil =>
        have hi : i = xs.length := by
          have := congrArg List.length hdr
          rw [List.length_drop] at this
          simp at this
          omega
        subst hi
        rw [hdr] at q2
        have q2 : ∀ w' v, SR C.G w' (restM m1 mc own) σ → Ex w w' → RR C.G w' (restM m1 mc own) σ (.ow (.lst acc)) v → Q v w'.H := q2
        refine .inl ⟨it.stop wc xc.mo, ?_⟩
        have S2 : SR C.G wc (restM m1 mc own) σ := SR.rest S1 xc.mo S (wipe_length ..) (fun j hj => wipe_out hj) no
        refine q2 (wc.ad D) (.ref D) (S2.adopt nf) (x1.trans (xc.adopt hD)) ⟨D, rfl, .lst hDv (RFs.mono (w := wc) (w' := wc.ad D) (mo_same rfl rfl) rs), .inr rfl, fun j o' hj z => ?_⟩
        obtain ⟨a, e1, _, l⟩ := S2.sl j _ hj
        rw [z] at e1
        cases e1
        exact nl l
      | cons x rest =>
        have hx : xs[i]? = some x := by
          have := congrArg (fun l => l[0]?) hdr
          simpa using this
        have hlt : i < xs.length := (List.getElem?_eq_some_iff.mp hx).1
        have hrest : xs.drop (i + 1) = rest := by
          have := congrArg List.tail hdr
          simpa using this
        rw [hdr] at q2
        unfold compGo at q2
        obtain ⟨hgo, hyl⟩ := it.go i x wc xc.mo hx
        refine .inr ⟨hgo, fun H' => ∃ wq mc acc vs, wq.H = H' ∧ SR C.G wq mc (wipe σ own) ∧ Ex w1 wq ∧ ¬ wq.F D ∧ ¬ wq.L D ∧ wq.H D = some (.lst vs) ∧ RFs C.G wq acc vs ∧
          (compGo own p (fun m => evAll cal cs m) (fun m => evE cal e m) rest acc mc).sat (fun acc m2 => (Res.ok (R.ow (.lst acc)) (restM m1 m2 own)).sat (fun r m' => ∀ w' v, SR C.G w' m' σ → Ex w w' → RR C.G w' m' σ r v → Q v w'.H) C.EM) fun _ _ => False,
          fun H' nx => ⟨n - 1, by omega, by omega, by rw [hrest]; exact nx⟩, fun v H' y => ?_⟩
        obtain ⟨w2, e2, S2, x2, r2, _⟩ := hyl v H' (wipeM mc own) (wipe σ own) (S.wipeM own) y
        cases hb : bindP (wipeM mc own) p x with
        | none => rw [hb] at q2; exact q2.elim
        | some m3 =>
          rw [hb] at q2
          simp only at q2
          rw [Res.sat_bind] at q2
          rw [← e2]
          refine hg w2 (wipeM mc own) m3 (wipe σ own) x v _ S2 r2 hb fun σ3 S3 f3 l3 => ⟨wipe_eq (by rw [l3, wipe_length]) fun j hj => by rw [f3 j fun z => hj (hsub j z), wipe_out hj], ?_⟩
          have w3eq : wipe σ3 own = wipe σ own := wipe_eq (by rw [l3, wipe_length]) fun j hj => by rw [f3 j fun z => hj (hsub j z), wipe_out hj]
          obtain ⟨d1, d2, d3⟩ := x2.ot D _ hDv nf nl
          refine ⟨w2, m3, rfl, ⟨S3, (P.ex.trans x1).trans (xc.trans x2), fun j z => nomatch z⟩, Res.sat_mono q2 fun r m4 q4 => ?_⟩
          cases r with
          | ow o => exact q4.elim
          | bo k => exact q4.elim
          | fz t =>
            cases t <;> try (exact q4.elim)
            case bl b =>
              refine ⟨b, rfl, fun w4 S4 x4 => ?_⟩
              obtain ⟨g1, g2, g3⟩ := x4.ot D _ d1 d2 d3
              cases b with
              | false =>
                refine ⟨w4, wipeM m4 own, acc, vs, rfl, ?_, xc.trans (x2.trans x4), g2, g3, g1, RFs.mono (x2.trans x4).mo rs, q4⟩
                have := S4.wipe own
                rwa [w3eq] at this
              | true =>
                simp only at q4
                rw [Res.sat_bind] at q4
                refine ⟨w4, m4, rfl, ⟨S4, (P.ex.trans x1).trans (xc.trans (x2.trans x4)), fun j z => nomatch z⟩, Res.sat_mono q4 fun r5 m5 q5 w5 v5 S5 x5 rr5 => ?_⟩
                obtain ⟨k1, k2, k3⟩ := x5.ot D _ g1 g2 g3
                refine ⟨vs, k1, ?_⟩
                cases hes : esc m5 r5.opd with
                | none => rw [hes] at q5; exact q5.elim
                | some pr =>
                  obtain ⟨t6, m6⟩ := pr
                  rw [hes] at q5
                  simp only at q5
                  split at q5
                  · rename_i hlen
                    obtain ⟨w6, e6, S6, x6, r6⟩ := S5.keep rr5 hes
                    obtain ⟨y1, y2, y3⟩ := x6.ot D _ k1 k2 k3
                    refine ⟨by rw [← rs.length]; exact hlen, w6.wr D (.lst (vs ++ [v5])), wipeM m6 own, acc ++ [t6], vs ++ [v5], by show upd w6.H D _ = _; rw [e6], ?_, (xc.trans (x2.trans (x4.trans (x5.trans x6)))).poke hD y2, y2, y3, upd_same, ?_, q5⟩
                    · have := (S6.wipe own).poke (u := .lst (vs ++ [v5])) y2 y3
                      rwa [w3eq] at this
                    · exact RFs.mono (Mo.poke y2) ((RFs.mono (x2.trans (x4.trans (x5.trans x6))).mo rs).append (.cons r6 .nil))
                  · exact q5.elim
  · exact q1.elim
theorem n_comp {ex : Expr} {own : List Nat} {p : Pt} {s : Src} {cs : Es} {e : E} {g : TG} (hg : GP C.G p g) (hsub : ∀ j ∈ p.sl, j ∈ own) (hp : PE X ex (tLc (rdS C (evSrc cal s)) g (rdB C.inn (evAll cal cs)) (rdE C.inn (evE cal e)) own)) :
    PE X ex (rdE C (evE cal (.comp own p s cs e))) := PE.imp hp fun _ _ _ q => rd_comp hg hsub q
end
end Mi
set_option maxHeartbeats 1000000
namespace Mi
open PySem PySem.Spec PyProof.Rows L2

noncomputable def FSat (C : Ct) (w : Wd) (D : Ends) : Fl → Prop
  | .nx m => ∀ w' σ', Pre C w' m σ' → Ex w w' → D.nx σ' w'.H
  | .bk m => ∀ w' σ', Pre C w' m σ' → Ex w w' → D.bk σ' w'.H
  | .ct m => ∀ w' σ', Pre C w' m σ' → Ex w w' → D.ct σ' w'.H
  | .rt r m => ∀ w' σ' v, Pre C w' m σ' → Ex w w' → RR C.G w' m σ' r v → D.rt v w'.H
  | .ex x m => C.EM x m
  | .no => False
noncomputable def rdSt (C : Ct) (f : List Slot → Fl) : TS := fun D σ H => ∃ w m, w.H = H ∧ Pre C w m σ ∧ FSat C w D (f m)
section
variable {C : Ct} {X : Cx} {cal : Nat → List Slot → CRes} {L : Nat}
theorem FSat.weak {w w' : Wd} {D : Ends} {fl : Fl} (h : FSat C w D fl) (x : Ex w w') : FSat C w' D fl := by
  cases fl with
  | nx m => exact fun w2 σ2 p y => h w2 σ2 p (x.trans y)
  | bk m => exact fun w2 σ2 p y => h w2 σ2 p (x.trans y)
  | ct m => exact fun w2 σ2 p y => h w2 σ2 p (x.trans y)
  | rt r m => exact fun w2 σ2 v p y => h w2 σ2 v p (x.trans y)
  | ex x m => exact h
  | no => exact h
theorem FSat_ofR {w : Wd} {D : Ends} {r : Res R} {k : R → List Slot → Fl} : FSat C w D (ofR r k) ↔ r.sat (fun a m => FSat C w D (k a m)) C.EM := by
  cases r <;> exact Iff.rfl
theorem Pre.fixSet {w : Wd} {m m' : List Slot} {σ : St} {i : Nat} {v : Option V} (P : Pre C w m σ) (nfx : C.fx i = false) : ∀ j, C.fx j = true → (σ.set i v)[j]? = C.s0[j]? := fun j hj => by
  rw [List.getElem?_set_ne, P.fix j hj]
  intro e
  rw [e, hj] at nfx
  cases nfx
theorem st_nil : PSs X [] (rdSt C (evSs cal L .nil)) := PSs.imp pss_nil fun D σ H ⟨w, m, e, P, q⟩ => by
  rw [evSs] at q
  have := q w σ P (.refl w)
  rwa [e] at this
theorem st_cons {st : Stmt} {rest : List Stmt} {s : S} {r : Ss} (h : PS X st (rdSt C (evS cal L s))) (hr : PSs X rest (rdSt C (evSs cal L r))) : PSs X (st :: rest) (rdSt C (evSs cal L (.cons s r))) :=
  PSs.imp (pss_cons h hr) fun D σ H ⟨w, m, e, P, q⟩ => by
  rw [evSs] at q
  refine ⟨w, m, e, P, ?_⟩
  cases h1 : evS cal L s m with
  | nx m1 => rw [h1] at q; exact fun w1 σ1 P1 x1 => ⟨w1, m1, rfl, P1, FSat.weak q x1⟩
  | rt r m1 => rw [h1] at q; exact q
  | bk m1 => rw [h1] at q; exact q
  | ct m1 => rw [h1] at q; exact q
  | ex x m1 => rw [h1] at q; exact q
  | no => rw [h1] at q; exact q
theorem st_set {st : Stmt} {i : Nat} {e : E} (nfx : C.fx i = false) (h : PS X st (tAsg (rdE C (evE cal e)) (gName i))) : PS X st (rdSt C (evS cal L (.set i e))) := PS.imp h fun D σ H ⟨w, m, eH, P, q⟩ => by
  rw [evS, FSat_ofR] at q
  refine ⟨w, m, eH, P, Res.sat_mono q fun r m1 q1 w1 v S1 x1 r1 => ?_⟩
  show D.nx (σ.set i (some v)) w1.H
  unfold putR at q1
  split at q1
  · cases r with
    | fz t => exact q1 w1 _ ⟨S1.setFz r1, P.ex.trans x1, P.fixSet (m' := m1) nfx⟩ x1
    | ow o =>
      obtain ⟨p, rfl, ro, l, n⟩ := r1
      exact q1 w1 _ ⟨S1.setOw ro l n, P.ex.trans x1, P.fixSet (m' := m1) nfx⟩ x1
    | bo j =>
      simp only at q1
      cases h1 : esc m1 (.b j) with
      | none => rw [h1] at q1; exact q1.elim
      | some p =>
        obtain ⟨t, m2⟩ := p
        rw [h1] at q1
        obtain ⟨w2, e2, S2, x2, rf⟩ := S1.esc (d := .b j) r1 h1
        have := q1 w2 _ ⟨S2.setFz rf, P.ex.trans (x1.trans x2), P.fixSet (m' := m1) nfx⟩ (x1.trans x2)
        rwa [e2] at this
  · exact q1.elim
theorem st_par {st : Stmt} {i j : Nat} {a b : E} (nfx : C.fx i = false ∧ C.fx j = false) (h : PS X st (tPar i j (rdDs C (evDs cal (.cons a (.cons b .nil)))))) : PS X st (rdSt C (evS cal L (.par i j a b))) := PS.imp h fun D σ H ⟨w, m, eH, P, q⟩ => by
  rw [evS, FSat_ofR] at q
  refine ⟨w, m, eH, P, ?_⟩
  rw [evDs, Res.sat_bind]
  refine Res.sat_mono q fun ra m1 q1 => ?_
  rw [FSat_ofR] at q1
  rw [Res.sat_bind, evDs, Res.sat_bind]
  refine Res.sat_mono q1 fun rb m2 q2 => ?_
  rw [Res.sat_bind, evDs]
  intro w2 vs S2 x2 rs
  cases rs with
  | @cons _ v _ _ r1 rs =>
    cases rs with
    | @cons _ u _ _ r2 rs =>
      cases rs
      refine ⟨v, u, rfl, ?_⟩
      cases h1 : escs m2 [ra.opd, rb.opd] with
      | none => rw [h1] at q2; exact q2.elim
      | some pr =>
        obtain ⟨ts, m3⟩ := pr
        rw [h1] at q2
        obtain ⟨w3, e3, S3, x3, r3⟩ := SR.escs S2 (.cons r1 (.cons r2 .nil)) h1
        cases r3 with
        | @cons t _ ts1 _ a1 b1 =>
          cases b1 with
          | @cons t' _ ts2 _ a2 b2 =>
            cases b2
            simp only at q2
            split at q2
            · rw [← e3]
              refine q2 w3 _ ⟨(S3.setFz a1).setFz a2, P.ex.trans (x2.trans x3), fun k hk => ?_⟩ (x2.trans x3)
              rw [List.getElem?_set_ne, List.getElem?_set_ne, P.fix k hk]
              · intro e; rw [e, hk] at nfx; exact nomatch nfx.1
              · intro e; rw [e, hk] at nfx; exact nomatch nfx.2
            · exact q2.elim
theorem st_ret {st : Stmt} {e : E} (h : PS X st (tRet (rdE C (evE cal e)))) : PS X st (rdSt C (evS cal L (.ret e))) := PS.imp h fun D σ H ⟨w, m, eH, P, q⟩ => by
  rw [evS, FSat_ofR] at q
  refine ⟨w, m, eH, P, Res.sat_mono q fun r m1 q1 w1 v S1 x1 r1 => ?_⟩
  cases r with
  | fz t => exact q1 w1 σ v (P.step S1 x1) x1 r1
  | ow o => exact q1 w1 σ v (P.step S1 x1) x1 r1
  | bo i =>
    dsimp only [outR] at q1
    have r1 : σ[i]? = some (some v) := r1
    cases h1 : m1[i]? with
    | none => rw [h1] at q1; exact q1.elim
    | some s =>
      rw [h1] at q1
      have sl := S1.sl i s h1
      cases s with
      | no => exact q1.elim
      | fz t =>
        obtain ⟨x, e1, r2⟩ := sl
        rw [r1] at e1
        cases e1
        exact q1 w1 σ v (P.step S1 x1) x1 r2
      | ow o =>
        obtain ⟨a, e1, ro, l⟩ := sl
        rw [r1] at e1
        cases e1
        refine q1 w1 σ (.ref a) (P.step S1.setNo x1) x1 ⟨a, rfl, ro, l, fun k o' hk z => ?_⟩
        by_cases hj : k = i
        · subst hj
          rw [List.getElem?_set_self (List.getElem?_eq_some_iff.mp h1).1] at hk
          cases hk
        · rw [List.getElem?_set_ne (Ne.symm hj)] at hk
          exact hj (S1.inj k i o' o a hk h1 z r1)
/-- a test that is a bool -/
theorem rd_test {f : List Slot → Res R} {σ : St} {w : Wd} {m : List Slot} {Q : Bool → Hp → Prop} (P : Pre C w m σ) (h : (f m).sat (fun r m1 => ∃ k, r = .fz (.bl k) ∧ ∀ w', SR C.G w' m1 σ → Ex w w' → Q k w'.H) C.EM) : rdB C f σ w.H Q := ⟨w, m, rfl, P, h⟩
theorem st_ife {st : Stmt} {c : E} {a b : Ss} (h : PS X st (tIfS (rdB C (evE cal c)) (rdSt C (evSs cal L a)) (rdSt C (evSs cal L b)))) : PS X st (rdSt C (evS cal L (.ife c a b))) := PS.imp h fun D σ H ⟨w, m, eH, P, q⟩ => by
  rw [evS, FSat_ofR] at q
  subst eH
  refine rd_test P (Res.sat_mono q fun r m1 q1 => ?_)
  cases r with
  | ow o => exact q1.elim
  | bo k => exact q1.elim
  | fz t =>
    cases t <;> try (exact q1.elim)
    case bl k =>
      refine ⟨k, rfl, fun w1 S1 x1 => ?_⟩
      cases k with
      | true => exact ⟨w1, m1, rfl, P.step S1 x1, FSat.weak q1 x1⟩
      | false => exact ⟨w1, m1, rfl, P.step S1 x1, FSat.weak q1 x1⟩
theorem st_fr {st : Stmt} {p : Pt} {s : Src} {b : Ss} {g : TG} (hg : GP C.G p g) (nfx : ∀ j ∈ p.sl, C.fx j = false) (h : PS X st (tFor (rdS C (evSrc cal s)) g (rdSt C (evSs cal L b)))) : PS X st (rdSt C (evS cal L (.fr p s b))) := PS.imp h fun D σ H ⟨w, m, eH, P, q⟩ => by
  rw [evS] at q
  refine ⟨w, m, eH, P, ?_⟩
  cases h0 : evSrc cal s m with
  | no => rw [h0] at q; exact q.elim
  | ex x m1 => rw [h0] at q; exact q
  | ok xs m1 =>
    rw [h0] at q
    have q : FSat C w D (forGo p (fun m => evSs cal L b m) xs m1) := q
    intro w1 J S1 x1 it
    refine ⟨fun i n σ H => i + n = xs.length ∧ ∃ wc m, wc.H = H ∧ Pre C wc m σ ∧ Ex w1 wc ∧ FSat C w1 D (forGo p (fun m => evSs cal L b m) (xs.drop i) m), ⟨xs.length, by omega, w1, m1, rfl, P.step S1 x1, .refl w1, by rw [List.drop_zero]; exact FSat.weak q x1⟩, ?_⟩
    rintro i n σ2 H2 ⟨hin, wc, mc, rfl, Pc, xc, qc⟩
    cases hdr : xs.drop i with
    | nil =>
      have hi : i = xs.length := by
        have := congrArg List.length hdr
        rw [List.length_drop] at this
        simp at this
        omega
      subst hi
      rw [hdr] at qc
      exact .inl ⟨it.stop wc xc.mo, qc wc σ2 Pc xc⟩
    | cons x rest =>
      have hx : xs[i]? = some x := by
        have := congrArg (fun l => l[0]?) hdr
        simpa using this
      have hlt : i < xs.length := (List.getElem?_eq_some_iff.mp hx).1
      have hrest : xs.drop (i + 1) = rest := by
        have := congrArg List.tail hdr
        simpa using this
      rw [hdr] at qc
      unfold forGo at qc
      obtain ⟨hgo, hyl⟩ := it.go i x wc xc.mo hx
      refine .inr ⟨hgo, fun σ H => ∃ wc m, wc.H = H ∧ Pre C wc m σ ∧ Ex w1 wc ∧ FSat C w1 D (forGo p (fun m => evSs cal L b m) rest m), fun σ' H' z => ⟨n - 1, by omega, by omega, by rw [hrest]; exact z⟩, fun v H' y => ?_⟩
      obtain ⟨w2, e2, S2, x2, r2, _⟩ := hyl v H' mc σ2 Pc.sr y
      cases hb : bindP mc p x with
      | none => rw [hb] at qc; exact qc.elim
      | some m3 =>
        rw [hb] at qc
        simp only at qc
        rw [← e2]
        refine hg w2 mc m3 σ2 x v _ S2 r2 hb fun σ3 S3 f3 l3 => ?_
        have P3 : Pre C w2 m3 σ3 := ⟨S3, Pc.ex.trans x2, fun j hj => by rw [f3 j (fun z => by rw [nfx j z] at hj; cases hj), Pc.fix j hj]⟩
        refine ⟨w2, m3, rfl, P3, ?_⟩
        cases h2 : evSs cal L b m3 with
        | nx m4 => rw [h2] at qc; exact fun w4 σ4 P4 x4 => ⟨w4, m4, rfl, P4, xc.trans (x2.trans x4), qc⟩
        | ct m4 => rw [h2] at qc; exact fun w4 σ4 P4 x4 => ⟨w4, m4, rfl, P4, xc.trans (x2.trans x4), qc⟩
        | bk m4 => rw [h2] at qc; exact fun w4 σ4 P4 x4 => qc w4 σ4 P4 (xc.trans (x2.trans x4))
        | rt r m4 => rw [h2] at qc; exact fun w4 σ4 v P4 x4 => qc w4 σ4 v P4 (xc.trans (x2.trans x4))
        | ex x m4 => rw [h2] at qc; exact qc
        | no => rw [h2] at qc; exact qc.elim
theorem st_app {st : Stmt} {i : Nat} {e : E} (h : PS X st (tDrop (tBM C.G.K "list" rAppend (tVar i) (tCons (rdD C (opdF (evE cal e))) tNil)))) : PS X st (rdSt C (evS cal L (.app i e))) := PS.imp h fun D σ H ⟨w, m, eH, P, q⟩ => by
  rw [evS] at q
  cases h0 : m[i]? with
  | none => rw [h0] at q; exact q.elim
  | some s =>
    rw [h0] at q
    have sl := P.sr.sl i s h0
    cases s with
    | no => exact q.elim
    | fz t => exact q.elim
    | ow o =>
      cases o with
      | dic k => exact q.elim
      | ins c k => exact q.elim
      | lst xs0 =>
        simp only at q
        rw [FSat_ofR] at q
        obtain ⟨a, e1, ro, l⟩ := sl
        obtain ⟨vs0, hv0, _⟩ := ro.lst_inv
        refine ⟨_, e1, .inl ⟨rfl, vs0, .inl (.inl (by rw [← eH]; exact hv0))⟩, w, m, eH, P, ?_⟩
        rw [opdF, Res.sat_bind]
        refine Res.sat_mono q fun r m1 q1 w1 v S1 x1 r1 => ?_
        cases h1 : esc m1 r.opd with
        | none => rw [h1] at q1; exact q1.elim
        | some pr =>
          obtain ⟨t, m2⟩ := pr
          rw [h1] at q1
          obtain ⟨w2, e2, S2, x2, r2⟩ := S1.esc r1 h1
          simp only at q1
          cases h2 : m2[i]? with
          | none => rw [h2] at q1; exact q1.elim
          | some s2 =>
            rw [h2] at q1
            have sl2 := S2.sl i s2 h2
            cases s2 with
            | no => exact q1.elim
            | fz t => exact q1.elim
            | ow o2 =>
              cases o2 with
              | dic k => exact q1.elim
              | ins c k => exact q1.elim
              | lst xs =>
                obtain ⟨a2, e3, ro2, l2⟩ := sl2
                rw [e1] at e3
                cases e3
                obtain ⟨vs, hv, rs⟩ := ro2.lst_inv
                simp only at q1
                split at q1
                · rename_i hlt
                  have nf := S2.sep a l2
                  obtain ⟨S3, x3⟩ := S2.write (u := .lst (vs ++ [v])) (o' := .lst (xs ++ [t])) h2 e1 (.lst upd_same (RFs.mono (Mo.poke nf) (rs.append (.cons r2 .nil))))
                  refine ⟨a, vs, v, rfl, rfl, by rw [← e2]; exact hv, by rw [← rs.length]; exact hlt, ?_⟩
                  rw [← e2]
                  exact q1 (w2.wr a (.lst (vs ++ [v]))) σ (P.step S3 (x1.trans (x2.trans x3))) (x1.trans (x2.trans x3))
                · exact q1.elim
/-! name[key] = value -/
noncomputable def rSetM : TSet := fun o i v H Q => rSetL o i v H Q ∨ rSetD o i v H Q
theorem RFk.any {G : Gm} {w : Wd} (k : Key) : ∀ {kvs : List (Key × T)} {ks : List (Key × V)}, RFk G w kvs ks → (kvs.any fun kv => decide (kv.1 = k)) = ks.any fun kv => decide (kv.1 = k)
  | _, _, .nil => rfl
  | _, _, .cons a b => by simp only [List.any_cons, RFk.any k b]
theorem RFk.app {G : Gm} {w : Wd} : ∀ {kvs kvs' : List (Key × T)} {ks ks' : List (Key × V)}, RFk G w kvs ks → RFk G w kvs' ks' → RFk G w (kvs ++ kvs') (ks ++ ks')
  | _, _, _, _, .nil, s => s
  | _, _, _, _, .cons a b, s => .cons a (RFk.app b s)
theorem RFk.map {G : Gm} {w : Wd} {k : Key} {t : T} {v : V} (q : RF G w t v) : ∀ {kvs : List (Key × T)} {ks : List (Key × V)}, RFk G w kvs ks → RFk G w (kvs.map fun kv => if decide (kv.1 = k) = true then (kv.1, t) else kv) (ks.map fun kv => if kv.1 = k then (kv.1, v) else kv)
  | _, _, .nil => .nil
  | _, _, .cons (k := k') a b => by
    simp only [List.map_cons]
    by_cases e : k' = k
    · simp only [e, decide_true, if_true]
      exact .cons q (RFk.map q b)
    · simp only [e, decide_false, if_false, Bool.false_eq_true]
      exact .cons a (RFk.map q b)
theorem RFk.put {G : Gm} {w : Wd} {kvs : List (Key × T)} {ks : List (Key × V)} {k : Key} {t : T} {v : V} (r : RFk G w kvs ks) (q : RF G w t v) : RFk G w (putT kvs k t) (putK ks k v) := by
  unfold putT putK
  rw [r.any k]
  split
  · exact r.map q
  · exact r.app (.cons q .nil)
theorem keyT_v {w : Wd} {t : T} {k : Key} {v : V} (h : keyT t = some k) (r : RA C.G w t v) : v = kV k := by
  cases t <;> try (cases h; done)
  case int i => cases h; exact r.int
  case str s => cases h; exact r.str
theorem st_sto {st : Stmt} {i : Nat} {k v : E} (h : PS X st (tAsg (rdE C (evE cal v)) (gSub (tVar i) (rdE C (evE cal k)) rSetM))) : PS X st (rdSt C (evS cal L (.sto i k v))) := PS.imp h fun D σ H ⟨w, m, eH, P, q⟩ => by
  rw [evS, FSat_ofR] at q
  apply rd_opd
  refine ⟨w, m, eH, P, ?_⟩
  rw [opdF, Res.sat_bind]
  refine Res.sat_mono q fun rv m1 q1 w1 vv S1 x1 r1 => ?_
  cases h0 : m1[i]? with
  | none => rw [h0] at q1; exact q1.elim
  | some s0 =>
    rw [h0] at q1
    have sl0 := S1.sl i s0 h0
    cases s0 with
    | no => exact q1.elim
    | fz t => exact q1.elim
    | ow o0 =>
      obtain ⟨a, ea, _, _⟩ := sl0
      simp only at q1
      rw [FSat_ofR] at q1
      refine ⟨_, ea, ?_⟩
      apply rd_opd
      refine ⟨w1, m1, rfl, P.step S1 x1, ?_⟩
      rw [opdF, Res.sat_bind]
      refine Res.sat_mono q1 fun rk m2 q2 w2 kv S2 x2 r2 => ?_
      cases h1 : esc m2 rv.opd with
      | none => rw [h1] at q2; exact q2.elim
      | some pr =>
        obtain ⟨t, m3⟩ := pr
        rw [h1] at q2
        simp only at q2
        obtain ⟨w3, e3, S3, x3, r3⟩ := S2.esc (r1.mono x2.mo) h1
        cases h2 : der m3 rk.opd with
        | none => rw [h2] at q2; exact q2.elim
        | some kt =>
          rw [h2] at q2
          have rk' := S3.der (r2.mono x3.mo) h2
          cases h3 : m3[i]? with
          | none => rw [h3] at q2; cases kt <;> exact q2.elim
          | some s3 =>
            rw [h3] at q2
            have sl3 := S3.sl i s3 h3
            cases s3 with
            | no => cases kt <;> exact q2.elim
            | fz t => cases kt <;> exact q2.elim
            | ow o3 =>
              obtain ⟨a3, e4, ro, l3⟩ := sl3
              rw [ea] at e4
              cases e4
              have nf := S3.sep a l3
              cases o3 with
              | ins c fs => cases kt <;> exact q2.elim
              | lst xs =>
                cases kt <;> try (exact q2.elim)
                case int j =>
                  obtain ⟨vs, hv, rs⟩ := ro.lst_inv
                  simp only at q2
                  cases h4 : ixN xs.length j with
                  | none => rw [h4] at q2; exact q2.elim
                  | some n =>
                    rw [h4] at q2
                    obtain ⟨S5, x5⟩ := S3.write (u := .lst (vs.set n vv)) (o' := .lst (xs.set n t)) h3 ea (.lst upd_same (RFs.mono (Mo.poke nf) (RFs.set r3 n rs)))
                    refine .inl ⟨a, vs, j, n, rfl, rk'.int, by rw [← e3]; exact hv, by rw [← rs.length]; exact h4, ?_⟩
                    rw [← e3]
                    exact q2 (w3.wr a (.lst (vs.set n vv))) σ (P.step S5 (x1.trans (x2.trans (x3.trans x5)))) (x1.trans (x2.trans (x3.trans x5)))
              | dic kvs =>
                obtain ⟨ks, hv, rs⟩ := ro.dic_inv
                have q2 : FSat C w D (match keyT kt with
                  | some k => if kvs.length < sizeLine then .nx (m3.set i (.ow (.dic (putT kvs k t)))) else .no
                  | none => .no) := by cases kt <;> exact q2
                cases h4 : keyT kt with
                | none => rw [h4] at q2; exact q2.elim
                | some ky =>
                  rw [h4] at q2
                  simp only at q2
                  split at q2
                  · rename_i hlt
                    obtain ⟨S5, x5⟩ := S3.write (u := .dK (putK ks ky vv)) (o' := .dic (putT kvs ky t)) h3 ea (.dic upd_same (RFk.mono (Mo.poke nf) (rs.put r3)))
                    refine .inr ⟨a, upd w2.H a (.dK (putK ks ky vv)), rfl, .inl ⟨ks, ky, by rw [← e3]; exact hv, keyT_v h4 rk', by rw [← rs.length]; exact hlt, rfl⟩, ?_⟩
                    rw [← e3]
                    exact q2 (w3.wr a (.dK (putK ks ky vv))) σ (P.step S5 (x1.trans (x2.trans (x3.trans x5)))) (x1.trans (x2.trans (x3.trans x5)))
                  · exact q2.elim
end
end Mi
set_option maxHeartbeats 1000000
namespace Mi
open PySem PySem.Spec PyProof.Rows L2

section
variable {X : Cx}
theorem or_add : OpR X (binaryOp .Add) rAddM := OpR.or (OpR.or op_add op_add_str) op_cat
theorem or_muls : OpR X (binaryOp .Mult) rMulS := fun pins s σ H x y v u Q I rx ry h => by
  obtain ⟨z, n, rfl, rfl, h0, h1, hz, q⟩ := h
  obtain ⟨t, rfl⟩ := rx
  obtain ⟨t', rfl⟩ := ry
  refine PySem.SB.mul ⟨?_, fun h2 _ => ?_, fun h2 _ => ?_⟩ fun t2 k => ⟨.str (Txt.mul z n), H, I.tok k, ⟨t2, rfl⟩, q⟩
  · simp only [Bool.or_eq_false_iff, decide_eq_false_iff_not]
    omega
  · intro h3
    have h4 : (2 ^ 63 - 1 : Int) / 1000 ≤ (2 ^ 63 - 1) / n := by
      have : (0 : Int) < n := by omega
      apply Int.le_ediv_of_mul_le this
      calc (2 ^ 63 - 1 : Int) / 1000 * n ≤ (2 ^ 63 - 1 : Int) / 1000 * 1000 := Int.mul_le_mul_of_nonneg_left h1 (by decide)
        _ ≤ 2 ^ 63 - 1 := by decide
    have h5 : (z.length : Int) ≤ 1000 := by exact_mod_cast hz
    have : (1000 : Int) < (2 ^ 63 - 1 : Int) / 1000 := by decide
    omega
  · have : z.length * n.toNat ≤ 1000 * 1000 := Nat.mul_le_mul hz (by omega)
    have l : (1000 * 1000 : Nat) ≤ sizeLine := by decide
    show decide (_ > sizeLine) = false
    exact decide_eq_false (by omega)
theorem or_mul : OpR X (binaryOp .Mult) rMulM := OpR.or op_mulW or_muls
theorem or_eq (hu : X.A.units + 64 < cLine) : OpR X (compareOp .Eq) (rEqM X.K) := OpR.or (OpR.or op_eq (op_eqD hu)) (op_eqDic (by omega))
theorem or_ne (hu : X.A.units + 64 < cLine) : OpR X (compareOp .NotEq) (rNeM X.K) := OpR.or (OpR.or op_ne (op_neD hu)) (op_neDic (by omega))
theorem OpR.imp {f : Value → Value → Sem Value} {r r' : R2} (h : OpR X f r) (i : ∀ x y H Q, r' x y H Q → r x y H Q) : OpR X f r' := fun pins s σ H x y v u Q I rx ry q => h pins s σ H x y v u Q I rx ry (i _ _ _ _ q)
theorem CallR.imp {f : Value} {r r' : List V → Hp → VK → Prop} (h : CallR X f r) (i : ∀ x H Q, r' x H Q → r x H Q) : CallR X f r' := fun pins s σ H x u Q I rx q => h pins s σ H x u Q I rx (i _ _ _ q)
theorem op_inK (hu : X.A.units + 64 < cLine) : OpR X (compareOp .In) (rInK false) := fun pins s σ H x y v u Q I rx ry h => by
  obtain ⟨a, kvs, k, rfl, rfl, e, q⟩ := h
  cases ry
  exact d_in (by omega) I (.inl ⟨kvs, k, e, rfl, rfl⟩) rx fun s' I' => ⟨.bl _, H, I', rfl, q⟩
theorem op_notInK (hu : X.A.units + 64 < cLine) : OpR X (compareOp .NotIn) (rInK true) := fun pins s σ H x y v u Q I rx ry h => by
  obtain ⟨a, kvs, k, rfl, rfl, e, q⟩ := h
  cases ry
  exact d_notIn (by omega) I (.inl ⟨kvs, k, e, rfl, rfl⟩) rx fun s' I' => ⟨.bl _, H, I', rfl, q⟩
theorem or_in (hu : X.A.units + 64 < cLine) : OpR X (compareOp .In) (rInM X.K false) := OpR.or (OpR.or op_in_sign op_in_seq) (op_inK hu)
theorem or_notin (hu : X.A.units + 64 < cLine) : OpR X (compareOp .NotIn) (rInM X.K true) := OpR.or (OpR.or op_notIn_sign op_notIn_seq) (op_notInK hu)
theorem cr_listM (hc : X.calm = true) : CallR X (.type "list") (rListM X.K) := CallR.or call_list_of (call_listD hc)
theorem cr_lenM : CallR X (.builtin "len") (rLenM X.K) := CallR.or call_len fun pins s σ H xs us Q I r h => by
  obtain ⟨a, kvs, rfl, ha, q⟩ := h
  obtain ⟨u, rfl, ru⟩ := vals1 r
  cases ru
  exact d_len I ha fun t s' I' => ⟨.int kvs.length, H, I', ⟨t, rfl⟩, q⟩
theorem cr_strM : CallR X (.type "str") rStrM := CallR.or call_str_int SkE.call_str_str
theorem cr_intM : CallR X (.type "int") rIntM := CallR.or call_int1 call_int_str
theorem sl_M : L2.SlR X (rSlM X.K) := L2.SlR.or sl_list sl_str
end

/-! ### isinstance -/
section
variable {G : Gm}
theorem RA.ty {w : Wd} {t : T} {v : V} (r : RA G w t v) (h : ∀ c fs, t ≠ .ins c fs) : TyX G.K w.H v (.type (tyT t)) := by
  cases t with
  | ins c fs => exact absurd rfl (h c fs)
  | non => cases r.non; exact .base .non
  | bl b => cases r.bl; exact .base (.bl b)
  | int i => cases r.int; exact .base (.int i)
  | str s => cases r.str; exact .base (.str s)
  | lst xs => obtain ⟨a, vs, rfl, h1, _⟩ := r.lst; exact .base (.lst h1)
  | tup xs =>
    obtain ⟨a, vs, rfl, h1, _⟩ := r.tup
    rcases h1 with (h1 | ⟨o, h1⟩) | ⟨o, its, n, h1, h2, h3⟩
    · exact .base (.tup h1)
    · exact .fTuple h1
    · exact .kTuple h1 h2
  | dic kvs =>
    obtain ⟨a, ks, rfl, h1, _⟩ := r.dic
    rcases h1 with h1 | ⟨o, h1⟩
    · exact .base (.dK h1)
    · exact .fDict h1
  | scr ns =>
    obtain ⟨a, rfl, h1⟩ := r.scr
    rcases h1 with (h1 | ⟨o, h1⟩) | ⟨o, its, n, h1, h2, h3⟩
    · exact .base (.lst h1)
    · exact .base (.frz h1)
    · exact .kList h1 h2
theorem kit_has {t : T} {l : Ty} (h : ∀ c fs, t ≠ .ins c fs) : kitB (tyT t) l.nm = some (Ty.has t l) := by
  cases t with
  | ins c fs => exact absurd rfl (h c fs)
  | non => cases l <;> (show kitB "NoneType" _ = some false; decide +kernel)
  | bl b => cases l <;> first | (show kitB "bool" _ = some false; decide +kernel) | (show kitB "bool" _ = some true; decide +kernel)
  | int i => cases l <;> first | (show kitB "int" _ = some false; decide +kernel) | (show kitB "int" _ = some true; decide +kernel)
  | str s => cases l <;> first | (show kitB "str" _ = some false; decide +kernel) | (show kitB "str" _ = some true; decide +kernel)
  | lst xs => cases l <;> first | (show kitB "list" _ = some false; decide +kernel) | (show kitB "list" _ = some true; decide +kernel)
  | tup xs => cases l <;> first | (show kitB "tuple" _ = some false; decide +kernel) | (show kitB "tuple" _ = some true; decide +kernel)
  | dic xs => cases l <;> first | (show kitB "dict" _ = some false; decide +kernel) | (show kitB "dict" _ = some true; decide +kernel)
  | scr xs => cases l <;> first | (show kitB "list" _ = some false; decide +kernel) | (show kitB "list" _ = some true; decide +kernel)
theorem kit_any {K : PySem.W.Frag} {t : T} (h : ∀ c fs, t ≠ .ins c fs) : ∀ l : List Ty, PySem.W.kitAny K (.type (tyT t)) (l.map fun y => .type y.nm) = some (l.any (Ty.has t))
  | [] => rfl
  | y :: l => by
    refine kitAny_cons (kit_ty (kit_has (l := y) h)) (fun e => ?_) (fun e => ?_)
    · rw [kit_any h l, List.any_cons, e]; rfl
    · rw [List.any_cons, e]; rfl
theorem okIsi1 {l : Ty} : OpOk1 G (.isi1 l) (fun x H Q => rIsi G.K [x, .ty l.nm] H Q) := fun w m σ t1 v1 res Q S a h k => by
  have h : isi1F l t1 = some res := h
  have nt : ∀ c fs, t1 ≠ .ins c fs := fun c fs e => by subst e; cases h
  have h' : fB (Ty.has t1 l) = some res := by cases t1 <;> first | exact h | exact absurd rfl (nt _ _)
  cases h'
  exact ⟨v1, .ty l.nm, _, _, _, rfl, .ty _, a.ty nt, kit_ty (kit_has nt), k.fz S (.bl _)⟩
noncomputable def rIsiL (K : PySem.W.Frag) (l : List Ty) : V → Hp → VK → Prop := fun x H Q => (l.map fun y => V.ty y.nm).length ≤ sizeLine ∧ ∀ p, H p = none → rIsiT K [x, .ref p] (upd H p (.tup (l.map fun y => V.ty y.nm))) Q
theorem paired_ty : ∀ l : List Ty, Paired ClsV (l.map fun y => V.ty y.nm) (l.map fun y => .type y.nm)
  | [] => .nil
  | y :: l => .cons (.ty _) (paired_ty l)
theorem okIsi {l : List Ty} (hl : l.length ≤ 30) : OpOk1 G (.isi l) (rIsiL G.K l) := fun w m σ t1 v1 res Q S a h k => by
  have h : isiF l t1 = some res := h
  have nt : ∀ c fs, t1 ≠ .ins c fs := fun c fs e => by subst e; cases h
  have h' : fB (l.any (Ty.has t1)) = some res := by cases t1 <;> first | exact h | exact absurd rfl (nt _ _)
  cases h'
  have l30 : 30 ≤ sizeLine := by decide
  refine ⟨by rw [List.length_map]; omega, fun p hp => ?_⟩
  have a' : RA G (w.new p (.tup (l.map fun y => V.ty y.nm))) t1 v1 := by
    rcases a.cases' with a | ⟨o, q, rfl, rfl, ro⟩
    · exact .fz (RF.mono (Mo.new S.trk hp) a)
    · refine .ow (ro.mono (Mo.new S.trk hp) ?_)
      obtain ⟨u, hu⟩ := ro.trk
      exact (upd_trk hp hu).trans hu.symm
  have e := k (w.new p (.tup (l.map fun y => V.ty y.nm))) (.bl (l.any (Ty.has t1))) (S.new hp) (Ex.new S.trk hp) (.bl _)
  exact ⟨v1, p, _, _, _, _, rfl, upd_same, paired_ty l, a'.ty nt, kit_any nt l, e⟩
end
end Mi
set_option maxHeartbeats 1000000
namespace Mi
open PySem PySem.Spec PyProof.Rows L2

structure XC (C : Ct) (X : Cx) (k : Nat) : Prop where
  K : C.G.K = X.K
  nd : X.N.Nodup
  calm : X.calm = true
  room : Room (2 * k + 1) X.A
  tk : Takes X (WM C)
section
variable {C : Ct} {X : Cx} {k : Nat} {cal : Nat → List Slot → CRes} {L : Nat}
theorem XC.hu (c : XC C X k) : X.A.units + 64 < cLine := by have := c.room.un; omega
theorem XC.blk (c : XC C X k) {s : Shared} {H : Hp} {scope : Scope} {env : Env} {fp : List Addr} : XC C.inn (X.blk s H scope env fp) k :=
  ⟨c.K, c.nd, c.calm, c.room, fun u s' ⟨a, B, sI, pins, σ, H, cls, d, e, I, nb, up, sky, na, os, ag, w⟩ => by
    obtain ⟨_, _, _, _, _, _, z⟩ := w
    exact z.elim⟩
/-! ### constants, names -/
variable {pos p1 p2 p3 : Pos} {j : Option Str}
theorem x_int {i : Int} {j} : PE X (.Constant (.int i) j pos) (rdE C (evE cal (.c (.int i)))) := n_cst pe_int fun _ => .int i
theorem x_str {i : Str} {j} : PE X (.Constant (.str i) j pos) (rdE C (evE cal (.c (.str i)))) := n_cst pe_str fun _ => .str i
theorem x_bl {i : Bool} {j} : PE X (.Constant (.bool i) j pos) (rdE C (evE cal (.c (.bl i)))) := n_cst pe_bl fun _ => .bl i
theorem x_non {j} : PE X (.Constant .none j pos) (rdE C (evE cal (.c .non))) := n_cst pe_non fun _ => .non
theorem x_var {i : Nat} {x : Str} (hN : X.N[i]? = some x := by rfl) (hv : Vis X.env.scope x := by first | exact Or.inl rfl | exact Or.inr (Or.inl rfl) | exact Or.inr (Or.inr rfl)) (hd : (x == ("__debug__" : Str)) = false := by decide)
    (hcd : (x == ("__classdict__" : Str)) = false := by decide) : PE X (.Name x pos) (rdE C (evE cal (.var i))) := n_var (pv i hN hv hd hcd)
/-- a name of the text's top that is never stored again -/
noncomputable def GlobAt (X : Cx) (G : Gm) (x : Str) (t : T) : Prop := ∃ u v, X.mg x = some u ∧ RelV v u ∧ ∀ w, RF G w t v
theorem x_glob {x : Str} {t : T} (h : GlobAt X C.G x t) (hg : Gl X x := by rfl) (hdb : (x == ("__debug__" : Str)) = false := by decide) : PE X (.Name x pos) (rdE C (evE cal (.c t))) := by
  obtain ⟨u, v, h1, h2, h3⟩ := h
  exact n_cst (pe_glob hg h1 h2 hdb) h3
/-! ### displays -/
theorem evDs_nil : evDs cal .nil = fun m => .ok [] m := by funext m; rw [evDs]
theorem evDs_cons {e : E} {r : Es} : evDs cal (.cons e r) = consD (evE cal e) (evDs cal r) := by funext m; rw [evDs]; rfl
theorem a_nil : PA X [] (rdDs C (evDs cal .nil)) := by rw [evDs_nil]; exact pa_nilM
theorem a_cons {e : Expr} {es : List Expr} {a : E} {r : Es} (h : PE X e (rdE C (evE cal a))) (hr : PA X es (rdDs C (evDs cal r))) (hs : starEach (e :: es) X.env = (false, eval e X.env) :: starEach es X.env := by rfl) :
    PA X (e :: es) (rdDs C (evDs cal (.cons a r))) := by rw [evDs_cons]; exact pa_consM h hr hs
theorem x_lst {exs : List Expr} {es : Es} (h : PA X exs (rdDs C (evDs cal es))) : PE X (.List exs pos) (rdE C (evE cal (.lst es))) := n_lst (fun _ => pe_lst) h
theorem x_tup {exs : List Expr} {es : Es} {n} (h : PA X exs (rdDs C (evDs cal es))) : PE X (.Tuple exs n pos) (rdE C (evE cal (.tup es))) := n_tup (fun _ => pe_tup) h
/-! ### operators -/
noncomputable def BP (C : Ct) (X : Cx) (op : Operator) (f : Op) : Prop := ∃ r, OpR X (binaryOp op) r ∧ OpOk2 C.G f r
theorem b_add : BP C X .Add .add := ⟨_, or_add, okAdd⟩
theorem b_sub : BP C X .Sub .sub := ⟨_, op_sub, okSub⟩
theorem b_mul : BP C X .Mult .mul := ⟨_, or_mul, okMul⟩
theorem b_fdiv : BP C X .FloorDiv .fdiv := ⟨_, op_fdivW, okFdiv⟩
theorem b_mod : BP C X .Mod .mod := ⟨_, op_mod, okMod⟩
theorem b_pow : BP C X .Pow .pow := ⟨_, op_pow, okPow⟩
theorem x_bin {op : Operator} {f : Op} {a b : Expr} {ea eb : E} (h : BP C X op f) (ha : PE X a (rdE C (evE cal ea))) (hb : PE X b (rdE C (evE cal eb))) : PE X (.BinOp a op b pos) (rdE C (evE cal (.op f (.cons ea (.cons eb .nil))))) := by
  obtain ⟨r, h1, h2⟩ := h
  exact n_op2 (fun _ _ => pe_op h1) h2 ha hb
noncomputable def CP (C : Ct) (X : Cx) (op : CmpOp) (f : Op) : Prop := ∃ r, OpR X (compareOp op) r ∧ OpOk2 C.G f r
theorem c_eq (c : XC C X k) : CP C X .Eq .eq := ⟨_, by rw [c.K]; exact or_eq c.hu, okEq⟩
theorem c_ne (c : XC C X k) : CP C X .NotEq .ne := ⟨_, by rw [c.K]; exact or_ne c.hu, okNe⟩
theorem c_lt (c : XC C X k) : CP C X .Lt .lt := ⟨_, op_lt, okCmp fun _ _ => rfl⟩
theorem c_le (c : XC C X k) : CP C X .LtE .le := ⟨_, op_le, okCmp fun _ _ => rfl⟩
theorem c_gt (c : XC C X k) : CP C X .Gt .gt := ⟨_, op_gt, okCmp fun _ _ => rfl⟩
theorem c_ge (c : XC C X k) : CP C X .GtE .ge := ⟨_, op_ge, okCmp fun _ _ => rfl⟩
theorem c_in (c : XC C X k) : CP C X .In .isin := ⟨_, by rw [c.K]; exact or_in c.hu, okIn⟩
theorem c_notin (c : XC C X k) : CP C X .NotIn .notin := ⟨_, by rw [c.K]; exact or_notin c.hu, okNotin⟩
theorem c_is (c : XC C X k) : CP C X .Is .isn := ⟨_, op_isN, okIsn⟩
theorem c_isnot (c : XC C X k) : CP C X .IsNot .notn := ⟨_, op_notN, okNotn⟩
theorem x_cmp {op : CmpOp} {f : Op} {a b : Expr} {ea eb : E} (h : CP C X op f) (ha : PE X a (rdE C (evE cal ea))) (hb : PE X b (rdE C (evE cal eb))) (hm : behindInMarks op b = false := by first | exact nomark _ | rfl) :
    PE X (.Compare a [op] [b] pos) (rdE C (evE cal (.op f (.cons ea (.cons eb .nil))))) := by
  obtain ⟨r, h1, h2⟩ := h
  exact n_op2 (fun _ _ a b => pe_cmpR h1 a b hm) h2 ha hb
theorem y_cmp {op : CmpOp} {f : Op} {a b : Expr} {ea eb : E} (h : CP C X op f) (ha : PE X a (rdE C (evE cal ea))) (hb : PE X b (rdE C (evE cal eb))) (hm : behindInMarks op b = false := by first | exact nomark _ | rfl) :
    PT X (.Compare a [op] [b] pos) (rdB C (evE cal (.op f (.cons ea (.cons eb .nil))))) := by
  obtain ⟨r, h1, h2⟩ := h
  exact t_op2 (fun _ _ a b => pt_cmpR h1 a b hm) h2 ha hb
theorem x_chain {op op' : CmpOp} {f f' : Op} {a b d : Expr} {ea eb ed : E} (h : CP C X op f) (h' : CP C X op' f') (ha : PE X a (rdE C (evE cal ea))) (hb : PE X b (rdE C (evE cal eb))) (hd : PE X d (rdE C (evE cal ed)))
    (hm : lastMarks [op, op'] [b, d] = false := by with_unfolding_all rfl) : PE X (.Compare a [op, op'] [b, d] pos) (rdE C (evE cal (.ch f f' ea eb ed))) := by
  obtain ⟨r, h1, h2⟩ := h
  obtain ⟨r', h1', h2'⟩ := h'
  exact n_chain (fun _ _ _ a b d => pe_chain h1 h1' a b d hm) h2 h2' ha hb hd
/-! ### and, or, not, if -/
theorem x_one {op} {a : Expr} {ea : E} (h : PE X a (rdE C (evE cal ea))) : PE X (.BoolOp op [a] pos) (rdE C (evE cal ea)) := pe_one h
theorem x_and {a b : Expr} {rest : List Expr} {ea eb : E} (ha : PE X a (rdE C (evE cal ea))) (hb : PE X (.BoolOp .And (b :: rest) pos) (rdE C (evE cal eb))) : PE X (.BoolOp .And (a :: b :: rest) pos) (rdE C (evE cal (.an ea eb))) := n_and (fun _ _ => pe_and) ha hb
theorem x_or {a b : Expr} {rest : List Expr} {ea eb : E} (ha : PE X a (rdE C (evE cal ea))) (hb : PE X (.BoolOp .Or (b :: rest) pos) (rdE C (evE cal eb))) : PE X (.BoolOp .Or (a :: b :: rest) pos) (rdE C (evE cal (.or ea eb))) := n_or (fun _ _ => pe_or) ha hb
theorem x_not {a : Expr} {ea : E} (ha : PE X a (rdE C (evE cal ea))) : PE X (.UnaryOp .Not a pos) (rdE C (evE cal (.nt ea))) := n_not (fun _ => pe_not) ha
theorem x_ite {c a b : Expr} {ec ea eb : E} (hc : PT X c (rdB C (evE cal ec))) (ha : PE X a (rdE C (evE cal ea))) (hb : PE X b (rdE C (evE cal eb))) : PE X (.IfExp c a b pos) (rdE C (evE cal (.ite ec ea eb))) := n_ite (fun _ _ _ => pe_ifExp) hc ha hb
theorem y_val {e : Expr} {ea : E} (h : PE X e (rdE C (evE cal ea))) (he : ∀ whole, isTrue e X.env whole = (do let v ← whole; standAt e.pos; holding [v] (truthy v)) := by intro _; rfl) : PT X e (rdB C (evE cal ea)) := t_val (fun _ h => pt_val h he) h
theorem y_not {a : Expr} {ea : E} (h : PT X a (rdB C (evE cal ea))) : PT X (.UnaryOp .Not a pos) (rdB C (evE cal (.nt ea))) := t_not (fun _ => pt_not) h
theorem z_and1 {a : Expr} {ea : E} (h : PT X a (rdB C (evE cal ea))) : PW X (.BoolOp .And [a] pos) (rdB C (evE cal ea)) := pw_and1 h
theorem z_or1 {a : Expr} {ea : E} (h : PT X a (rdB C (evE cal ea))) : PW X (.BoolOp .Or [a] pos) (rdB C (evE cal ea)) := pw_or1 h
theorem rd_and {a b : E} {σ : St} {H : Hp} {Q : Bool → Hp → Prop} (h : rdB C (evE cal (.an a b)) σ H Q) : tAnd (rdB C (evE cal a)) (rdB C (evE cal b)) σ H Q := by
  obtain ⟨w, m, e, P, q⟩ := h
  rw [evE, Res.sat_bind] at q
  refine ⟨w, m, e, P, Res.sat_mono q fun r m1 q1 => ?_⟩
  split at q1
  · refine ⟨true, rfl, fun w1 S1 x1 => ?_⟩
    refine iteT ?_
    exact ⟨w1, m1, rfl, P.step S1 x1, Res.sat_mono q1 fun r m2 ⟨k, e, q2⟩ => ⟨k, e, fun w2 S2 x2 => q2 w2 S2 (x1.trans x2)⟩⟩
  · refine ⟨false, rfl, fun w1 S1 x1 => ?_⟩
    refine iteF ?_
    obtain ⟨k, e, q2⟩ := q1
    cases e
    exact q2 w1 S1 x1
  · exact q1.elim
theorem rd_or {a b : E} {σ : St} {H : Hp} {Q : Bool → Hp → Prop} (h : rdB C (evE cal (.or a b)) σ H Q) : tOr (rdB C (evE cal a)) (rdB C (evE cal b)) σ H Q := by
  obtain ⟨w, m, e, P, q⟩ := h
  rw [evE, Res.sat_bind] at q
  refine ⟨w, m, e, P, Res.sat_mono q fun r m1 q1 => ?_⟩
  split at q1
  · refine ⟨true, rfl, fun w1 S1 x1 => ?_⟩
    refine iteT ?_
    obtain ⟨k, e, q2⟩ := q1
    cases e
    exact q2 w1 S1 x1
  · refine ⟨false, rfl, fun w1 S1 x1 => ?_⟩
    refine iteF ?_
    exact ⟨w1, m1, rfl, P.step S1 x1, Res.sat_mono q1 fun r m2 ⟨k, e, q2⟩ => ⟨k, e, fun w2 S2 x2 => q2 w2 S2 (x1.trans x2)⟩⟩
  · exact q1.elim
theorem z_and {a b : Expr} {rest : List Expr} {ea eb : E} (ha : PT X a (rdB C (evE cal ea))) (hb : PW X (.BoolOp .And (b :: rest) pos) (rdB C (evE cal eb))) : PW X (.BoolOp .And (a :: b :: rest) pos) (rdB C (evE cal (.an ea eb))) := PW.imp (pw_and ha hb) fun _ _ _ => rd_and
theorem z_or {a b : Expr} {rest : List Expr} {ea eb : E} (ha : PT X a (rdB C (evE cal ea))) (hb : PW X (.BoolOp .Or (b :: rest) pos) (rdB C (evE cal eb))) : PW X (.BoolOp .Or (a :: b :: rest) pos) (rdB C (evE cal (.or ea eb))) := PW.imp (pw_or ha hb) fun _ _ _ => rd_or
/-! ### subscripts -/
theorem x_idx (c : XC C X k) {a b : Expr} {ea eb : E} (ha : PE X a (rdE C (evE cal ea))) (hb : PE X b (rdE C (evE cal eb))) (hs : PlainIx b := by intro _ _; rfl) : PE X (.Subscript a b pos) (rdE C (evE cal (.op .idx (.cons ea (.cons eb .nil))))) :=
  n_op2 (r := rIxM C.G.K) (fun _ _ a b => pe_ix (by rw [c.K]; exact ix_any (by have := c.hu; omega)) a b hs) okIdx ha hb
theorem intO_some {t : T} {i : Int} (h : intO t = some i) : t = .int i := by
  cases t <;> first | (cases h; rfl) | cases h
theorem sl_MK (c : XC C X k) : L2.SlR X (rSlM C.G.K) := by rw [c.K]; exact sl_M
theorem x_slHi (c : XC C X k) {a b : Expr} {ea eb : E} (ha : PE X a (rdE C (evE cal ea))) (hb : PE X b (rdE C (evE cal eb))) : PE X (.Subscript a (.Slice none (some b) none p1) pos) (rdE C (evE cal (.op (.sl false true) (.cons ea (.cons eb .nil))))) :=
  n_op2 (r := fun x y H Q => ∃ i, y = .int i ∧ rSlM C.G.K x none (some i) H Q) (fun ta tb a b => PE.imp (pe_slice (sl_MK c) a po_none (po_some b)) fun σ H Q q => q) (fun w m σ t1 t2 v1 v2 res Q S a b h q => by
    have h : (intO t2).bind (fun i => slF t1 none (some i)) = some res := h
    cases e : intO t2 with
    | none => rw [e] at h; cases h
    | some i =>
      rw [e] at h
      cases intO_some e
      exact ⟨i, b.int, okSl S a h q⟩) ha hb
end
end Mi
set_option maxHeartbeats 1000000
namespace Mi
open PySem PySem.Spec PyProof.Rows L2

/-- a built-in name, free of the text's own -/
noncomputable def Fr (X : Cx) (x : Str) : Prop := X.mg x = none
section
variable {C : Ct} {X : Cx} {k : Nat} {cal : Nat → List Slot → CRes} {L : Nat} {pos p1 p2 p3 p4 : Pos}
/-! ### built-in calls of one value -/
theorem x_bi {x : Str} {id : String} {f : Op} {a : Expr} {ea : E} {r : List V → Hp → VK → Prop} (hc : CallR X (.builtin id) r) (hv : bootBuiltins x = some (.builtin id)) (ok : OpOk1 C.G f fun x H Q => r [x] H Q) (hm : Fr X x) (hg : Gl X x) (hn : x ≠ "__name__") (hdb : (x == ("__debug__" : Str)) = false)
    (hs : starEach [a] X.env = (false, eval a X.env) :: starEach [] X.env) (ha : PE X a (rdE C (evE cal ea))) : PE X (.Call (.Name x p1) [a] [] pos) (rdE C (evE cal (.op f (.cons ea .nil)))) :=
  n_op1 (fun ta h => PE.imp (pe_callB hc hg hm hv (pa_cons h pa_nil hs) hn hdb hs (by rfl)) fun _ _ _ q => q) ok ha
theorem x_ty {x : Str} {id : String} {f : Op} {a : Expr} {ea : E} {r : List V → Hp → VK → Prop} (hc : CallR X (.type id) r) (hv : bootBuiltins x = some (.type id)) (ok : OpOk1 C.G f fun x H Q => r [x] H Q) (hm : Fr X x) (hg : Gl X x) (hn : x ≠ "__name__") (hdb : (x == ("__debug__" : Str)) = false)
    (hs : starEach [a] X.env = (false, eval a X.env) :: starEach [] X.env) (ha : PE X a (rdE C (evE cal ea))) : PE X (.Call (.Name x p1) [a] [] pos) (rdE C (evE cal (.op f (.cons ea .nil)))) :=
  n_op1 (fun ta h => PE.imp (pe_callTy hc hg hm hv (pa_cons h pa_nil hs) hn hdb hs (by rfl)) fun _ _ _ q => q) ok ha
theorem x_len (c : XC C X k) {a : Expr} {ea : E} (hm : Fr X "len") (ha : PE X a (rdE C (evE cal ea))) (hg : Gl X "len" := by rfl) (hs : starEach [a] X.env = (false, eval a X.env) :: starEach [] X.env := by rfl) : PE X (.Call (.Name "len" p1) [a] [] pos) (rdE C (evE cal (.op .len (.cons ea .nil)))) :=
  x_bi (r := rLenM C.G.K) (by rw [c.K]; exact cr_lenM) boot_len okLen hm hg (by decide) (by decide) hs ha
theorem x_abs (c : XC C X k) {a : Expr} {ea : E} (hm : Fr X "abs") (ha : PE X a (rdE C (evE cal ea))) (hg : Gl X "abs" := by rfl) (hs : starEach [a] X.env = (false, eval a X.env) :: starEach [] X.env := by rfl) : PE X (.Call (.Name "abs" p1) [a] [] pos) (rdE C (evE cal (.op .abs (.cons ea .nil)))) :=
  x_bi call_abs (by rfl) okAbs hm hg (by decide) (by decide) hs ha
theorem x_all (c : XC C X k) {a : Expr} {ea : E} (hm : Fr X "all") (ha : PE X a (rdE C (evE cal ea))) (hg : Gl X "all" := by rfl) (hs : starEach [a] X.env = (false, eval a X.env) :: starEach [] X.env := by rfl) : PE X (.Call (.Name "all" p1) [a] [] pos) (rdE C (evE cal (.op .all (.cons ea .nil)))) :=
  x_bi (r := rAll C.G.K) (by rw [c.K]; exact cr_all c.calm) (by rfl) okAll hm hg (by decide) (by decide) hs ha
theorem x_toInt (c : XC C X k) {a : Expr} {ea : E} (hm : Fr X "int") (ha : PE X a (rdE C (evE cal ea))) (hg : Gl X "int" := by rfl) (hs : starEach [a] X.env = (false, eval a X.env) :: starEach [] X.env := by rfl) : PE X (.Call (.Name "int" p1) [a] [] pos) (rdE C (evE cal (.op .int (.cons ea .nil)))) :=
  x_ty cr_intM (by rfl) okInt hm hg (by decide) (by decide) hs ha
theorem x_toStr (c : XC C X k) {a : Expr} {ea : E} (hm : Fr X "str") (ha : PE X a (rdE C (evE cal ea))) (hg : Gl X "str" := by rfl) (hs : starEach [a] X.env = (false, eval a X.env) :: starEach [] X.env := by rfl) : PE X (.Call (.Name "str" p1) [a] [] pos) (rdE C (evE cal (.op .str (.cons ea .nil)))) :=
  x_ty cr_strM (by rfl) okStr hm hg (by decide) (by decide) hs ha
theorem x_toList (c : XC C X k) {a : Expr} {ea : E} (hm : Fr X "list") (ha : PE X a (rdE C (evE cal ea))) (hg : Gl X "list" := by rfl) (hs : starEach [a] X.env = (false, eval a X.env) :: starEach [] X.env := by rfl) : PE X (.Call (.Name "list" p1) [a] [] pos) (rdE C (evE cal (.op .list (.cons ea .nil)))) :=
  x_ty (r := rListM C.G.K) (by rw [c.K]; exact cr_listM c.calm) (by rfl) okList hm hg (by decide) (by decide) hs ha
/-! ### isinstance -/
theorem x_cls {x : Str} (l : Ty) (hv : bootBuiltins x = some (.type l.nm)) (hm : Fr X x) (hg : Gl X x) (hn : x ≠ "__name__" := by decide) (hd : (x == ("__debug__" : Str)) = false := by decide) : PE X (.Name x p1) (tC (.ty l.nm)) := pe_bltn hg hm hv rfl hn hd
theorem x_isi1 (c : XC C X k) {a : Expr} {x : Str} {ea : E} (l : Ty) (hm : Fr X "isinstance") (hx : PE X (.Name x p2) (tC (.ty l.nm))) (ha : PE X a (rdE C (evE cal ea))) (hg : Gl X "isinstance" := by rfl)
    (hs : starEach [a, .Name x p2] X.env = (false, eval a X.env) :: starEach [.Name x p2] X.env := by rfl) : PE X (.Call (.Name "isinstance" p1) [a, .Name x p2] [] pos) (rdE C (evE cal (.op (.isi1 l) (.cons ea .nil)))) :=
  n_op1 (fun ta h => PE.imp (pe_callB (r := rIsi C.G.K) (by rw [c.K]; exact call_isi) hg hm PyProof.Rows.boot_isinstance (pa_cons h (pa_cons hx pa_nil) hs) (by decide) (by decide) hs (by rfl)) fun _ _ _ q => q) okIsi1 ha
theorem x_isi2 (c : XC C X k) {a : Expr} {x y : Str} {ea : E} {n} (l l' : Ty) (hm : Fr X "isinstance") (hx : PE X (.Name x p2) (tC (.ty l.nm))) (hy : PE X (.Name y p3) (tC (.ty l'.nm))) (ha : PE X a (rdE C (evE cal ea))) (hg : Gl X "isinstance" := by rfl)
    (hs : starEach [a, .Tuple [.Name x p2, .Name y p3] n p4] X.env = (false, eval a X.env) :: starEach [.Tuple [.Name x p2, .Name y p3] n p4] X.env := by rfl) : PE X (.Call (.Name "isinstance" p1) [a, .Tuple [.Name x p2, .Name y p3] n p4] [] pos) (rdE C (evE cal (.op (.isi [l, l']) (.cons ea .nil)))) :=
  n_op1 (r := rIsiL C.G.K [l, l']) (fun ta h => PE.imp (pe_callB (r := rIsiT C.G.K) (by rw [c.K]; exact call_isiT) hg hm PyProof.Rows.boot_isinstance (pa_cons h (pa_cons (pe_tup (pa_cons hx (pa_cons hy pa_nil))) pa_nil) hs) (by decide) (by decide) hs (by rfl)) fun _ _ _ q => q) (okIsi (by simp)) ha
theorem x_isi3 (c : XC C X k) {a : Expr} {x y z : Str} {ea : E} {n} {p5 : Pos} (l l' l'' : Ty) (hm : Fr X "isinstance") (hx : PE X (.Name x p2) (tC (.ty l.nm))) (hy : PE X (.Name y p3) (tC (.ty l'.nm))) (hz : PE X (.Name z p5) (tC (.ty l''.nm))) (ha : PE X a (rdE C (evE cal ea))) (hg : Gl X "isinstance" := by rfl)
    (hs : starEach [a, .Tuple [.Name x p2, .Name y p3, .Name z p5] n p4] X.env = (false, eval a X.env) :: starEach [.Tuple [.Name x p2, .Name y p3, .Name z p5] n p4] X.env := by rfl) : PE X (.Call (.Name "isinstance" p1) [a, .Tuple [.Name x p2, .Name y p3, .Name z p5] n p4] [] pos) (rdE C (evE cal (.op (.isi [l, l', l'']) (.cons ea .nil)))) :=
  n_op1 (r := rIsiL C.G.K [l, l', l'']) (fun ta h => PE.imp (pe_callB (r := rIsiT C.G.K) (by rw [c.K]; exact call_isiT) hg hm PyProof.Rows.boot_isinstance (pa_cons h (pa_cons (pe_tup (pa_cons hx (pa_cons hy (pa_cons hz pa_nil)))) pa_nil) hs) (by decide) (by decide) hs (by rfl)) fun _ _ _ q => q) (okIsi (by simp)) ha
/-! ### 'text'.join(list) -/
theorem x_join (c : XC C X k) {o e : Expr} {eo ee : E} (ho : PE X o (rdE C (evE cal eo))) (he : PE X e (rdE C (evE cal ee))) (hs : starEach [e] X.env = [(false, eval e X.env)] := by rfl) (hbase : attributeBase o "join" X.env (eval o X.env) = eval o X.env := by rfl) (hline : (p1.endLine == pos.line) = true := by rfl) :
    PE X (.Call (.Attribute o "join" p1) [e] [] pos) (rdE C (evE cal (.jn eo ee))) :=
  PE.imp (pe_join (pe_opd ho) (pe_opd he) hs hbase hline) fun σ H Q ⟨w, m, e, P, q⟩ => by
  rw [evE, Res.sat_bind] at q
  refine ⟨w, m, e, P, ?_⟩
  rw [opdF, Res.sat_bind]
  refine Res.sat_mono q fun ra m1 q1 w1 v1 S1 x1 r1 => ?_
  split at q1
  · rename_i z hz
    rw [Res.sat_bind] at q1
    refine ⟨⟨z, (S1.der r1 hz).str⟩, w1, m1, rfl, P.step S1 x1, ?_⟩
    rw [opdF, Res.sat_bind]
    refine Res.sat_mono q1 fun rb m2 q2 w2 v2 S2 x2 r2 => ?_
    split at q2
    · rename_i t ht
      split at q2
      · rename_i r hr
        cases (S1.der r1 hz).str
        have := okJoin w2 m2 σ (.str z) t (.str z) v2 r Q S2 (.fz (.str z)) (S2.der r2 ht) hr fun w' v S' x' r' => q2 w' v S' (x1.trans (x2.trans x')) r'
        rw [← c.K]
        exact this.2
      · exact q2.elim
    · exact q2.elim
  · exact q1.elim
/-! ### own functions -/
theorem XC.low (c : XC C X k) : Room (2 * k) X.A := c.room.mono (by omega)
structure FnAt (X : Cx) (k : Nat) (G : Gm) (cal : Nat → List Slot → CRes) (f : Nat) (x : Str) (ps : List Str) : Prop where
  ex : ∃ fa fd, X.mg x = some (.ref fa) ∧ PySem.W.keepIn X.K (.ref fa) = true ∧ Binds X.K fd ps [] ∧ FnOk X.prog X.w X.K X.mg X.base (L2.CX X.prog X.w) (2 * k) fa fd ps (spM G cal f)
theorem x_call (c : XC C X k) {f : Nat} {x : Str} {ps : List Str} {e : Expr} {es : List Expr} {io : List Bool} {as : Es} (F : FnAt X k C.G cal f x ps) (ha : PA X (e :: es) (rdDs C (evDs cal as))) (hg : Gl X x := by rfl) (hdb : (x == ("__debug__" : Str)) = false := by decide)
    (he : starEach (e :: es) X.env = (false, eval e X.env) :: starEach es X.env := by rfl) (hpl : (backTo pos (starEach es X.env)).any (·.1) = false := by rfl) : PE X (.Call (.Name x p1) (e :: es) [] pos) (rdE C (evE cal (.call f io as))) := by
  obtain ⟨fa, fd, h1, h2, h3, h4⟩ := F.ex
  exact n_call (fun t ht => PE.imp (pe_callS (E := WE (WM C)) h4 c.low hg h1 h2 h3 (fun σ => passAt c.tk σ) ht hdb he hpl) fun _ _ _ q => q) ha
theorem PK.imp {es : List Keyword} {t t' : TA} (h : PK X es t) (i : ∀ σ H Q, t' σ H Q → t σ H Q) : PK X es t' := ⟨fun p pins s σ H Q I q => h.run p pins s σ H Q I (i σ H Q q)⟩
theorem k_nil : PK X [] (rdDs C (evDs cal .nil)) := by
  rw [evDs_nil]
  exact PK.imp pk_nil fun σ H Q ⟨w, m, e, P, q⟩ => by
    have := q w [] P.sr (.refl w) .nil
    rwa [e] at this
theorem k_cons {e : Expr} {nm : Option Str} {kws : List Keyword} {a : E} {r : Es} (h : PE X e (rdE C (evE cal a))) (hr : PK X kws (rdDs C (evDs cal r))) : PK X (⟨nm, e, p1⟩ :: kws) (rdDs C (evDs cal (.cons a r))) := by
  rw [evDs_cons]
  exact PK.imp (pk_cons (pe_opd h) hr) fun _ _ _ q => rd_cons q
/-! ### loops' sources -/
theorem i_any (c : XC C X k) {tg e : Expr} {ea : E} (h : PE X e (rdE C (evE cal ea))) : PI X tg e (rdS C (evSrc cal (.it ea))) := s_it (fun t h => by rw [c.K]; exact Mi.PI.or (Mi.PI.or (Mi.PI.or (pi_list h) (pi_tup h)) (pi_str h)) (pi_keysL h)) h
theorem i_rng1 (c : XC C X k) {tg e : Expr} {ea : E} (hm : Fr X "range") (h : PE X e (rdE C (evE cal ea))) (hg : Gl X "range" := by rfl) (hs : starEach [e] X.env = [(false, eval e X.env)] := by rfl) : PI X tg (.Call (.Name "range" p1) [e] [] pos) (rdS C (evSrc cal (.rng1 ea))) :=
  s_rng1 (fun t h => pi_range1 hg hm (pa_cons h pa_nil hs) hs) h
theorem i_rng2 (c : XC C X k) {tg a b : Expr} {ea eb : E} (hm : Fr X "range") (h : PE X a (rdE C (evE cal ea))) (h' : PE X b (rdE C (evE cal eb))) (hg : Gl X "range" := by rfl) (hs : starEach [a, b] X.env = [(false, eval a X.env), (false, eval b X.env)] := by rfl) (hs2 : starEach [b] X.env = [(false, eval b X.env)] := by rfl) :
    PI X tg (.Call (.Name "range" p1) [a, b] [] pos) (rdS C (evSrc cal (.rng2 ea eb))) :=
  s_rng2 (fun t u h h' => pi_range2 hg hm (pa_cons h (pa_cons h' pa_nil hs2) (by rw [hs, hs2])) hs hs2) h h'
theorem i_enum (c : XC C X k) {e : Expr} {ea : E} {elts} {kk} (hm : Fr X "enumerate") (h : PE X e (rdE C (evE cal ea))) (hg : Gl X "enumerate" := by rfl) (hs : starEach [e] X.env = [(false, eval e X.env)] := by rfl) : PI X (.Tuple elts kk p2) (.Call (.Name "enumerate" p1) [e] [] pos) (rdS C (evSrc cal (.enum ea))) :=
  s_enum (fun t h => by rw [c.K]; exact pi_enumT hg hm (pa_cons h pa_nil hs) hs) h
theorem i_zip (c : XC C X k) {a b : Expr} {ea eb : E} {elts} {kk} (hm : Fr X "zip") (h : PE X a (rdE C (evE cal ea))) (h' : PE X b (rdE C (evE cal eb))) (hg : Gl X "zip" := by rfl) (hs : starEach [a, b] X.env = (false, eval a X.env) :: starEach [b] X.env := by rfl)
    (hs2 : starEach [b] X.env = [(false, eval b X.env)] := by rfl) (hpl : (backTo pos (starEach [b] X.env)).any (·.1) = false := by rfl) : PI X (.Tuple elts kk p2) (.Call (.Name "zip" p1) [a, b] [] pos) (rdS C (evSrc cal (.zip ea eb))) :=
  s_zip (fun t u h h' => by rw [c.K]; exact pi_zip hg hm (pa_cons h (pa_cons h' pa_nil hs2) hs) hs hpl) h h'
/-! ### comprehensions -/
theorem evAll_nil : evAll cal .nil = fun m => .ok (.fz (.bl true)) m := by funext m; rw [evAll]
theorem f_nil : PTs X [] (rdB C (evAll cal .nil)) := by
  rw [evAll_nil]
  exact ⟨fun pins s σ H Q I ⟨w, m, e, P, ⟨k, hk, q⟩⟩ => by
    cases hk
    have := q w P.sr (.refl w)
    rw [e] at this
    exact pts_nil.run pins s σ H Q I this⟩
theorem f_one {e : Expr} {a : E} (h : PT X e (rdB C (evE cal a))) : PTs X [e] (rdB C (evAll cal (.cons a .nil))) :=
  ⟨fun pins s σ H Q I ⟨w, m, e, P, q⟩ => by
    refine (pts_one h).run pins s σ H Q I ⟨w, m, e, P, ?_⟩
    rw [evAll, Res.sat_bind] at q
    refine Res.sat_mono q fun r m1 q1 => ?_
    split at q1
    · rw [evAll] at q1
      obtain ⟨k, hk, q1⟩ := q1
      exact ⟨true, rfl, by cases hk; exact q1⟩
    · obtain ⟨k, hk, q1⟩ := q1
      exact ⟨false, rfl, by cases hk; exact q1⟩
    · exact q1.elim⟩
theorem x_comp (c : XC C X k) {elt tg iter : Expr} {ifs : List Expr} {scope : Scope} {own : List (Str × Nat)} {ow : List Nat} {p : Pt} {s : Src} {cs : Es} {e : E} {g : TG} (gp : GP C.G p g) (ok : BlkOk X.N X.env.scope scope own) (hi : PI X tg iter (rdS C (evSrc cal s)))
    (hg : ∀ (s : Shared) (H : Hp) (D : Addr) (cl : List (Str × Addr)) (fp : List Addr), PG (X.blk s H scope (compEnvC scope cl D X.env) fp) tg g)
    (ht : ∀ (s : Shared) (H : Hp) (D : Addr) (cl : List (Str × Addr)) (fp : List Addr), XC C.inn (X.blk s H scope (compEnvC scope cl D X.env) fp) k → PTs (X.blk s H scope (compEnvC scope cl D X.env) fp) ifs (rdB C.inn (evAll cal cs)))
    (he : ∀ (s : Shared) (H : Hp) (D : Addr) (cl : List (Str × Addr)) (fp : List Addr), XC C.inn (X.blk s H scope (compEnvC scope cl D X.env) fp) k → PE (X.blk s H scope (compEnvC scope cl D X.env) fp) elt (rdE C.inn (evE cal e)))
    (how : own.map (·.2) = ow := by rfl) (hsub : ∀ j ∈ p.sl, j ∈ ow := by decide) (hs : ∀ x, foldedSetIterable iter X.env x = pure x := by intro _; rfl) :
    PE X (.ListComp elt [⟨tg, iter, ifs, 0⟩] scope pos) (rdE C (evE cal (.comp ow p s cs e))) := by
  subst how
  exact n_comp gp hsub (pe_lc c.calm c.nd hi ok hg (fun s H D cl fp => ht s H D cl fp c.blk) (fun s H D cl fp => he s H D cl fp c.blk) hs)
end
end Mi
set_option maxHeartbeats 1000000
namespace Mi
open PySem PySem.Spec PyProof.Rows L2

section
variable {C : Ct} {X : Cx} {k : Nat} {cal : Nat → List Slot → CRes} {L : Nat} {pos p1 p2 p3 p4 : Pos}
/-! ### statements -/
theorem w_set (c : XC C X k) {i : Nat} {x : Str} {e : Expr} {ea : E} (nfx : C.fx i = false) (he : PE X e (rdE C (evE cal ea))) (hi : X.N[i]? = some x := by rfl) (hx : Loc X.env.scope x := by first | exact Or.inl rfl | exact Or.inr rfl) (hs : swapsWith e (some (.Name x p1)) pos.line X.env = pure false := by rfl)
    (hf : X.fn x = true ∨ X.env.scope.names.lookup x = some .local := by first | exact .inl rfl | exact .inr rfl) : PS X (.Assign [.Name x p1] e pos) (rdSt C (evS cal L (.set i ea))) := st_set nfx (ps_set c.nd hi hx he hs hf)
theorem w_setc (c : XC C X k) {i : Nat} {x : Str} {elt tg iter : Expr} {ifs : List Expr} {scope : Scope} {own : List (Str × Nat)} {ow : List Nat} {p : Pt} {s : Src} {cs : Es} {e : E} {g : TG} (nfx : C.fx i = false) (gp : GP C.G p g) (ok : BlkOk X.N X.env.scope scope own) (hi : PI X tg iter (rdS C (evSrc cal s)))
    (hg : ∀ (s : Shared) (H : Hp) (D : Addr) (cl : List (Str × Addr)) (fp : List Addr), PG (X.blk s H scope (compEnvC scope cl D X.env) fp) tg g)
    (ht : ∀ (s : Shared) (H : Hp) (D : Addr) (cl : List (Str × Addr)) (fp : List Addr), XC C.inn (X.blk s H scope (compEnvC scope cl D X.env) fp) k → PTs (X.blk s H scope (compEnvC scope cl D X.env) fp) ifs (rdB C.inn (evAll cal cs)))
    (he : ∀ (s : Shared) (H : Hp) (D : Addr) (cl : List (Str × Addr)) (fp : List Addr), XC C.inn (X.blk s H scope (compEnvC scope cl D X.env) fp) k → PE (X.blk s H scope (compEnvC scope cl D X.env) fp) elt (rdE C.inn (evE cal e)))
    (hN : X.N[i]? = some x := by rfl) (hx : X.env.scope.names.lookup x = some .local := by rfl) (hsw : swapsWith (.ListComp elt [⟨tg, iter, ifs, 0⟩] scope p2) (some (.Name x p1)) pos.line X.env = pure true := by rfl)
    (how : own.map (·.2) = ow := by rfl) (hsub : ∀ j ∈ p.sl, j ∈ ow := by decide) (hs : ∀ x, foldedSetIterable iter X.env x = pure x := by intro _; rfl) :
    PS X (.Assign [.Name x p1] (.ListComp elt [⟨tg, iter, ifs, 0⟩] scope p2) pos) (rdSt C (evS cal L (.set i (.comp ow p s cs e)))) := by
  subst how
  exact st_set nfx (PS.imp (ps_setLc c.calm c.nd hN hx hsw hi ok hg (fun s H D cl fp => ht s H D cl fp c.blk) (fun s H D cl fp => he s H D cl fp c.blk) hs) fun D σ H q => rd_comp gp hsub q)
theorem w_par (c : XC C X k) {i j : Nat} {x y : Str} {a b : Expr} {ea eb : E} {kt k2} (nfx : C.fx i = false ∧ C.fx j = false) (ha : PA X [a, b] (rdDs C (evDs cal (.cons ea (.cons eb .nil))))) (hw : swappedStores [.Tuple [.Name x p1, .Name y p2] kt p3] (.Tuple [a, b] k2 p4) X.env = pure (some [x, y]) := by rfl)
    (hi : X.N[i]? = some x := by rfl) (hj : X.N[j]? = some y := by rfl) (hij : i ≠ j := by decide) (hx : X.env.scope.names.lookup x = some .local := by rfl) (hy : X.env.scope.names.lookup y = some .local := by rfl)
    (hs : swapsWithSole [.Tuple [.Name x p1, .Name y p2] kt p3] (.Tuple [a, b] k2 p4) pos.line X.env = pure false := by rfl) : PS X (.Assign [.Tuple [.Name x p1, .Name y p2] kt p3] (.Tuple [a, b] k2 p4) pos) (rdSt C (evS cal L (.par i j ea eb))) :=
  st_par nfx (ps_par c.calm c.nd hi hj hij hx hy ha hw hs)
theorem w_ret {e : Expr} {ea : E} (he : PE X e (rdE C (evE cal ea))) : PS X (.Return (some e) pos) (rdSt C (evS cal L (.ret ea))) := st_ret (ps_ret he)
theorem w_ife {c : Expr} {a b : List Stmt} {ec : E} {sa sb : Ss} (hc : PT X c (rdB C (evE cal ec))) (ha : PSs X a (rdSt C (evSs cal L sa))) (hb : PSs X b (rdSt C (evSs cal L sb))) : PS X (.If c a b pos) (rdSt C (evS cal L (.ife ec sa sb))) := st_ife (ps_if hc ha hb)
theorem w_fr (c : XC C X k) (hp : PassesOwn (model X.prog X.w) X.A X.env X.xe) {tg iter : Expr} {b : List Stmt} {p : Pt} {s : Src} {sb : Ss} {g : TG} (gp : GP C.G p g) (nfx : ∀ j ∈ p.sl, C.fx j = false) (hg : PG X tg g) (hi : PI X tg iter (rdS C (evSrc cal s))) (hb : PSs X b (rdSt C (evSs cal L sb)))
    (hs : ∀ x, foldedSetIterable iter X.env x = pure x := by intro _; rfl) : PS X (.For tg iter b [] pos) (rdSt C (evS cal L (.fr p s sb))) := st_fr gp nfx (ps_for hp c.calm hi hg hb hs)
theorem w_app (c : XC C X k) {i : Nat} {x : Str} {e : Expr} {ea : E} (he : PE X e (rdE C (evE cal ea))) (ho : PE X (.Name x p1) (tVar i)) (hbase : attributeBase (.Name x p1) "append" X.env (eval (.Name x p1) X.env) = eval (.Name x p1) X.env := by rfl)
    (hfew : ((backTo p3 (starEach [e] X.env)).all (fun x => !x.1) && (backToKw p3 (keywordEach [] X.env)).all (fun x => x.1.isSome) && decide ([e].length + ([] : List Keyword).length + (if ([] : List Keyword).isEmpty then 0 else 1) < 30)) = true := by rfl)
    (hline : (p2.endLine == p3.line) = true := by rfl) (hst : starEach [e] X.env = (false, eval e X.env) :: starEach [] X.env := by rfl) (hs : swapsWith (.Call (.Attribute (.Name x p1) "append" p2) [e] [] p3) none pos.line X.env = pure false := by rfl) :
    PS X (.Expr (.Call (.Attribute (.Name x p1) "append" p2) [e] [] p3) pos) (rdSt C (evS cal L (.app i ea))) :=
  st_app (ps_expr (PE.imp (pe_bm PySem.F.plainAttrs_list PySem.F.slot_list_append PySem.F.type_list_append mt_append ho (pa_cons (pe_opd he) pa_nil hst) hbase hfew hline hst (by rfl)) fun σ H Q q => by rw [← c.K]; exact q) hs)
theorem ps_or {o o' : TSet} (h : PSet X o) (h' : PSet X o') : PSet X fun a b c H Q => o a b c H Q ∨ o' a b c H Q := fun pins s σ H o i v ov iv u Q I ro ri rv q => q.elim (h pins s σ H o i v ov iv u Q I ro ri rv) (h' pins s σ H o i v ov iv u Q I ro ri rv)
theorem w_sto (c : XC C X k) {i : Nat} {x : Str} {ke e : Expr} {ek ea : E} (ho : PE X (.Name x p1) (tVar i)) (hk : PE X ke (rdE C (evE cal ek))) (he : PE X e (rdE C (evE cal ea)))
    (ha : ∀ v, assign (.Subscript (.Name x p1) ke p2) X.env v = (do
      let ov ← holding [v] (eval (.Name x p1) X.env)
      let iv ← holding [v, ov] (eval ke X.env)
      standAt p2
      holding [v, ov, iv] (setItem ov iv v)
      release [v, ov, iv] []) := by intro _; rfl)
    (hs : swapsWithSole [.Subscript (.Name x p1) ke p2] e pos.line X.env = pure false := by rfl) (hw : swappedStores [.Subscript (.Name x p1) ke p2] e X.env = pure none := by rfl)
    (h1 : (assignEach [.Subscript (.Name x p1) ke p2] X.env).map (·.2) = [assign (.Subscript (.Name x p1) ke p2) X.env] := by rfl) : PS X (.Assign [.Subscript (.Name x p1) ke p2] e pos) (rdSt C (evS cal L (.sto i ek ea))) :=
  st_sto (ps_asg he (pg_sub ho hk (ps_or set_list (set_dict (hu_of c.room))) ha) hs hw h1)
end

/-! ### a def's promise -/
noncomputable def fxOf (io : List Bool) (j : Nat) : Bool := io[j]?.getD false
theorem outsM_get : ∀ {io : List Bool} {m : List Slot} {j : Nat} {s : Slot}, (outsM io m)[j]? = some s → (io[j]? = some true ∧ m[j]? = some s) ∨ s = .no
  | [], m, j, s, h => by cases m <;> simp [outsM] at h
  | _ :: io, [], 0, s, h => .inr (by simpa [outsM] using h.symm)
  | _ :: io, [], j + 1, s, h => by
    rcases outsM_get (io := io) (m := []) (j := j) (s := s) (by simpa [outsM] using h) with h | h
    · simp at h
    · exact .inr h
  | true :: io, x :: m, 0, s, h => .inl ⟨rfl, h⟩
  | false :: io, x :: m, 0, s, h => .inr (by simpa [outsM] using h.symm)
  | true :: io, x :: m, j + 1, s, h => by
    rcases outsM_get (io := io) (m := m) (j := j) (s := s) h with h | h
    · exact .inl (by simpa using h)
    · exact .inr h
  | false :: io, x :: m, j + 1, s, h => by
    rcases outsM_get (io := io) (m := m) (j := j) (s := s) h with h | h
    · exact .inl (by simpa using h)
    · exact .inr h
theorem outsM_length : ∀ {io : List Bool} {m : List Slot}, (outsM io m).length = io.length
  | [], m => by cases m <;> rfl
  | b :: io, [] => congrArg Nat.succ (outsM_length (io := io) (m := []))
  | true :: io, x :: m => congrArg Nat.succ (outsM_length (io := io) (m := m))
  | false :: io, x :: m => congrArg Nat.succ (outsM_length (io := io) (m := m))
section
variable {G : Gm} {w : Wd}
theorem start_get {N : List Str} {vs : List V} {j : Nat} (h : j < vs.length) : (L2.start N vs)[j]? = (vs.map some)[j]? := by
  unfold L2.start
  rw [List.getElem?_append_left (by simpa using h)]
theorem outs_sr {io : List Bool} {N : List Str} {vs : List V} {m : List Slot} {σ : St} (S : SR G w m σ) (hf : ∀ j, fxOf io j = true → σ[j]? = (L2.start N vs)[j]?) (hl : io.length = vs.length) : SR G w (outsM io m) (vs.map some) := by
  have key : ∀ {j s}, (outsM io m)[j]? = some s → io[j]? = some true → σ[j]? = (vs.map some)[j]? := fun {j s} h e => by
    have lt : j < vs.length := by rw [← hl]; exact (List.getElem?_eq_some_iff.mp e).1
    rw [hf j (by unfold fxOf; rw [e]; rfl), start_get lt]
  refine ⟨by rw [outsM_length, List.length_map, hl], fun j s h => ?_, fun i j o o' a h1 h2 e1 e2 => ?_, S.sep, S.trk⟩
  · rcases outsM_get h with ⟨e, q⟩ | rfl
    · have := S.sl j s q
      rwa [key h e] at this
    · trivial
  · rcases outsM_get h1 with ⟨g1, q1⟩ | z
    · rcases outsM_get h2 with ⟨g2, q2⟩ | z
      · exact S.inj i j o o' a q1 q2 (by rw [key h1 g1]; exact e1) (by rw [key h2 g2]; exact e2)
      · cases z
    · cases z
theorem start_sr {N : List Str} {vs : List V} {args : List Slot} {n : Nat} (S : SR G w args (vs.map some)) (hn : n = N.length - vs.length) : SR G w (args ++ List.replicate n Slot.no) (L2.start N vs) := by
  have len : args.length = vs.length := by have := S.len; rwa [List.length_map] at this
  subst hn
  have key : ∀ {j s}, (args ++ List.replicate (N.length - vs.length) Slot.no)[j]? = some s → s = Slot.no ∨ (args[j]? = some s ∧ (L2.start N vs)[j]? = (vs.map some)[j]?) := fun {j s} h => by
    by_cases lt : j < args.length
    · rw [List.getElem?_append_left lt] at h
      exact .inr ⟨h, start_get (by omega)⟩
    · rw [List.getElem?_append_right (by omega), List.getElem?_replicate] at h
      split at h
      · cases h; exact .inl rfl
      · cases h
  refine ⟨?_, fun j s h => ?_, fun i j o o' a h1 h2 e1 e2 => ?_, S.sep, S.trk⟩
  · show _ = List.length (vs.map some ++ List.replicate (N.length - vs.length) none)
    rw [List.length_append, List.length_append, List.length_replicate, List.length_replicate, List.length_map, len]
  · rcases key h with rfl | ⟨q, e⟩
    · trivial
    · rw [e]; exact S.sl j s q
  · rcases key h1 with z | ⟨q1, g1⟩
    · cases z
    · rcases key h2 with z | ⟨q2, g2⟩
      · cases z
      · exact S.inj i j o o' a q1 q2 (by rw [← g1]; exact e1) (by rw [← g2]; exact e2)
end
/-- the def's body, in a context over k -/
noncomputable def BodyOk (G : Gm) (P : Program) (w : World) (K : PySem.W.Frag) (mg : Str → Option Value) (base : Heap) (N : List Str) (io : List Bool) (qual : Str) (scope : Scope) (f : Addr) (body : List Stmt) (k : Nat) (cal : Nat → List Slot → CRes) (L : Nat) (b : Ss) : Prop :=
  ∀ (cdv : Value) (A : Around) (outer : List Env) (s : Shared) (H : Hp) (E : XK) (C : Ct), C.G = G → C.fx = fxOf io → XC C (cxOf (L2.CX P w) P w K mg base N qual scope f cdv A outer s H E) k →
    PassesOwn (model P w) (cxOf (L2.CX P w) P w K mg base N qual scope f cdv A outer s H E).A (cxOf (L2.CX P w) P w K mg base N qual scope f cdv A outer s H E).env (cxOf (L2.CX P w) P w K mg base N qual scope f cdv A outer s H E).xe →
    PSs (cxOf (L2.CX P w) P w K mg base N qual scope f cdv A outer s H E) body (rdSt C (evSs cal L b))
theorem fn_ok {G : Gm} {P : Program} {w : World} {K : PySem.W.Frag} {mg : Str → Option Value} {base : Heap} {x qual : Str} {params : Arguments} {body : List Stmt} {scope : Scope} {dvs : List V} {kws : List (Str × V)} {fa : Addr} {fd : FuncData} {N ps : List Str} {k L f : Nat} {Γ : Nat → Option Def} {d : Def}
    (F : FunD K x qual params body scope dvs kws fa fd) (S : FnScope N ps scope) (hK : G.K = K) (hd : Γ f = some d) (hnp : d.np = ps.length) (hns : d.ns = N.length) (hio : d.io.length = ps.length) (hle : ps.length ≤ N.length)
    (B : BodyOk G P w K mg base N d.io qual scope fa body k (callF Γ L k) L d.body) : FnOk P w K mg base (L2.CX P w) (2 * (k + 1)) fa fd ps (spM G (callF Γ L (k + 1)) f) := by
  have run : ∀ args, callF Γ L (k + 1) f args = runD (callF Γ L k) L d args := fun args => by
    show (match Γ f with | some d => _ | none => _) = _
    rw [hd]
  have len : ∀ vs H Q E, spM G (callF Γ L (k + 1)) f vs H Q E → vs.length = ps.length := fun vs H Q E ⟨w0, args, e, S0, q⟩ => by
    rw [run] at q
    unfold runD at q
    have := S0.len
    rw [List.length_map] at this
    by_cases h : args.length = d.np
    · omega
    · rw [if_neg h] at q; exact q.elim
  refine F.ok (k := 2 * k + 1) S len fun cdv A outer s H vs Q E hr h => ?_
  have hl := len vs H Q E h
  obtain ⟨w0, args, e, S0, q⟩ := h
  rw [run] at q
  unfold runD at q
  by_cases hlen : args.length = d.np
  · rw [if_pos hlen] at q
    let C : Ct := ⟨G, w0, L2.start N vs, fxOf d.io, fun x m => ∀ w' cls dd, SR G w' (outsM d.io m) (vs.map some) → Ex w0 w' → RX G w' x cls dd → E cls dd w'.H⟩
    have S1 : SR G w0 (args ++ List.replicate (d.ns - d.np) .no) (L2.start N vs) := start_sr S0 (by rw [hns, hnp, hl])
    have outs : ∀ {w' : Wd} {m : List Slot} {σ' : St}, Pre C w' m σ' → SR G w' (outsM d.io m) (vs.map some) := fun {w' m σ'} P => outs_sr P.sr P.fix (by omega)
    have tk : Takes (cxOf (L2.CX P w) P w K mg base N qual scope fa cdv A outer s H E) (WM C) := Takes.imp (takes_of (E := E) rfl rfl rfl rfl) fun c dd σ H' ⟨w', m, x, e', P', rx, em⟩ => by
      subst e'
      exact em w' c dd (outs P') P'.ex rx
    have xc : XC C (cxOf (L2.CX P w) P w K mg base N qual scope fa cdv A outer s H E) k := ⟨hK, S.nd, rfl, hr, tk⟩
    refine ⟨_, B cdv A outer s H E C rfl rfl xc (passes_of rfl), w0, args ++ List.replicate (d.ns - d.np) .no, e, ⟨S1, .refl w0, fun _ _ => rfl⟩, ?_⟩
    cases hb : evSs (callF Γ L k) L d.body (args ++ List.replicate (d.ns - d.np) .no) with
    | no => rw [hb] at q; exact q.elim
    | bk m => rw [hb] at q; exact q.elim
    | ct m => rw [hb] at q; exact q.elim
    | nx m =>
      rw [hb] at q
      exact fun w' σ' P' x' => q w' .non (outs P') x' .non
    | ex x m =>
      rw [hb] at q
      exact fun w' cls dd S' x' rx => q w' cls dd S' x' rx
    | rt r m =>
      rw [hb] at q
      cases r with
      | fz t => exact fun w' σ' v P' x' rr => q w' v (outs P') x' rr
      | bo i => exact q.elim
      | ow o =>
        refine fun w' σ' v P' x' rr => q w' v (outs P') x' ?_
        obtain ⟨p, rfl, ro, l, n⟩ := rr
        refine ⟨p, rfl, ro, l, fun j o' hj z => ?_⟩
        rcases outsM_get hj with ⟨g, q'⟩ | g
        · have lt : j < vs.length := by have := (List.getElem?_eq_some_iff.mp g).1; omega
          refine n j o' q' ?_
          rw [P'.fix j (by show fxOf d.io j = true; unfold fxOf; rw [g]; rfl)]
          show (L2.start N vs)[j]? = _
          rw [start_get lt]
          exact z
        · cases g
  · rw [if_neg hlen] at q; exact q.elim
end Mi
set_option maxHeartbeats 1000000
namespace Mi
open PySem PySem.Spec PyProof.Rows L2

section
variable {G : Gm} {w w' : Wd} {m m' : List Slot} {σ : St}
theorem RFf.look {f : Str} {t : T} : ∀ {fs : List (Str × T)} {gs : List (Str × V)}, RFf G w fs gs → fs.lookup f = some t → ∃ v, gs.lookup f = some v ∧ RF G w t v
  | _, _, .nil, h => by cases h
  | _, _, .cons (k := k) (v := v) a b, h => by
    rw [List.lookup_cons] at h
    rw [List.lookup_cons]
    cases hb : f == k with
    | true =>
      rw [hb] at h
      cases h
      exact ⟨v, rfl, a⟩
    | false =>
      rw [hb] at h
      exact RFf.look b h
theorem RFf.lookN {f : Str} : ∀ {fs : List (Str × T)} {gs : List (Str × V)}, RFf G w fs gs → fs.lookup f = none → gs.lookup f = none
  | _, _, .nil, _ => rfl
  | _, _, .cons (k := k) a b, h => by
    rw [List.lookup_cons] at h
    rw [List.lookup_cons]
    cases hb : f == k with
    | true => rw [hb] at h; cases h
    | false => rw [hb] at h; exact RFf.lookN b h
theorem RFf.length : ∀ {fs : List (Str × T)} {gs : List (Str × V)}, RFf G w fs gs → fs.length = gs.length
  | _, _, .nil => rfl
  | _, _, .cons _ b => congrArg Nat.succ (RFf.length b)
theorem RFf.put {f : Str} {t : T} {v : V} (r : RF G w t v) : ∀ {fs : List (Str × T)} {gs : List (Str × V)}, RFf G w fs gs → RFf G w (putS f t fs) (putF f v gs)
  | _, _, .nil => .cons r .nil
  | _, _, .cons (k := k) a b => by
    unfold putS putF
    by_cases e : k = f
    · rw [if_pos e, if_pos e]; exact .cons r b
    · rw [if_neg e, if_neg e]; exact .cons a (RFf.put r b)
end
theorem spM_weak {G : Gm} {cal : Nat → List Slot → CRes} {f : Nat} {vs : List V} {H : Hp} {Q : VK} {E E' : XK} (h : spM G cal f vs H Q E) (i : ∀ c d H, E c d H → E' c d H) : spM G cal f vs H Q E' := by
  obtain ⟨w, args, e, S, q⟩ := h
  refine ⟨w, args, e, S, ?_⟩
  cases hc : cal f args with
  | ok r outs => rw [hc] at q; exact q
  | ex x outs => rw [hc] at q; exact fun w' c d s x' r => i _ _ _ (q w' c d s x' r)
  | no => rw [hc] at q; exact q
noncomputable abbrev EF : XK := fun _ _ _ => False
noncomputable def Ct.quiet (C : Ct) : Ct := ⟨C.G, C.w0, C.s0, C.fx, fun _ _ => False⟩
theorem Pre.quiet {C : Ct} {w : Wd} {m : List Slot} {σ : St} (p : Pre C w m σ) : Pre C.quiet w m σ := ⟨p.sr, p.ex, p.fix⟩
section
variable {C : Ct} {X : Cx} {cal : Nat → List Slot → CRes} {L : Nat}
/-- a call that lets nothing out -/
theorem call_quiet {f : Nat} {io : List Bool} {ds : List Opd} {vs : List V} {w : Wd} {m : List Slot} {σ : St} {Q : VK} (P : Pre C w m σ) (r : RDs C.G w σ ds vs)
    (h : (callR cal f io ds m).calm.sat (fun r m' => ∀ w' v, SR C.G w' m' σ → Ex w w' → RR C.G w' m' σ r v → Q v w'.H) C.EM) : spM C.G cal f vs w.H Q EF :=
  spM_weak (call_core (C := C.quiet) P.quiet r (Res.sat_calm h)) fun c d H ⟨_, _, _, _, _, _, z⟩ => z
theorem n_fld {ex ea : Expr} {c : Nat} {a : E} {f : Str} (hp : ∀ ta, PE X ea ta → PE X ex (tFld C.G.K ta f)) (hc : Cls C.G.K (C.G.cls c)) (hn : NoAttr C.G.K (C.G.cls c) f) (ha : PE X ea (rdE C (evE cal a))) : PE X ex (rdE C (evE cal (.fld c a f))) :=
  PE.imp (hp _ (pe_opd ha)) fun σ H Q ⟨w, m, e, P, q⟩ => by
  rw [evE, Res.sat_bind] at q
  refine ⟨w, m, e, P, ?_⟩
  rw [opdF, Res.sat_bind]
  refine Res.sat_mono q fun r m1 q1 w1 v S1 x1 r1 => ?_
  split at q1
  · rename_i c' fs hd
    split at q1
    · rename_i hcc
      subst hcc
      cases hl : fs.lookup f with
      | none => rw [hl] at q1; exact q1.elim
      | some t =>
        rw [hl] at q1
        obtain ⟨p, dx, gs, rfl, h1, h2⟩ := (S1.der r1 hd).ins
        obtain ⟨u, h3, h4⟩ := h2.look hl
        exact ⟨p, _, dx, gs, u, rfl, h1, hc, hn, h3, q1 w1 u S1 x1 h4⟩
    · exact q1.elim
  · exact q1.elim
theorem n_prop {ex ea : Expr} {c f : Nat} {a : E} (hp : ∀ ta, PE X ea ta → PE X ex (tProp (C.G.cls c) (spM C.G cal f) [] EF ta)) (ha : PE X ea (rdE C (evE cal a))) : PE X ex (rdE C (evE cal (.prop c f a))) :=
  PE.imp (hp _ (pe_opd ha)) fun σ H Q ⟨w, m, e, P, q⟩ => by
  rw [evE, Res.sat_bind] at q
  refine ⟨w, m, e, P, ?_⟩
  rw [opdF, Res.sat_bind]
  refine Res.sat_mono q fun r m1 q1 w1 v1 S1 x1 r1 => ?_
  split at q1
  · rename_i c' fs hd
    split at q1
    · rename_i hcc
      subst hcc
      obtain ⟨p, dx, gs, rfl, h1, h2⟩ := (S1.der r1 hd).ins
      refine ⟨p, dx, gs, rfl, h1, ?_⟩
      exact call_quiet (P.step S1 x1) (.cons r1 .nil) (Res.sat_mono q1 fun r m2 k w' v S' x' rr => k w' v S' (x1.trans x') rr)
    · exact q1.elim
  · exact q1.elim
/-- a new instance, its arguments in the order of the parameters -/
noncomputable def tMkP (C : Addr) (sp : Sp) (pmv : List V → List V) (E : XK) (t : TA) : TE := fun σ H Q => t σ H fun vs H1 => ∀ x dx, H1 x = none → H1 dx = none → dx ≠ x → sp (.ref x :: pmv vs) (upd (upd H1 dx (.own x)) x (.ins C dx [])) (fun v H2 => v = .non ∧ Q (.ref x) H2) E
theorem rd_mk0 {c f : Nat} {pm : List Nat} {es : Es} {pmv : List V → List V} (hpm : ∀ {w : Wd} {ts : List T} {vs : List V}, RFs C.G w ts vs → RFs C.G w (pmT pm ts) (pmv vs)) {σ : St} {H : Hp} {Q : VK} (q : rdE C (evE cal (.mk c f pm es)) σ H Q) : tMkP (C.G.cls c) (spM C.G cal f) pmv EF (rdDs C (evDs cal es)) σ H Q := by
  obtain ⟨w, m, e, P, q⟩ := q
  rw [evE, Res.sat_bind] at q
  refine ⟨w, m, e, P, Res.sat_mono q fun ds m1 q1 w1 vs0 S1 x1 r1 x dx hx hdx hne => ?_⟩
  cases h1 : escs m1 ds with
  | none => rw [h1] at q1; exact q1.elim
  | some pr =>
    obtain ⟨ts0, m2⟩ := pr
    rw [h1] at q1
    simp only at q1
    obtain ⟨w2, e2, S2, x2, r20⟩ := SR.escs S1 r1 h1
    have r2 := hpm r20
    generalize pmT pm ts0 = ts at r2 q1
    generalize pmv vs0 = vs at r2
    have hx2 : w2.H x = none := by rw [e2]; exact hx
    have hdx2 : w2.H dx = none := by rw [e2]; exact hdx
    split at q1
    · rename_i o outs hcal
      let wA : Wd := ⟨w2.F, w2.L, upd w2.H dx (.own x)⟩
      have moA : Mo w2 wA := ⟨fun _ z => z, fun a fa => by
        obtain ⟨u, hu⟩ := S2.trk a fa
        exact .inl (hu.trans (upd_trk hdx2 hu).symm)⟩
      have exA : Ex w2 wA := ⟨moA.fz, moA.kp, fun a u g1 g2 g3 => ⟨upd_trk hdx2 g1, g2, g3⟩⟩
      have SA : SR C.G wA m2 σ := S2.grow moA (fun a l => ⟨l, fun ⟨u, hu⟩ => (upd_trk hdx2 hu).trans hu.symm⟩) S2.sep fun a fa => by
        obtain ⟨u, hu⟩ := S2.trk a fa
        exact ⟨u, upd_trk hdx2 hu⟩
      have hxA : wA.H x = none := (upd_ne (fun z => hne z.symm)).trans hx2
      have S5 : SR C.G (wA.new x (.ins (C.G.cls c) dx [])) m2 σ := SA.new hxA
      have x5 : Ex w2 (wA.new x (.ins (C.G.cls c) dx [])) := exA.trans (Ex.new SA.trk hxA)
      have xoff : Off m2 σ x := fun j o' hj z => by
        obtain ⟨a, ea, ro, _⟩ := S2.sl j _ hj
        rw [z] at ea
        cases ea
        obtain ⟨u, hu⟩ := ro.trk
        rw [hx2] at hu
        cases hu
      have r5 : RFs C.G (wA.new x (.ins (C.G.cls c) dx [])) ts vs := RFs.mono x5.mo r2
      have ow0 : ∀ {k : Nat} {o' : O}, (Slot.ow (.ins c []) :: ts.map Slot.fz)[k]? = some (.ow o') → k = 0 := fun {k o'} hk => by
        cases k with
        | zero => rfl
        | succ k =>
          rw [List.getElem?_cons_succ, List.getElem?_map] at hk
          cases ht : ts[k]? with
          | none => rw [ht] at hk; cases hk
          | some t => rw [ht] at hk; cases hk
      have pq : PQ C.G (wA.new x (.ins (C.G.cls c) dx [])) m2 σ (.ow (.ins c []) :: ts.map .fz) (.ref x :: vs) := by
        refine ⟨by simp [r2.length], fun k s hk => ?_, fun k l o1 o2 a h1 h2 _ _ => by rw [ow0 h1, ow0 h2], fun k o1 a hk z => ?_⟩
        · cases k with
          | zero =>
            cases hk
            exact ⟨x, rfl, .ins upd_same .nil, .inr rfl⟩
          | succ k =>
            rw [List.getElem?_cons_succ, List.getElem?_map] at hk
            cases ht : ts[k]? with
            | none => rw [ht] at hk; cases hk
            | some t =>
              rw [ht] at hk
              cases hk
              obtain ⟨v, hv, rv⟩ := r5.get ht
              exact ⟨v, by rw [List.getElem?_cons_succ, hv]; rfl, rv⟩
        · have := ow0 hk
          subst this
          cases z
          exact xoff
      have hH : (callW (wA.new x (.ins (C.G.cls c) dx [])) (.ow (.ins c []) :: ts.map .fz) (.ref x :: vs)).H = upd (upd w1.H dx (.own x)) x (.ins (C.G.cls c) dx []) := by
        show upd (upd w2.H dx (.own x)) x _ = _
        rw [e2]
      refine ⟨_, _, hH, pq.call S5, ?_⟩
      rw [hcal]
      intro w' v S' x' rr
      have S3 := call_back pq S5 x' S'
      have x3 := call_ex pq x'
      obtain ⟨a, ea, ro, la⟩ := S'.sl 0 _ rfl
      have ea' : a = x := by
        have : (some (some (V.ref x)) : Option (Option V)) = some (some (.ref a)) := ea
        cases this
        rfl
      subst ea'
      refine ⟨by cases rr; rfl, ?_⟩
      have mo5 : Mo w' (backW (wA.new a (.ins (C.G.cls c) dx [])) w' (.ow (.ins c []) :: ts.map .fz) (.ref a :: vs)) := mo_same rfl rfl
      exact q1 (backW (wA.new a (.ins (C.G.cls c) dx [])) w' (.ow (.ins c []) :: ts.map .fz) (.ref a :: vs)) (.ref a) S3 (x1.trans (x2.trans (x5.trans x3))) ⟨a, rfl, ro.mono mo5 rfl, .inr la, call_off pq S5 x' la⟩
    · exact q1.elim
theorem n_mk0 {ex : Expr} {c f : Nat} {pm : List Nat} {es : Es} {pmv : List V → List V} (hpm : ∀ {w : Wd} {ts : List T} {vs : List V}, RFs C.G w ts vs → RFs C.G w (pmT pm ts) (pmv vs)) (hp : PE X ex (tMkP (C.G.cls c) (spM C.G cal f) pmv EF (rdDs C (evDs cal es)))) : PE X ex (rdE C (evE cal (.mk c f pm es))) :=
  PE.imp hp fun σ H Q q => rd_mk0 hpm q
theorem st_stf {st : Stmt} {i c : Nat} {f : Str} {e : E} (hc : Cls C.G.K (C.G.cls c)) (hn : NoAttr C.G.K (C.G.cls c) f) (h : PS X st (sFld C.G.K (tVar i) (rdD C (opdF (evE cal e))) f)) : PS X st (rdSt C (evS cal L (.stf i c f e))) := PS.imp h fun D σ H ⟨w, m, eH, P, q⟩ => by
  rw [evS, FSat_ofR] at q
  refine ⟨w, m, eH, P, ?_⟩
  rw [opdF, Res.sat_bind]
  refine Res.sat_mono q fun r m1 q1 w1 v S1 x1 r1 => ?_
  cases h1 : esc m1 r.opd with
  | none => rw [h1] at q1; exact q1.elim
  | some pr =>
    obtain ⟨t, m2⟩ := pr
    rw [h1] at q1
    simp only at q1
    obtain ⟨w2, e2, S2, x2, r2⟩ := S1.esc r1 h1
    cases h2 : m2[i]? with
    | none => rw [h2] at q1; exact q1.elim
    | some s =>
      rw [h2] at q1
      have sl := S2.sl i s h2
      cases s with
      | no => exact q1.elim
      | fz t => exact q1.elim
      | ow o =>
        cases o with
        | lst k => exact q1.elim
        | dic k => exact q1.elim
        | ins c' fs =>
          obtain ⟨a, ea, ro, la⟩ := sl
          simp only at q1
          split at q1
          · rename_i hcc
            obtain ⟨rfl, hlt⟩ := hcc
            obtain ⟨dx, gs, hv, rs⟩ := ro.ins_inv
            have nf := S2.sep a la
            obtain ⟨S3, x3⟩ := S2.write (u := .ins (C.G.cls c') dx (putF f v gs)) (o' := .ins c' (putS f t fs)) h2 ea (.ins upd_same (RFf.mono (Mo.poke nf) (RFf.put r2 rs)))
            refine ⟨_, ea, a, _, dx, gs, rfl, by rw [← e2]; exact hv, hc, hn, by rw [← rs.length]; exact hlt, ?_⟩
            rw [← e2]
            exact q1 (w2.wr a (.ins (C.G.cls c') dx (putF f v gs))) σ (P.step S3 (x1.trans (x2.trans x3))) (x1.trans (x2.trans x3))
          · exact q1.elim
theorem st_nev {st : Stmt} : PS X st (rdSt C (evS cal L .nev)) := PS.imp ps_never fun D σ H ⟨w, m, eH, P, q⟩ => by
  rw [evS] at q
  exact q
end
end Mi
set_option maxHeartbeats 2000000
namespace MiP
open PySem PySem.Spec PyProof.Rows
section
variable {prog : Program} {w : World} {A : Around} {E : Value → Shared → Prop} {s : Shared} {K : PySem.W.Frag} {x C f : Addr} {ox : Obj} {od : Option Obj} {v t : Value}
/-- the right one is no other kind of the left one's class -/
noncomputable def Beside (K : PySem.W.Frag) (C : Addr) (t : Value) : Prop := t = .ref C ∨ PySem.W.subIn K t (.ref C) = some false
theorem own_eq {Q : Value → Shared → Prop} (hu : A.units < cLine) (X : K.In s.heap) (I : PySem.W.InstAt s.heap x ox C od) (hs : PySem.W.findIn K (.ref C) "__eq__" = some (some (.ref f))) (hf : PySem.W.isFn K (.ref f) = true)
    (ht : ∀ M, PySem.W.Looks M s.heap (typeOf v) t) (hb : Beside K C t) (h : wpAny (model prog w) A (call (.ref f) [.ref x, v]) (fun r s' => ∃ b, r = .bool b ∧ Q (.bool b) s') E s) : wpAny (model prog w) A (richCompare .Eq (.ref x) v) Q E s := by
  have one : wpAny (model prog w) A (tryCompare (.ref x) "__eq__" v) (fun r s' => ∃ b, r = some (.bool b) ∧ Q (.bool b) s') E s := by
    unfold tryCompare
    refine wpAny_bind (PySem.W.ifBound_K X I hs hf (wpAny_mono h (fun r s' hr => ?_) fun _ _ e => e))
    obtain ⟨b, rfl, q⟩ := hr
    exact wpAny_pure ⟨b, rfl, q⟩
  have two : ∀ k : Option Value → Sem Value, (∀ b s', Q (.bool b) s' → wpAny (model prog w) A (k (some (.bool b))) Q E s') → wpAny (model prog w) A (tryCompare (.ref x) "__eq__" v >>= k) Q E s := fun k hk =>
    wpAny_bind (wpAny_mono one (fun r s' hr => by
      obtain ⟨b, rfl, q⟩ := hr
      exact hk b s' q) fun _ _ e => e)
  simp only [richCompare, cmpInfo_Eq, oneThing_ref]
  refine wpAny_holding (wpAny_bind (wpAny_cRoomFor hu ?_))
  refine wpAny_bind (I.type.here ?_)
  refine wpAny_bind ((ht _).here ?_)
  split
  · rename_i hne
    have hb2 : PySem.W.subIn K t (.ref C) = some false := hb.resolve_left fun e => by
      subst e
      simp at hne
    refine wpAny_bind ((PySem.W.looks_subIn X hb2).here ?_)
    simp only [Bool.false_eq_true, if_false]
    exact two _ fun b s' q => wpAny_pure q
  · refine wpAny_bind (wpAny_pure ?_)
    simp only [Bool.false_eq_true, if_false]
    exact two _ fun b s' q => wpAny_pure q
theorem ne_entry {Q : Fin → Shared → Prop} (hu : A.units < cLine) (X : K.In s.heap) (I : PySem.W.InstAt s.heap x ox C od) (hs : PySem.W.findIn K (.ref C) "__eq__" = some (some (.ref f))) (hf : PySem.W.isFn K (.ref f) = true)
    (h : wpAny (model prog w) A (call (.ref f) [.ref x, v]) (fun r s' => ∃ b, r = .bool b ∧ Q (.done (.ret (.bool (!b)))) s') E s) : wpAny (model prog w) A (Builtin.«object.__ne__» ⟨[.ref x, v], []⟩) Q E s := by
  unfold Builtin.«object.__ne__»
  repeat (first
    | with_reducible refine wpAny_cRoomFor hu ?_
    | (refine wpAny_bind (m := callSpecialIfBound? (.ref x) (Str.ofString "__eq__") [v])
        (PySem.W.ifBound_K X I hs hf (wpAny_mono h (fun r s' hr => by
          obtain ⟨b, rfl, hq⟩ := hr
          repeat (first | exact hq | exact wpAny_pure hq | exact wpAny_truthy_bool hq | (refine wpAny_bind (m := truthy (.bool _)) (wpAny_truthy_bool ?_)) | wp_step)) fun _ _ e => e)))
    | wp_step)
theorem ifBound_objNe {M : Model} {args : List Value} {Q : Option Value → Shared → Prop} (X : K.In s.heap) (I : PySem.W.InstAt s.heap x ox C od) (hs : PySem.W.findIn K (.ref C) "__ne__" = some (some (.builtin "object.__ne__")))
    (h : wpAny M A (call (.builtin "object.__ne__") (.ref x :: args)) (fun v => Q (some v)) E s) : wpAny M A (callSpecialIfBound? (.ref x) "__ne__" args) Q E s := by
  simp only [callSpecialIfBound?, bindSpecialIfBound?]
  refine wpAny_holding (wpAny_bind (wpAny_bind (wpAny_bind (I.type.here ((PySem.W.looks_findIn X hs).here ?_)))))
  refine wpAny_bind (wpAny_askSetting (wpAny_ite ?_))
  have fin' : wpAny M A (call (.builtin "object.__ne__") ([.ref x] ++ args) >>= fun v => pure (some v)) Q E s := wpAny_bind (wpAny_mono h (fun v s' h' => wpAny_pure h') fun _ _ h' => h')
  split
  · refine wpAny_bind (wpAny_of_eq (F.cmp_object.ne.bind _) (wpAny_pure ?_)); exact fin'
  · refine wpAny_tryCatch (wpAny_bind (wpAny_of_eq (F.cmp_object.ne.bind _) (wpAny_pure ?_))); exact fin'
theorem own_ne {Q : Value → Shared → Prop} (hu : A.units + 1 < cLine) (X : K.In s.heap) (I : PySem.W.InstAt s.heap x ox C od) (hs : PySem.W.findIn K (.ref C) "__eq__" = some (some (.ref f))) (hf : PySem.W.isFn K (.ref f) = true)
    (hn : PySem.W.findIn K (.ref C) "__ne__" = some (some (.builtin "object.__ne__"))) (hm : PySem.W.mroIn K C (.type "object") = some true)
    (ht : ∀ M, PySem.W.Looks M s.heap (typeOf v) t) (hb : Beside K C t) (h : wpAny (model prog w) A.in1 (call (.ref f) [.ref x, v]) (fun r s' => ∃ b, r = .bool b ∧ Q (.bool (!b)) s') E s) : wpAny (model prog w) A (richCompare .NotEq (.ref x) v) Q E s := by
  have one : wpAny (model prog w) A (tryCompare (.ref x) "__ne__" v) (fun r s' => ∃ b, r = some (.bool b) ∧ Q (.bool b) s') E s := by
    unfold tryCompare
    refine wpAny_bind (ifBound_objNe X I hn (wpAny_call (codeAny_call_builtin F.cmp_object.ne.plain F.cmpEntry_ne (PySem.W.check_slot F.cmpKind_ne F.cmpSplit_ne (I.type.andThen (PySem.W.looks_mroIn X hm)) (F.cmpArgs_ne _ _)
      (ne_entry (A := A.in1) hu X I hs hf (wpAny_mono h (fun r s' hr => ?_) fun _ _ e => e))))))
    obtain ⟨b, rfl, q⟩ := hr
    exact ⟨b, rfl, wpAny_pure ⟨_, rfl, q⟩⟩
  have two : ∀ k : Option Value → Sem Value, (∀ b s', Q (.bool b) s' → wpAny (model prog w) A (k (some (.bool b))) Q E s') → wpAny (model prog w) A (tryCompare (.ref x) "__ne__" v >>= k) Q E s := fun k hk =>
    wpAny_bind (wpAny_mono one (fun r s' hr => by
      obtain ⟨b, rfl, q⟩ := hr
      exact hk b s' q) fun _ _ e => e)
  simp only [richCompare, cmpInfo_NotEq, oneThing_ref]
  refine wpAny_holding (wpAny_bind (wpAny_cRoomFor (Nat.lt_of_succ_lt hu) ?_))
  refine wpAny_bind (I.type.here ?_)
  refine wpAny_bind ((ht _).here ?_)
  split
  · rename_i hne
    have hb2 : PySem.W.subIn K t (.ref C) = some false := hb.resolve_left fun e => by
      subst e
      simp at hne
    refine wpAny_bind ((PySem.W.looks_subIn X hb2).here ?_)
    simp only [Bool.false_eq_true, if_false]
    exact two _ fun b s' q => wpAny_pure q
  · refine wpAny_bind (wpAny_pure ?_)
    simp only [Bool.false_eq_true, if_false]
    exact two _ fun b s' q => wpAny_pure q
end
end MiP

namespace Mi
open PySem PySem.Spec PyProof.Rows L2
/-- what the text's class must have, for isinstance and == -/
structure ClX (K : PySem.W.Frag) (C : Addr) : Prop where
  cl : Cls K C
  ha : PySem.W.findIn K (.ref C) "__class__" = some (some (.builtin "object.__class__"))
  hn : PySem.W.specialIn K (.builtin "object.__class__") "__get__" = some (some (.builtin "getset_descriptor.__get__"))
  htk : PySem.W.takesIn K (.builtin "object.__class__") = some true
  hm : PySem.W.mroIn K C (.type "object") = some true
theorem passEF {X : Cx} : Passes (L2.CX X.prog X.w) X EF := fun _ _ _ _ _ _ _ h => by
  obtain ⟨_, _, _, _, _, _, _, _, _, _, _, _, z⟩ := h
  exact z.elim
section
variable {X : Cx} {k : Nat} {f C : Addr} {fd : FuncData} {ps : List Str} {sp : Sp}
/-- a call one level into a builtin -/
theorem run_fn1 {CX : CXT} {E : XK} {pins : List (Addr × Obj)} {σ : St} {H : Hp} {s : Shared} {Q : VK} {us : List Value} {vs : List V} (F : FnOk X.prog X.w X.K X.mg X.base CX k f fd ps sp) (hr : Room (k + 1) X.A) (hb : Binds X.K fd ps []) (hx : Passes CX X E)
    (I : Inv X pins σ H s) (r : Vals vs us) (h : sp vs H Q E) : wpAny (model X.prog X.w) X.A.in1 (call (.ref f) us) (EP X pins σ Q) X.xe s := by
  have hl : us.length = ps.length := by rw [← r.length]; exact F.len _ _ _ _ h
  have b := hb s us I.kIn (by rw [List.append_nil]; exact hl)
  rw [List.append_nil] at b
  refine wpAny_call (codeAny_mono (F.run X.A.in1 X.stack s H ⟨us, []⟩ us vs Q E hr.in1 I.env0.in1 b r h) fun r s' hq => ?_)
  cases r with
  | error e => exact hx pins σ H s e s' I hq
  | ok fl =>
    cases fl with
    | ret u => exact I.after hq
    | next => exact False.elim hq
    | brk => exact False.elim hq
    | cont => exact False.elim hq
noncomputable def rOwn (K : PySem.W.Frag) (C : Addr) (sp : Sp) (neg : Bool) : R2 := fun x y H Q => ∃ a dx fs t, x = .ref a ∧ H a = some (.ins C dx fs) ∧ TyX K H y t ∧ MiP.Beside K C t ∧ sp [x, y] H (fun v H' => ∃ b, v = .bl b ∧ Q (.bl (if neg = true then !b else b)) H') EF
theorem op_ownEq (hm : Meth X.K C "__eq__" f) (F : FnOk X.prog X.w X.K X.mg X.base (L2.CX X.prog X.w) k f fd ps sp) (hr : Room k X.A) (hb : Binds X.K fd ps []) : OpR X (compareOp .Eq) (rOwn X.K C sp false) := by
  intro pins s σ H x y v u Q I rx ry h
  obtain ⟨a, dx, fs, t, rfl, ea, ty, bs, q⟩ := h
  have rx' := rx
  cases rx
  obtain ⟨mA, O, _⟩ := ins_get I.hok ea
  obtain ⟨od, J, _⟩ := O.look
  obtain ⟨P, Z, p, _⟩ := kit_of I ry ty
  have hu : X.A.units < cLine := by have := hr.un; omega
  refine PySem.W.cmp_ofEq (MiP.own_eq hu I.kIn J hm.at_ hm.fn (fun M => Z.ty M _ I.kIn p) bs (thn (run_fn (dvs := []) (ds := []) F hr hb .nil passEF I (.cons rx' (.cons ry .nil)) (by rw [List.append_nil]; exact q)) fun r s' hh => ?_))
  obtain ⟨v', H', I', rv, b, e, q'⟩ := hh
  subst e
  cases rv
  exact ⟨b, rfl, .bl b, H', I', rfl, q'⟩
theorem op_ownNe (hm : Meth X.K C "__eq__" f) (hn : PySem.W.findIn X.K (.ref C) "__ne__" = some (some (.builtin "object.__ne__"))) (ho : PySem.W.mroIn X.K C (.type "object") = some true) (F : FnOk X.prog X.w X.K X.mg X.base (L2.CX X.prog X.w) k f fd ps sp) (hr : Room (k + 1) X.A) (hb : Binds X.K fd ps []) : OpR X (compareOp .NotEq) (rOwn X.K C sp true) := by
  intro pins s σ H x y v u Q I rx ry h
  obtain ⟨a, dx, fs, t, rfl, ea, ty, bs, q⟩ := h
  have rx' := rx
  cases rx
  obtain ⟨mA, O, _⟩ := ins_get I.hok ea
  obtain ⟨od, J, _⟩ := O.look
  obtain ⟨P, Z, p, _⟩ := kit_of I ry ty
  have hu : X.A.units + 1 < cLine := by have := hr.un; omega
  refine PySem.W.cmp_ofNotEq (MiP.own_ne hu I.kIn J hm.at_ hm.fn hn ho (fun M => Z.ty M _ I.kIn p) bs (thn (run_fn1 F hr hb passEF I (.cons rx' (.cons ry .nil)) q) fun r s' hh => ?_))
  obtain ⟨v', H', I', rv, b, e, q'⟩ := hh
  subst e
  cases rv
  exact ⟨b, rfl, .bl (!b), H', I', rfl, q'⟩
end
section
variable {G : Gm}
theorem sub_ty {K : PySem.W.Frag} {C : Addr} {n : String} {l : List Value} (e : fastBuiltinMro n = some l) (h : l.contains (.ref C) = false) : PySem.W.subIn K (.type n) (.ref C) = some false := by
  show (fastBuiltinMro n).map (·.contains (.ref C)) = some false
  rw [e]
  show some (l.contains (.ref C)) = some false
  rw [h]
theorem beside_ty {K : PySem.W.Frag} {C : Addr} {t : T} (h : ∀ c fs, t ≠ .ins c fs) : MiP.Beside K C (.type (tyT t)) := by
  have go : ∀ {n : String} {l : List Value}, fastBuiltinMro n = some l → (∀ x ∈ l, ∀ C, x ≠ .ref C) → MiP.Beside K C (.type n) := fun {n l} e hl => .inr (sub_ty e (by
    rw [List.contains_eq_any_beq, List.any_eq_false]
    intro x hx
    simpa using fun z => hl x hx C z.symm))
  cases t with
  | ins c fs => exact absurd rfl (h c fs)
  | non => exact go (n := "NoneType") (l := [.type "NoneType", .type "object"]) (by decide +kernel) (by simp)
  | bl b => exact go (n := "bool") (l := [.type "bool", .type "int", .type "object"]) (by decide +kernel) (by simp)
  | int i => exact go (n := "int") (l := [.type "int", .type "object"]) (by decide +kernel) (by simp)
  | str s => exact go (n := "str") (l := [.type "str", .type "object"]) (by decide +kernel) (by simp)
  | lst xs => exact go (n := "list") (l := [.type "list", .type "object"]) (by decide +kernel) (by simp)
  | tup xs => exact go (n := "tuple") (l := [.type "tuple", .type "object"]) (by decide +kernel) (by simp)
  | dic xs => exact go (n := "dict") (l := [.type "dict", .type "object"]) (by decide +kernel) (by simp)
  | scr xs => exact go (n := "list") (l := [.type "list", .type "object"]) (by decide +kernel) (by simp)
theorem beside_of {w : Wd} {c : Nat} {t : T} {v : V} (cx : ClX G.K (G.cls c)) (r : RA G w t v) (h : besideT c (some t) = true) : ∃ ty, TyX G.K w.H v ty ∧ MiP.Beside G.K (G.cls c) ty := by
  by_cases hi : ∃ c' fs, t = .ins c' fs
  · obtain ⟨c', fs, rfl⟩ := hi
    have e : c' = c := of_decide_eq_true h
    subst e
    obtain ⟨a, dx, gs, rfl, h1, _⟩ := r.ins
    exact ⟨.ref (G.cls c'), .base (.ins h1 cx.cl cx.ha cx.hn cx.htk cx.hm), .inl rfl⟩
  · have nt : ∀ c fs, t ≠ .ins c fs := fun c' fs e => hi ⟨c', fs, e⟩
    exact ⟨_, r.ty nt, beside_ty nt⟩
end
section
variable {C : Ct} {X : Cx} {cal : Nat → List Slot → CRes}
theorem rd_ceq {neg : Bool} {c f : Nat} {a b : E} {r : R2} {σ : St} {H : Hp} {Q : VK} (cx : ClX C.G.K (C.G.cls c)) (ok : OpOk2 C.G (if neg = true then .ne else .eq) r) (h : rdE C (evE cal (.ceq neg c f a b)) σ H Q) :
    tOp (fun x y H Q => rOwn C.G.K (C.G.cls c) (spM C.G cal f) neg x y H Q ∨ r x y H Q) (rdD C (opdF (evE cal a))) (rdD C (opdF (evE cal b))) σ H Q := by
  obtain ⟨w, m, e, P, q⟩ := h
  rw [evE, Res.sat_bind] at q
  refine ⟨w, m, e, P, ?_⟩
  rw [opdF, Res.sat_bind]
  refine Res.sat_mono q fun ra m1 q1 w1 v1 S1 x1 r1 => ?_
  rw [Res.sat_bind] at q1
  refine ⟨w1, m1, rfl, P.step S1 x1, ?_⟩
  rw [opdF, Res.sat_bind]
  refine Res.sat_mono q1 fun rb m2 q2 w2 v2 S2 x2 r2 => ?_
  split at q2
  · rename_i c' fs hd
    split at q2
    · rename_i hcc
      obtain ⟨rfl, hbs⟩ := hcc
      obtain ⟨p, dx, gs, rfl, h1, h2⟩ := (S2.der (r1.mono x2.mo) hd).ins
      cases hd2 : der m2 rb.opd with
      | none => rw [hd2] at hbs; cases hbs
      | some t2 =>
        rw [hd2] at hbs
        obtain ⟨ty, g1, g2⟩ := beside_of cx (S2.der r2 hd2) hbs
        refine .inl ⟨p, dx, gs, ty, rfl, h1, g1, g2, ?_⟩
        rw [Res.sat_bind] at q2
        refine call_quiet ((P.step S1 x1).step S2 x2) (.cons (r1.mono x2.mo) (.cons r2 .nil)) (Res.sat_mono q2 fun r m3 q3 w3 v3 S3 x3 r3 => ?_)
        cases r with
        | ow o => exact q3.elim
        | bo k => exact q3.elim
        | fz t =>
          cases t <;> try (exact q3.elim)
          case bl k =>
            cases r3
            exact ⟨k, rfl, q3 w3 _ S3 (x1.trans (x2.trans x3)) (.bl _)⟩
    · exact q2.elim
  · obtain ⟨ts, res, h1, h2, h3⟩ := opR_sat q2
    obtain ⟨t1, t2, rfl, g1, g2⟩ := ders2 h1
    exact .inr (ok w2 m2 σ t1 t2 v1 v2 res Q S2 (S2.der (r1.mono x2.mo) g1) (S2.der r2 g2) h2 fun w' v S' x' r' => h3 w' v S' (x1.trans (x2.trans x')) r')
theorem n_ceq {ex ea eb : Expr} {neg : Bool} {c f : Nat} {a b : E} {r : R2} (hp : ∀ ta tb, PE X ea ta → PE X eb tb → PE X ex (tOp (fun x y H Q => rOwn C.G.K (C.G.cls c) (spM C.G cal f) neg x y H Q ∨ r x y H Q) ta tb)) (cx : ClX C.G.K (C.G.cls c)) (ok : OpOk2 C.G (if neg = true then .ne else .eq) r)
    (ha : PE X ea (rdE C (evE cal a))) (hb : PE X eb (rdE C (evE cal b))) : PE X ex (rdE C (evE cal (.ceq neg c f a b))) := PE.imp (hp _ _ (pe_opd ha) (pe_opd hb)) fun σ H Q q => rd_ceq cx ok q
theorem t_ceq {ex ea eb : Expr} {neg : Bool} {c f : Nat} {a b : E} {r : R2} (hp : ∀ ta tb, PE X ea ta → PE X eb tb → PT X ex (tTest (tOp (fun x y H Q => rOwn C.G.K (C.G.cls c) (spM C.G cal f) neg x y H Q ∨ r x y H Q) ta tb))) (cx : ClX C.G.K (C.G.cls c)) (ok : OpOk2 C.G (if neg = true then .ne else .eq) r)
    (ha : PE X ea (rdE C (evE cal a))) (hb : PE X eb (rdE C (evE cal b))) : PT X ex (rdB C (evE cal (.ceq neg c f a b))) := PT.imp (hp _ _ (pe_opd ha) (pe_opd hb)) fun σ H Q q => rd_ceq cx ok (rd_bool q)
end
end Mi
set_option maxHeartbeats 1000000
namespace Mi
open PySem PySem.Spec PyProof.Rows L2
/-! ### sorted lists of ints -/
theorem insS_perm (a : Int) : ∀ l : List Int, (insS a l).Perm (a :: l)
  | [] => .refl _
  | b :: r => by
    unfold insS
    split
    · exact .refl _
    · exact ((insS_perm a r).cons b).trans (.swap a b r)
theorem insS_srt (a : Int) : ∀ l : List Int, l.Pairwise (· ≤ ·) → (insS a l).Pairwise (· ≤ ·)
  | [], _ => List.pairwise_singleton _ _
  | b :: r, h => by
    unfold insS
    have hb := List.pairwise_cons.mp h
    split
    · rename_i hab
      refine List.pairwise_cons.mpr ⟨fun x hx => ?_, h⟩
      rcases List.mem_cons.mp hx with rfl | hx
      · exact hab
      · exact Int.le_trans hab (hb.1 x hx)
    · rename_i hab
      refine List.pairwise_cons.mpr ⟨fun x hx => ?_, insS_srt a r hb.2⟩
      rcases List.mem_cons.mp ((insS_perm a r).mem_iff.mp hx) with rfl | hx
      · omega
      · exact hb.1 x hx
theorem sortS_perm : ∀ l : List Int, (sortS l).Perm l
  | [] => .refl _
  | a :: r => (insS_perm a (sortS r)).trans ((sortS_perm r).cons a)
theorem sortS_srt : ∀ l : List Int, (sortS l).Pairwise (· ≤ ·)
  | [] => .nil
  | a :: r => insS_srt a _ (sortS_srt r)
theorem srt_one : ∀ {l k : List Int}, l.Perm k → l.Pairwise (· ≤ ·) → k.Pairwise (· ≤ ·) → l = k
  | [], k, p, _, _ => p.symm.eq_nil.symm
  | a :: r, [], p, _, _ => p.eq_nil
  | a :: r, b :: s, p, h, g => by
    have h1 := List.pairwise_cons.mp h
    have g1 := List.pairwise_cons.mp g
    have e : a = b := by
      have ha : b ≤ a := by
        rcases List.mem_cons.mp (p.mem_iff.mp List.mem_cons_self) with e | e
        · omega
        · exact g1.1 a e
      have hb : a ≤ b := by
        rcases List.mem_cons.mp (p.symm.mem_iff.mp List.mem_cons_self) with e | e
        · omega
        · exact h1.1 b e
      omega
    subst e
    rw [srt_one (p.cons_inv) h1.2 g1.2]
theorem mem_insU (a x : Int) : ∀ l : List Int, x ∈ insU a l ↔ x = a ∨ x ∈ l
  | [] => by simp [insU]
  | b :: r => by
    unfold insU
    split
    · exact List.mem_cons
    · split
      · rename_i e
        subst e
        simp
      · rw [List.mem_cons, mem_insU a x r, List.mem_cons]
        constructor
        · rintro (h | h | h)
          · exact .inr (.inl h)
          · exact .inl h
          · exact .inr (.inr h)
        · rintro (h | h | h)
          · exact .inr (.inl h)
          · exact .inl h
          · exact .inr (.inr h)
theorem insU_srt (a : Int) : ∀ l : List Int, l.Pairwise (· < ·) → (insU a l).Pairwise (· < ·)
  | [], _ => List.pairwise_singleton _ _
  | b :: r, h => by
    unfold insU
    have hb := List.pairwise_cons.mp h
    split
    · rename_i hab
      refine List.pairwise_cons.mpr ⟨fun x hx => ?_, h⟩
      rcases List.mem_cons.mp hx with rfl | hx
      · exact hab
      · exact Int.lt_trans hab (hb.1 x hx)
    · split
      · exact h
      · refine List.pairwise_cons.mpr ⟨fun x hx => ?_, insU_srt a r hb.2⟩
        rcases (mem_insU a x r).mp hx with rfl | hx
        · omega
        · exact hb.1 x hx
theorem mem_uniqS (x : Int) : ∀ l : List Int, x ∈ uniqS l ↔ x ∈ l
  | [] => Iff.rfl
  | a :: r => by rw [uniqS, mem_insU, mem_uniqS x r, List.mem_cons]
theorem uniqS_srt : ∀ l : List Int, (uniqS l).Pairwise (· < ·)
  | [] => .nil
  | a :: r => insU_srt a _ (uniqS_srt r)
theorem sto_one : ∀ {l k : List Int}, (∀ x, x ∈ l ↔ x ∈ k) → l.Pairwise (· < ·) → k.Pairwise (· < ·) → l = k
  | [], [], _, _, _ => rfl
  | [], b :: s, p, _, _ => nomatch (p b).mpr List.mem_cons_self
  | a :: r, [], p, _, _ => nomatch (p a).mp List.mem_cons_self
  | a :: r, b :: s, p, h, g => by
    have h1 := List.pairwise_cons.mp h
    have g1 := List.pairwise_cons.mp g
    have e : a = b := by
      have ha : b ≤ a := by
        rcases List.mem_cons.mp ((p a).mp List.mem_cons_self) with e | e
        · omega
        · exact Int.le_of_lt (g1.1 a e)
      have hb : a ≤ b := by
        rcases List.mem_cons.mp ((p b).mpr List.mem_cons_self) with e | e
        · omega
        · exact Int.le_of_lt (h1.1 b e)
      omega
    subst e
    rw [sto_one (fun x => ⟨fun hx => ?_, fun hx => ?_⟩) h1.2 g1.2]
    · rcases List.mem_cons.mp ((p x).mp (List.mem_cons_of_mem _ hx)) with e | e
      · have := h1.1 x hx; omega
      · exact e
    · rcases List.mem_cons.mp ((p x).mpr (List.mem_cons_of_mem _ hx)) with e | e
      · have := g1.1 x hx; omega
      · exact e
section
variable {G : Gm}
theorem intsT_v {w : Wd} : ∀ {ts : List T} {vs : List V} {ns : List Int}, RFs G w ts vs → intsT ts = some ns → vs = ns.map V.int
  | [], _, _, .nil, h => by cases h; rfl
  | t :: ts, _, ns, .cons (v := v) a b, h => by
    cases t <;> try (cases h; done)
    case int i =>
      rw [intsT] at h
      cases e : intsT ts with
      | none => rw [e] at h; cases h
      | some ms =>
        rw [e] at h
        cases h
        rw [intsT_v b e]
        cases a
        rfl
theorem seqI_v {w : Wd} {t : T} {v : V} {ns : List Int} (r : RA G w t v) (h : seqI t = some ns) : ∃ p, v = .ref p ∧ SqL G.K w.H p (ns.map V.int) := by
  cases t <;> try (cases h; done)
  case lst xs =>
    obtain ⟨p, vs, rfl, h1, rs⟩ := r.lst
    have := intsT_v rs h
    subst this
    exact ⟨p, rfl, .inl (.inl h1)⟩
  case scr ms =>
    obtain ⟨p, rfl, h1⟩ := r.scr
    cases h
    exact ⟨p, rfl, h1⟩
theorem okSrt : OpOk1 G .srt (fun x H Q => rSortedI G.K [x] H Q) := fun w m σ t1 v1 res Q S a h k => by
  replace h : srtF t1 = some res := h
  unfold srtF at h
  cases e : seqI t1 with
  | none => rw [e] at h; cases h
  | some ns =>
    rw [e] at h
    cases h
    obtain ⟨p, rfl, hp⟩ := seqI_v a e
    refine ⟨p, ns, rfl, hp, fun ns' q pm sr hq => ?_⟩
    rw [srt_one (pm.trans (sortS_perm ns).symm) sr (sortS_srt ns)]
    exact k.lst S (RFs.of_ints _) q hq
/-- sorted(set(xs)) -/
noncomputable def rUniq (K : PySem.W.Frag) (wo : World) : V → Hp → VK → Prop := fun x H Q => MiP.rSetI K wo [x] H fun y H1 => rSortedSet wo [y] H1 Q
theorem okUniq {wo : World} : OpOk1 G .uniq (rUniq G.K wo) := fun w m σ t1 v1 res Q S a h k => by
  replace h : uniqF t1 = some res := h
  unfold uniqF at h
  cases e : seqI t1 with
  | none => rw [e] at h; cases h
  | some ns =>
    rw [e] at h
    simp only [Option.bind_some] at h
    split at h
    · rename_i hl
      cases h
      obtain ⟨p, rfl, hp⟩ := seqI_v a e
      refine ⟨p, ns, rfl, hp, by omega, fun b n hb hn => ⟨b, _, n, rfl, upd_same, by omega, fun ns' q sr mem len hq => ?_⟩⟩
      have e1 : ns' = uniqS ns := sto_one (fun x => by rw [mem x, mem_uniqS, decide_eq_true_eq]) sr (uniqS_srt ns)
      subst e1
      exact After.lst (w := w.new b (SetO wo b (fun j => decide (j ∈ ns)) n)) (fun w' v S' x' r' => k w' v S' ((Ex.new S.trk hb).trans x') r') (S.new hb) (RFs.of_ints _) q hq
    · cases h
end
/-! ### the calls -/
section
variable {C : Ct} {X : Cx} {k : Nat} {cal : Nat → List Slot → CRes} {pos p1 p2 : Pos}
theorem x_sorted (c : XC C X k) {a : Expr} {ea : E} (hm : Fr X "sorted") (ha : PE X a (rdE C (evE cal ea))) (hg : Gl X "sorted" := by rfl) (hs : starEach [a] X.env = (false, eval a X.env) :: starEach [] X.env := by rfl) : PE X (.Call (.Name "sorted" p1) [a] [] pos) (rdE C (evE cal (.op .srt (.cons ea .nil)))) :=
  x_bi (r := rSortedI C.G.K) (by rw [c.K]; exact cr_sortedI) (by rfl) okSrt hm hg (by decide) (by decide) hs ha
theorem x_uniq (c : XC C X k) {a : Expr} {ea : E} (hm : Fr X "sorted") (hm2 : Fr X "set") (ha : PE X a (rdE C (evE cal ea))) (hg : Gl X "sorted" := by rfl) (hg2 : Gl X "set" := by rfl) (hs : starEach [a] X.env = (false, eval a X.env) :: starEach [] X.env := by rfl)
    (hs2 : starEach [.Call (.Name "set" p2) [a] [] pos] X.env = (false, eval (.Call (.Name "set" p2) [a] [] pos) X.env) :: starEach [] X.env := by rfl) {pos' : Pos} : PE X (.Call (.Name "sorted" p1) [.Call (.Name "set" p2) [a] [] pos] [] pos') (rdE C (evE cal (.op .uniq (.cons ea .nil)))) :=
  n_op1 (r := rUniq C.G.K X.w) (fun ta h => PE.imp (pe_callB (cr_sortedSet c.calm) hg hm (by rfl) (pa_cons (pe_callTy (by rw [c.K]; exact MiP.cr_setI c.calm) hg2 hm2 (by rfl) (pa_cons h pa_nil hs) (by decide) (by decide) hs (by rfl)) pa_nil hs2) (by decide) (by decide) hs2 (by rfl)) fun _ _ _ q => q) okUniq ha
end
end Mi
set_option maxHeartbeats 2000000
namespace MiP
open PySem PySem.Spec PyProof.Rows
section
variable {prog : Program} {w : World} {A : Around} {E : Value → Shared → Prop} {s : Shared} {K : PySem.W.Frag} {x C f : Addr} {ox : Obj} {od : Option Obj}
theorem own_repr {Q : Value → Shared → Prop} (hu : A.in1.units < cLine) (X : K.In s.heap) (I : PySem.W.InstAt s.heap x ox C od) (hs : PySem.W.findIn K (.ref C) "__repr__" = some (some (.ref f))) (hf : PySem.W.isFn K (.ref f) = true)
    (h : wpAny (model prog w) A.in1 (call (.ref f) [.ref x]) (fun r s' => ∃ a t, r = .str a t ∧ Q (.str a t) s') E s) : wpAny (model prog w) A (call (.builtin "repr") [.ref x]) Q E s := by
  refine Calls.call_function_entry PySem.F.kind_repr PySem.F.plain_repr PySem.F.entry_repr (PySem.F.args_repr1 _) ?_
  unfold Builtin.«repr»
  refine wpAny_bind (m := oneArg "repr" _) (wpAny_pure (wpAny_bind (wpAny_cRoomFor hu ?_)))
  refine wpAny_bind (wpAny_bind (I.type.here ((PySem.W.looks_findIn X hs).here ?_)))
  show wpAny _ _ (if (some (Value.ref f)).isNone = true then _ else _) _ _ _
  rw [if_neg (by simp)]
  refine wpAny_bind (m := callSpecialIfBound? (.ref x) (Str.ofString "__repr__") _) (PySem.W.ifBound_K X I hs hf (wpAny_mono h (fun r s' hr => ?_) fun _ _ e => e))
  obtain ⟨a, t, rfl, q⟩ := hr
  refine wpAny_bind (wpAny_isInstance (typeIs_str _ _ _) isSubtype_str_str ?_)
  first
    | exact wpAny_pure ⟨_, rfl, q⟩
    | (rw [if_pos rfl]; exact wpAny_pure ⟨_, rfl, q⟩)
    | (simp only [if_true]; exact wpAny_pure ⟨_, rfl, q⟩)
theorem own_bool {M : Model} {Q : Bool → Shared → Prop} (X : K.In s.heap) (I : PySem.W.InstAt s.heap x ox C od) (hs : PySem.W.findIn K (.ref C) "__bool__" = some (some (.ref f))) (hf : PySem.W.isFn K (.ref f) = true)
    (h : wpAny M A (call (.ref f) [.ref x]) (fun r s' => ∃ b, r = .bool b ∧ Q b s') E s) : wpAny M A (truthy (.ref x)) Q E s := by
  unfold truthy
  refine wpAny_bind (m := callSpecial? (.ref x) (Str.ofString "__bool__")) (PySem.W.special_fn X I hs (beq_iff_eq.mp hf) (wpAny_mono h (fun r s' hr => ?_) fun _ _ e => e))
  obtain ⟨b, rfl, q⟩ := hr
  exact wpAny_pure q
end
end MiP
namespace Mi
open PySem PySem.Spec PyProof.Rows L2
section
variable {X : Cx} {k : Nat} {f C : Addr} {fd : FuncData} {ps : List Str} {sp : Sp}
noncomputable def rRep (C : Addr) (sp : Sp) : List V → Hp → VK → Prop := fun xs H Q => ∃ a dx fs, xs = [.ref a] ∧ H a = some (.ins C dx fs) ∧ sp xs H (fun v H' => ∃ z, v = .str z ∧ Q (.str z) H') EF
theorem cr_rep (hm : Meth X.K C "__repr__" f) (F : FnOk X.prog X.w X.K X.mg X.base (L2.CX X.prog X.w) k f fd ps sp) (hr : Room (k + 1) X.A) (hb : Binds X.K fd ps []) : CallR X (.builtin "repr") (rRep C sp) := by
  intro pins s σ H xs us Q I r h
  obtain ⟨a, dx, fs, rfl, ea, q⟩ := h
  have r' := r
  rw [Vals.ref1 r]
  rw [Vals.ref1 r] at r'
  obtain ⟨mA, O, _⟩ := ins_get I.hok ea
  obtain ⟨od, J, _⟩ := O.look
  have hu : X.A.in1.units < cLine := by have := hr.in1.un; omega
  refine MiP.own_repr hu I.kIn J hm.at_ hm.fn (thn (run_fn1 F hr hb passEF I r' q) fun r s' hh => ?_)
  obtain ⟨v', H', I', rv, z, e, q'⟩ := hh
  subst e
  obtain ⟨t, rfl⟩ := rv
  exact ⟨z, t, rfl, .str z, H', I', ⟨t, rfl⟩, q'⟩
end
section
variable {X : Cx} {k : Nat} {f C : Addr} {fd : FuncData} {ps : List Str} {sp : Sp}
noncomputable def rBoo (C : Addr) (sp : Sp) : List V → Hp → VK → Prop := fun xs H Q => ∃ a dx fs, xs = [.ref a] ∧ H a = some (.ins C dx fs) ∧ sp xs H (fun v H' => ∃ z, v = .bl z ∧ Q (.bl z) H') EF
end
section
variable {C : Ct} {X : Cx} {cal : Nat → List Slot → CRes}
theorem n_rep {ex ea : Expr} {c f : Nat} {a : E} (hp : ∀ ta, PE X ea ta → PE X ex (tUn (fun x H Q => rRep (C.G.cls c) (spM C.G cal f) [x] H Q) ta)) (ha : PE X ea (rdE C (evE cal a))) : PE X ex (rdE C (evE cal (.spc true c f a))) :=
  PE.imp (hp _ (pe_opd ha)) fun σ H Q ⟨w, m, e, P, q⟩ => by
  rw [evE, Res.sat_bind] at q
  refine ⟨w, m, e, P, ?_⟩
  rw [opdF, Res.sat_bind]
  refine Res.sat_mono q fun ra m1 q1 w1 v1 S1 x1 r1 => ?_
  split at q1
  · rename_i c' fs hd
    split at q1
    · rename_i hcc
      subst hcc
      obtain ⟨p, dx, gs, rfl, h1, h2⟩ := (S1.der r1 hd).ins
      rw [Res.sat_bind] at q1
      refine ⟨p, dx, gs, rfl, h1, ?_⟩
      refine call_quiet (P.step S1 x1) (.cons r1 .nil) (Res.sat_mono q1 fun r m2 q2 w2 v2 S2 x2 r2 => ?_)
      cases r with
      | ow o => exact q2.elim
      | bo k => exact q2.elim
      | fz t =>
        cases t <;> try (exact q2.elim)
        case str z =>
          cases r2
          exact ⟨z, rfl, q2 w2 _ S2 (x1.trans x2) (.str _)⟩
    · exact q1.elim
  · exact q1.elim
end
end Mi
set_option maxHeartbeats 1000000
namespace Mi
open PySem PySem.Spec PyProof.Rows L2
/-! ### f-strings -/
section
variable {C : Ct} {X : Cx} {cal : Nat → List Slot → CRes}
noncomputable def jsT (C : Ct) (cal : Nat → List Slot → CRes) : Es → List TE
  | .nil => []
  | .cons e r => tFmt (rdE C (evE cal e)) :: jsT C cal r
theorem js_run {σ : St} : ∀ (es : Es) (acc : Str) (w : Wd) (m : List Slot) (Q : Str → Hp → Prop), Pre C w m σ → (evJs cal es acc m).sat (fun z m1 => ∀ w', SR C.G w' m1 σ → Ex w w' → Q z w'.H) C.EM → tJs (jsT C cal es) acc σ w.H Q
  | .nil, acc, w, m, Q, P, q => by
    rw [evJs] at q
    exact q w P.sr (.refl w)
  | .cons e r, acc, w, m, Q, P, q => by
    rw [evJs, Res.sat_bind] at q
    refine ⟨w, m, rfl, P, Res.sat_mono q fun x m1 q1 w1 v S1 x1 r1 => ?_⟩
    cases x with
    | ow o => exact q1.elim
    | bo k => exact q1.elim
    | fz t =>
      cases t <;> try (exact q1.elim)
      case str y =>
        cases r1
        simp only at q1
        split at q1
        · rename_i hl
          have hy : y.length ≤ sizeLine := by
            have e : (acc ++ y).length = acc.length + y.length := Array.size_append ..
            omega
          exact .inl ⟨y, rfl, hy, y, rfl, hl, js_run r (acc ++ y) w1 m1 Q (P.step S1 x1) (Res.sat_mono q1 fun z m2 k w' S' x' => k w' S' (x1.trans x'))⟩
        · exact q1.elim
      case int i =>
        cases r1
        simp only at q1
        split at q1
        · rename_i hl
          exact .inr ⟨i, rfl, hl.2, toString i, rfl, hl.1, js_run r (acc ++ toString i) w1 m1 Q (P.step S1 x1) (Res.sat_mono q1 fun z m2 k w' S' x' => k w' S' (x1.trans x'))⟩
        · exact q1.elim
theorem j_nil : PJ X [] (jsT C cal .nil) := .nil
theorem j_cons {e : Expr} {es : List Expr} {a : E} {r : Es} (h : PE X e (tFmt (rdE C (evE cal a)))) (hr : PJ X es (jsT C cal r)) : PJ X (e :: es) (jsT C cal (.cons a r)) := .cons h hr
theorem j_txt {s : Str} {j} {pos : Pos} (hs : s.length ≤ sizeLine) : PE X (.Constant (.str s) j pos) (tFmt (rdE C (evE cal (.c (.str s))))) :=
  PE.imp pe_str fun σ H Q ⟨w, m, e, P, q⟩ => by
  rw [evE] at q
  have q := q w (.str s) P.sr (.refl w) (.str s)
  rw [e] at q
  rcases q with ⟨y, e1, e2, q⟩ | ⟨i, e1, _⟩
  · cases e1; exact q
  · cases e1
theorem j_fmt {e : Expr} {a : E} {pos : Pos} (h : PE X e (rdE C (evE cal a))) : PE X (.FormattedValue e (-1) none pos) (tFmt (rdE C (evE cal a))) := pe_fmt h
theorem x_fst {v1 v2 : Expr} {rest : List Expr} {es : Es} {pos : Pos} (h : PJ X (v1 :: v2 :: rest) (jsT C cal es)) : PE X (.JoinedStr (v1 :: v2 :: rest) pos) (rdE C (evE cal (.fst es))) :=
  PE.imp (pe_joined h) fun σ H Q ⟨w, m, e, P, q⟩ => by
  rw [evE, Res.sat_bind] at q
  subst e
  exact js_run es Str.empty w m _ P (Res.sat_mono q fun z m1 k w' S' x' => k w' _ S' x' (.str z))
end
end Mi
set_option maxHeartbeats 1000000
namespace Mi
open PySem PySem.Spec PyProof.Rows L2
/-! ### displays with a star -/
section
variable {G : Gm} {w : Wd} {σ : St}
theorem RDs.app {vs us : List V} {ds es : List Opd} : RDs G w σ ds vs → RDs G w σ es us → RDs G w σ (ds ++ es) (vs ++ us)
  | .nil, r => r
  | .cons a b, r => .cons a (RDs.app b r)
theorem RDs.of_fs : ∀ {ts : List T} {vs : List V}, RFs G w ts vs → RDs G w σ (ts.map Opd.t) vs
  | _, _, .nil => .nil
  | _, _, .cons a b => .cons a (RDs.of_fs b)
end
section
variable {C : Ct} {X : Cx} {k : Nat} {cal : Nat → List Slot → CRes} {pos : Pos}
theorem ax_nil {bs : List Bool} : PA X [] (rdDs C (evDx cal .nil bs)) := PA.imp pa_nil fun σ H Q ⟨w, m, e, P, q⟩ => by
  rw [evDx] at q
  subst e
  exact q w [] P.sr (.refl w) .nil
theorem ax_cons {bs : List Bool} {e : Expr} {es : List Expr} {a : E} {r : Es} (h : PE X e (rdE C (evE cal a))) (hr : PA X es (rdDs C (evDx cal r bs))) (hs : starEach (e :: es) X.env = (false, eval e X.env) :: starEach es X.env := by rfl) :
    PA X (e :: es) (rdDs C (evDx cal (.cons a r) (false :: bs))) := PA.imp (pa_cons (pe_opd h) hr hs) fun σ H Q ⟨w, m, e, P, q⟩ => by
  rw [evDx, Res.sat_bind] at q
  refine ⟨w, m, e, P, ?_⟩
  rw [opdF, Res.sat_bind]
  refine Res.sat_mono q fun x m1 q1 w1 v S1 x1 r1 => ?_
  simp only [List.headD_cons, List.tail_cons, Bool.false_eq_true, if_false] at q1
  rw [Res.sat_bind] at q1
  exact ⟨w1, m1, rfl, P.step S1 x1, Res.sat_mono q1 fun ds m2 q2 w2 us S2 x2 r2 => q2 w2 (v :: us) S2 (x1.trans x2) (.cons (r1.mono x2.mo) r2)⟩
theorem ax_star {bs : List Bool} {e : Expr} {p : Pos} {es : List Expr} {a : E} {r : Es} (c : XC C X k) (h : PE X e (rdE C (evE cal a))) (hr : PA X es (rdDs C (evDx cal r bs))) (hs : starEach (.Starred e p :: es) X.env = (true, eval e X.env) :: starEach es X.env := by rfl) :
    PA X (.Starred e p :: es) (rdDs C (evDx cal (.cons a r) (true :: bs))) := PA.imp (StX.pa_star (pe_opd h) hr hs) fun σ H Q ⟨w, m, e, P, q⟩ => by
  rw [evDx, Res.sat_bind] at q
  rw [← c.K]
  refine ⟨w, m, e, P, ?_⟩
  rw [opdF, Res.sat_bind]
  refine Res.sat_mono q fun x m1 q1 w1 v S1 x1 r1 => ?_
  simp only [List.headD_cons, List.tail_cons, if_true] at q1
  split at q1
  · rename_i xs hd
    obtain ⟨p, vs, rfl, h1, rs⟩ := (S1.der r1 hd).lst
    rw [Res.sat_bind] at q1
    exact ⟨p, vs, rfl, .inr (.inl (.inl h1)), w1, m1, rfl, P.step S1 x1, Res.sat_mono q1 fun ds m2 q2 w2 us S2 x2 r2 => q2 w2 (vs ++ us) S2 (x1.trans x2) ((RDs.of_fs (RFs.mono x2.mo rs)).app r2)⟩
  · exact q1.elim
theorem x_lsx {exs : List Expr} {bs : List Bool} {es : Es} (h : PA X exs (rdDs C (evDx cal es bs))) : PE X (.List exs pos) (rdE C (evE cal (.lsx bs es))) := PE.imp (pe_lst h) fun σ H Q ⟨w, m, e, P, q⟩ => by
  rw [evE, Res.sat_bind] at q
  refine ⟨w, m, e, P, Res.sat_mono q fun ds m1 q1 w1 vs S1 x1 r1 => ?_⟩
  cases h1 : escs m1 ds with
  | none => rw [h1] at q1; exact q1.elim
  | some pr =>
    obtain ⟨ts, m2⟩ := pr
    rw [h1] at q1
    simp only at q1
    obtain ⟨w2, e2, S2, x2, r2⟩ := SR.escs S1 r1 h1
    split at q1
    · rename_i hl
      refine ⟨by rw [← r2.length]; exact hl, ?_⟩
      rw [← e2]
      exact After.lst (fun w' v S' x' r' => q1 w' v S' (x1.trans (x2.trans x')) r') S2 r2
    · exact q1.elim
end
end Mi
set_option maxHeartbeats 1000000
namespace Mi
open PySem PySem.Spec PyProof.Rows L2

/-! ### constants of the top -/
mutual
noncomputable def matV (K : PySem.W.Frag) : T → Value → Bool
  | .non, u => (match u with | .none => true | _ => false)
  | .bl b, u => (match u with | .bool c => b == c | _ => false)
  | .int i, u => (match u with | .int j _ => decide (i = j) | _ => false)
  | .str x, u => (match u with | .str y _ => decide (x = y) | _ => false)
  | .tup xs, u => (match u with
    | .ref a => (match K.lookup a with
      | some ⟨.type c, _, .seq its _, _⟩ => decide (c = "tuple") && (decide (its.size ≤ sizeLine) && matVs K xs its.toList)
      | _ => false)
    | _ => false)
  | _, _ => false
noncomputable def matVs (K : PySem.W.Frag) : List T → List Value → Bool
  | [], [] => true
  | t :: ts, u :: us => matV K t u && matVs K ts us
  | _, _ => false
end
mutual
theorem matV_ok {G : Gm} : ∀ {t : T} {u : Value}, matV G.K t u = true → ∃ v, RelV v u ∧ ∀ w, RF G w t v
  | .non, u, h => by
    cases u <;> first | exact ⟨.non, rfl, fun _ => .non⟩ | (simp [matV] at h)
  | .bl b, u, h => by
    cases u <;> try (simp [matV] at h; done)
    case bool c =>
      have e : b = c := by simpa [matV] using h
      subst e
      exact ⟨.bl b, rfl, fun _ => .bl b⟩
  | .int i, u, h => by
    cases u <;> try (simp [matV] at h; done)
    case int j t =>
      have e : i = j := by simpa [matV] using h
      subst e
      exact ⟨.int i, ⟨t, rfl⟩, fun _ => .int i⟩
  | .str x, u, h => by
    cases u <;> try (simp [matV] at h; done)
    case str j t =>
      have e : x = j := by simpa [matV] using h
      subst e
      exact ⟨.str x, ⟨t, rfl⟩, fun _ => .str x⟩
  | .tup xs, u, h => by
    cases u <;> try (simp [matV] at h; done)
    case ref a =>
      rw [matV] at h
      cases q : G.K.lookup a with
      | none => simp [q] at h
      | some o =>
        obtain ⟨oc, od, dt, osl⟩ := o
        simp only [q] at h
        cases oc <;> try (cases dt <;> simp at h; done)
        case type c =>
          cases dt <;> try (simp at h; done)
          case seq its n =>
            simp only [Bool.and_eq_true, decide_eq_true_eq] at h
            obtain ⟨rfl, h2, h3⟩ := h
            obtain ⟨vs, r1, r2⟩ := matVs_ok h3
            exact ⟨.ref a, rfl, fun w => .tup (.inr ⟨_, its, n, q, rfl, rfl, h2, r1⟩) (r2 w)⟩
  | .lst _, u, h => by simp [matV] at h
  | .dic _, u, h => by simp [matV] at h
  | .ins _ _, u, h => by simp [matV] at h
  | .scr _, u, h => by simp [matV] at h
theorem matVs_ok {G : Gm} : ∀ {t : List T} {u : List Value}, matVs G.K t u = true → ∃ v, Vals v u ∧ ∀ w, RFs G w t v
  | [], [], _ => ⟨[], .nil, fun _ => .nil⟩
  | [], _ :: _, h => by simp [matVs] at h
  | _ :: _, [], h => by simp [matVs] at h
  | t :: ts, u :: us, h => by
    simp only [matVs, Bool.and_eq_true] at h
    obtain ⟨v, a, b⟩ := matV_ok h.1
    obtain ⟨vs, c, d⟩ := matVs_ok h.2
    exact ⟨v :: vs, .cons a c, fun w => .cons (b w) (d w)⟩
end
noncomputable def globK (K : PySem.W.Frag) (p : Str × T) : Bool := match PySem.W.nsIn K mainGlobals p.1 with
  | some (some u) => matV K p.2 u
  | _ => false
noncomputable abbrev AlM : Type := He.AlD × Bool
noncomputable def obsM (fa : List He.Fa) (fn : List He.DefD) (gk : List (Str × T)) (K : PySem.W.Frag) : AlM := (He.obsD fa fn K, gk.all (globK K))
noncomputable def SaysM (fa : List He.Fa) (fn : List He.DefD) (gk : List (Str × T)) (K : PySem.W.Frag) : Prop := obsM fa fn gk K = (He.valD fn, true)
theorem SaysM.d {fa : List He.Fa} {fn : List He.DefD} {gk : List (Str × T)} {K : PySem.W.Frag} (c : SaysM fa fn gk K) : He.SaysD fa fn K := congrArg Prod.fst c
theorem SaysM.g {fa : List He.Fa} {fn : List He.DefD} {gk : List (Str × T)} {K : PySem.W.Frag} (c : SaysM fa fn gk K) : ∀ p ∈ gk, globK K p = true := List.all_eq_true.mp (congrArg Prod.snd c)

theorem globK_ok {G : Gm} {h : Heap} {mg : Str → Option Value} {x : Str} {t : T} (X : G.K.In h) (Gn : h.Ns mainGlobals mg) (c : globK G.K (x, t) = true) : ∃ u v, mg x = some u ∧ RelV v u ∧ ∀ w, RF G w t v := by
  unfold globK at c
  cases q : PySem.W.nsIn G.K mainGlobals x with
  | none => simp [q] at c
  | some o =>
    cases o with
    | none => simp [q] at c
    | some u =>
      simp only [q] at c
      obtain ⟨v, a, b⟩ := matV_ok c
      exact ⟨u, v, PySem.W.mg_of X Gn q, a, b⟩
/-! ### what a def's body leans on -/
noncomputable def FnIn (P : Program) (w : World) (K : PySem.W.Frag) (mg : Str → Option Value) (base : Heap) (k : Nat) (G : Gm) (cal : Nat → List Slot → CRes) (f : Nat) (x : Str) (ps : List Str) : Prop :=
  ∃ fa fd, mg x = some (.ref fa) ∧ PySem.W.keepIn K (.ref fa) = true ∧ Binds K fd ps [] ∧ FnOk P w K mg base (L2.CX P w) (2 * k) fa fd ps (spM G cal f)
noncomputable def FnInK (P : Program) (w : World) (K : PySem.W.Frag) (mg : Str → Option Value) (base : Heap) (k : Nat) (G : Gm) (cal : Nat → List Slot → CRes) (f : Nat) (x : Str) (ps : List Str) : Prop :=
  ∃ fa fd, mg x = some (.ref fa) ∧ PySem.W.keepIn K (.ref fa) = true ∧ (∀ us : List Value, us.length = ps.length → bindArgs fd ⟨[], ps.zip us⟩ = pure (ps.zip us)) ∧ FnOk P w K mg base (L2.CX P w) (2 * k) fa fd ps (spM G cal f)
structure GE (tab : List (Str × List Str)) (tk : List Nat) (gk : List (Str × T)) (fr : List Str) (P : Program) (w : World) (K : PySem.W.Frag) (mg : Str → Option Value) (base : Heap) (k : Nat) (G : Gm) (cal : Nat → List Slot → CRes) : Prop where
  fns : ∀ (f : Nat) (x : Str) (ps : List Str), tab[f]? = some (x, ps) → FnIn P w K mg base k G cal f x ps
  fnk : ∀ (f : Nat) (x : Str) (ps : List Str), tab[f]? = some (x, ps) → f ∈ tk → FnInK P w K mg base k G cal f x ps
  gs : ∀ (i : Nat) (x : Str) (t : T), gk[i]? = some (x, t) → ∃ u v, mg x = some u ∧ RelV v u ∧ ∀ w, RF G w t v
  frs : ∀ (i : Nat) (x : Str), fr[i]? = some x → mg x = none
section
variable {tab : List (Str × List Str)} {tk : List Nat} {gk : List (Str × T)} {fr : List Str} {G : Gm} {cal : Nat → List Slot → CRes} {k : Nat}
theorem GE.g {X : Cx} (e : GE tab tk gk fr X.prog X.w X.K X.mg X.base k G cal) (i : Nat) {x : Str} {t : T} (h : gk[i]? = some (x, t) := by rfl) : GlobAt X G x t := e.gs i x t h
theorem GE.b {X : Cx} (e : GE tab tk gk fr X.prog X.w X.K X.mg X.base k G cal) (i : Nat) {x : Str} (h : fr[i]? = some x := by rfl) : Fr X x := e.frs i x h
theorem nf {C : Ct} {io : List Bool} {i : Nat} (h : C.fx = fxOf io) (e : fxOf io i = false := by rfl) : C.fx i = false := by rw [h]; exact e
theorem nfs {C : Ct} {io : List Bool} {p : Pt} (h : C.fx = fxOf io) (e : (p.sl.all fun j => !fxOf io j) = true := by rfl) : ∀ j ∈ p.sl, C.fx j = false := fun j hj => by
  rw [h]
  have := List.all_eq_true.mp e j hj
  simpa using this
end
/-- the first turn: nothing is promised -/
theorem fn_zero {P : Program} {w : World} {K : PySem.W.Frag} {mg : Str → Option Value} {base : Heap} {G : Gm} {Γ : Nat → Option Def} {L f : Nat} {fa : Addr} {fd : FuncData} {ps : List Str} : FnOk P w K mg base (L2.CX P w) 0 fa fd ps (spM G (callF Γ L 0) f) :=
  ⟨fun _ _ _ _ ⟨_, _, _, _, z⟩ => z.elim, fun _ _ _ _ _ _ _ _ _ _ _ _ _ ⟨_, _, _, _, z⟩ => z.elim⟩
/-- the law's promise, from the evaluator's answer -/
theorem law_sp {G : Gm} {cal : Nat → List Slot → CRes} {f : Nat} {ns : List Int} {outs : List Slot} (hc : cal f [.fz (.scr ns)] = .ok (.fz (.bl true)) outs) {H : Hp} {a : Addr} (hO : Only H) (hS : SqL G.K H a (ns.map V.int)) (E : XK) : spM G cal f [.ref a] H (fun v _ => v = .bl true) E := by
  refine ⟨⟨fun b => ∃ u, H b = some u, fun _ => False, H⟩, [.fz (.scr ns)], rfl, ⟨rfl, fun i s h => ?_, fun i j o o' a h1 => ?_, fun _ z => z.elim, fun b h => h⟩, ?_⟩
  · cases i with
    | succ i => cases h
    | zero =>
      cases h
      refine ⟨.ref a, rfl, .scr ?_⟩
      rcases hS with (h | ⟨o, h⟩) | ⟨o, its, n, h1, h2, h3, h4, h5, h6⟩
      · rcases hO a with z | ⟨o, xs, z⟩ <;> rw [h] at z <;> cases z
      · exact .inl ⟨⟨_, h⟩, o, h⟩
      · exact .inr ⟨o, its, n, h1, h2, h3, h4, h5, h6⟩
  · cases i with
    | succ i => cases h1
    | zero => cases h1
  · rw [hc]
    intro w' v _ _ rr
    cases rr
    rfl
/-- an exception that may leave, at some world -/
noncomputable def CXA (P : Program) : CXT := fun outer H s E u s' => ∃ w, L2.CX P w outer H s E u s'
theorem cxA {P : Program} {w : World} {K : PySem.W.Frag} {mg : Str → Option Value} {base : Heap} {k : Nat} {fa : Addr} {fd : FuncData} {ps : List Str} {sp : Sp} (F : FnOk P w K mg base (L2.CX P w) k fa fd ps sp) : FnOk P w K mg base (CXA P) k fa fd ps sp :=
  ⟨F.len, fun A outer s H args us vs Q E hr he hb hv hs => codeAny_mono (F.run A outer s H args us vs Q E hr he hb hv hs) fun r s' q => by
    cases r with
    | error e => exact ⟨w, q⟩
    | ok fl => cases fl <;> exact q⟩
theorem cxA_no {P : Program} {H : Hp} {s : Shared} {e : Value} {s' : Shared} (h : CXA P [] H s (fun _ _ _ => False) e s') : False := by
  obtain ⟨w, _, _, _, _, _, _, _, _, _, _, _, _, z⟩ := h
  exact z
end Mi
set_option maxHeartbeats 4000000
namespace Mi
open PySem PySem.Spec PyProof.Rows L2

/-! ### the law's own helpers: as data -/
noncomputable def bagB : Ss :=
  (.cons (.set 1 (.op .mod (.cons (.op .int (.cons (.op .add (.cons (.op .add (.cons (.op .mul (.cons (.var 1) (.cons (.c (.int 46337)) .nil))) (.cons (.op .mul (.cons (.op .mod (.cons (.op .int (.cons (.var 2) .nil)) (.cons (.c (.int 1000211)) .nil))) (.cons (.c (.int 919)) .nil))) .nil))) (.cons (.c (.int 41)) .nil))) .nil)) (.cons (.c (.int 2147483563)) .nil)))) .nil)
noncomputable def dBag : Def := ⟨1, 3, [false],
  (.cons (.set 1 (.c (.int 12006)))
  (.cons (.fr (.nm 2) (.it (.op (.sl false true) (.cons (.var 0) (.cons (.c (.int 63)) .nil)))) bagB)
  (.cons (.ret (.lst (.cons (.op .list (.cons (.op (.sl false true) (.cons (.var 0) (.cons (.c (.int 63)) .nil))) .nil)) (.cons (.c (.int 0)) (.cons (.c (.int 0)) (.cons (.var 1) (.cons (.c (.int 0)) .nil)))))))
  .nil)))⟩
noncomputable def dTake : Def := ⟨2, 5, [true, false],
  (.cons (.sto 0 (.c (.int 4)) (.op .add (.cons (.op .idx (.cons (.var 0) (.cons (.c (.int 4)) .nil))) (.cons (.c (.int 1)) .nil))))
  (.cons (.ife (.an (.op .eq (.cons (.op .idx (.cons (.var 0) (.cons (.c (.int 2)) .nil))) (.cons (.c (.int 0)) .nil))) (.op .lt (.cons (.op .idx (.cons (.var 0) (.cons (.c (.int 1)) .nil))) (.cons (.op .len (.cons (.op .idx (.cons (.var 0) (.cons (.c (.int 0)) .nil))) .nil)) .nil)))) (.cons (.set 2 (.op .idx (.cons (.op .idx (.cons (.var 0) (.cons (.c (.int 0)) .nil))) (.cons (.op .idx (.cons (.var 0) (.cons (.c (.int 1)) .nil))) .nil))))
  (.cons (.sto 0 (.c (.int 1)) (.op .add (.cons (.op .idx (.cons (.var 0) (.cons (.c (.int 1)) .nil))) (.cons (.c (.int 1)) .nil))))
  (.cons (.ife (.op .ge (.cons (.op .abs (.cons (.var 2) .nil)) (.cons (.op .pow (.cons (.c (.int 10)) (.cons (.c (.int 18)) .nil))) .nil))) (.cons (.sto 0 (.c (.int 2)) (.op .abs (.cons (.var 2) .nil)))
  .nil) (.cons (.sto 0 (.c (.int 3)) (.op .mod (.cons (.op .int (.cons (.op .add (.cons (.op .add (.cons (.op .mul (.cons (.op .idx (.cons (.var 0) (.cons (.c (.int 3)) .nil))) (.cons (.c (.int 47303)) .nil))) (.cons (.op .mul (.cons (.op .mod (.cons (.op .int (.cons (.var 2) .nil)) (.cons (.c (.int 1000211)) .nil))) (.cons (.c (.int 733)) .nil))) .nil))) (.cons (.c (.int 59)) .nil))) .nil)) (.cons (.c (.int 2147483579)) .nil))))
  .nil))
  .nil))) .nil)
  (.cons (.ife (.op .gt (.cons (.op .idx (.cons (.var 0) (.cons (.c (.int 2)) .nil))) (.cons (.c (.int 0)) .nil))) (.cons (.set 3 (.op .mod (.cons (.op .int (.cons (.op .idx (.cons (.var 0) (.cons (.c (.int 2)) .nil))) .nil)) (.cons (.var 1) .nil))))
  (.cons (.sto 0 (.c (.int 2)) (.op .fdiv (.cons (.op .idx (.cons (.var 0) (.cons (.c (.int 2)) .nil))) (.cons (.var 1) .nil))))
  (.cons (.ret (.var 3))
  .nil))) .nil)
  (.cons (.set 4 (.op .mod (.cons (.op .int (.cons (.op .add (.cons (.op .mul (.cons (.op .idx (.cons (.var 0) (.cons (.c (.int 3)) .nil))) (.cons (.op .idx (.cons (.var 0) (.cons (.c (.int 3)) .nil))) .nil))) (.cons (.op .mul (.cons (.op .idx (.cons (.var 0) (.cons (.c (.int 4)) .nil))) (.cons (.c (.int 8191)) .nil))) .nil))) .nil)) (.cons (.c (.int 2147483647)) .nil))))
  (.cons (.sto 0 (.c (.int 3)) (.op .mod (.cons (.op .int (.cons (.op .add (.cons (.op .add (.cons (.op .mul (.cons (.var 4) (.cons (.c (.int 16981)) .nil))) (.cons (.op .mul (.cons (.op .idx (.cons (.var 0) (.cons (.c (.int 3)) .nil))) (.cons (.c (.int 47969)) .nil))) .nil))) (.cons (.c (.int 70019)) .nil))) .nil)) (.cons (.c (.int 2147483579)) .nil))))
  (.cons (.ret (.op .mod (.cons (.op .int (.cons (.op .fdiv (.cons (.op .idx (.cons (.var 0) (.cons (.c (.int 3)) .nil))) (.cons (.c (.int 67)) .nil))) .nil)) (.cons (.var 1) .nil))))
  .nil))))))⟩
noncomputable def dOf (t : Nat) : Def := ⟨2, 2, [true, false],
  (.cons (.ret (.op .idx (.cons (.var 1) (.cons (.call t [true, false] (.cons (.var 0) (.cons (.op .len (.cons (.var 1) .nil)) .nil))) .nil))))
  .nil)⟩
/-! ### small steps -/
theorem mulF_ok {i j : Int} (h : i.natAbs < 2 ^ 200) (h' : j.natAbs < 2 ^ 200) : mulF (.int i) (.int j) = fI (i * j) := by
  have e : ∀ {n : Nat}, n < 2 ^ 200 → n.log2 ≤ 200 := fun {n} h => by
    by_cases z : n = 0
    · subst z; decide
    · exact Nat.le_of_lt ((Nat.log2_lt z).mpr h)
  have := e h
  have := e h'
  show (if _ then _ else _) = _
  rw [if_pos (by omega)]
theorem atI_nat {α : Type} {xs : List α} {i : Int} {n : Nat} {x : α} (h : i = (n : Int)) (e : xs[n]? = some x) : atI xs i = some x := by
  have lt := (List.getElem?_eq_some_iff.mp e).1
  subst h
  unfold atI ixN
  rw [if_pos (by omega), if_pos (by omega)]
  simpa using e
/-! ### the bag -/
structure BagS (ns : List Int) (i : Nat) (r x : Int) (c : Nat) : Prop where
  r0 : 0 ≤ r
  x0 : 0 ≤ x
  x1 : x < 2147483647
noncomputable def bag (ns : List Int) (i : Nat) (r x : Int) (c : Nat) : Slot := .ow (.lst [.lst (ns.map .int), .int i, .int r, .int x, .int c])
noncomputable def Bag (c : Nat) (s : Slot) : Prop := ∃ ns i r x, s = bag ns i r x c ∧ BagS ns i r x c
theorem at4 {a b c d e : T} : atI [a, b, c, d, e] 4 = some e := rfl
theorem at3 {a b c d e : T} : atI [a, b, c, d, e] 3 = some d := rfl
theorem at2 {a b c d e : T} : atI [a, b, c, d, e] 2 = some c := rfl
theorem at1 {a b c d e : T} : atI [a, b, c, d, e] 1 = some b := rfl
theorem at0 {a b c d e : T} : atI [a, b, c, d, e] 0 = some a := rfl
theorem ix4 : ixN 5 4 = some 4 := rfl
theorem ix3 : ixN 5 3 = some 3 := rfl
theorem ix2 : ixN 5 2 = some 2 := rfl
theorem ix1 : ixN 5 1 = some 1 := rfl
noncomputable def takeTail : Ss :=
  (.cons (.ife (.op .gt (.cons (.op .idx (.cons (.var 0) (.cons (.c (.int 2)) .nil))) (.cons (.c (.int 0)) .nil))) (.cons (.set 3 (.op .mod (.cons (.op .int (.cons (.op .idx (.cons (.var 0) (.cons (.c (.int 2)) .nil))) .nil)) (.cons (.var 1) .nil))))
  (.cons (.sto 0 (.c (.int 2)) (.op .fdiv (.cons (.op .idx (.cons (.var 0) (.cons (.c (.int 2)) .nil))) (.cons (.var 1) .nil))))
  (.cons (.ret (.var 3))
  .nil))) .nil)
  (.cons (.set 4 (.op .mod (.cons (.op .int (.cons (.op .add (.cons (.op .mul (.cons (.op .idx (.cons (.var 0) (.cons (.c (.int 3)) .nil))) (.cons (.op .idx (.cons (.var 0) (.cons (.c (.int 3)) .nil))) .nil))) (.cons (.op .mul (.cons (.op .idx (.cons (.var 0) (.cons (.c (.int 4)) .nil))) (.cons (.c (.int 8191)) .nil))) .nil))) .nil)) (.cons (.c (.int 2147483647)) .nil))))
  (.cons (.sto 0 (.c (.int 3)) (.op .mod (.cons (.op .int (.cons (.op .add (.cons (.op .add (.cons (.op .mul (.cons (.var 4) (.cons (.c (.int 16981)) .nil))) (.cons (.op .mul (.cons (.op .idx (.cons (.var 0) (.cons (.c (.int 3)) .nil))) (.cons (.c (.int 47969)) .nil))) .nil))) (.cons (.c (.int 70019)) .nil))) .nil)) (.cons (.c (.int 2147483579)) .nil))))
  (.cons (.ret (.op .mod (.cons (.op .int (.cons (.op .fdiv (.cons (.op .idx (.cons (.var 0) (.cons (.c (.int 3)) .nil))) (.cons (.c (.int 67)) .nil))) .nil)) (.cons (.var 1) .nil))))
  .nil))))
theorem tail_pos {cal : Nat → List Slot → CRes} {L : Nat} {ns : List Int} {i : Nat} {r x : Int} {c : Nat} {many : Int} {s2 s3 s4 : Slot} (hr : 0 < r) (hm : 0 < many) (hm2 : many < 2 ^ 64) :
    evSs cal L takeTail [bag ns i r x c, .fz (.int many), s2, s3, s4] = .rt (.fz (.int (r % many))) [bag ns i (r / many) x c, .fz (.int many), s2, .fz (.int (r % many)), s4] := by
  have q1 : fdivF (.int r) (.int many) = fI (r / many) := by
    have : many.natAbs.log2 ≤ 64 := Nat.le_of_lt ((Nat.log2_lt (by omega)).mpr (by omega))
    show (if _ then _ else _) = _
    rw [if_pos ⟨hm, by omega⟩]
  have q2 : modF (.int r) (.int many) = fI (r % many) := by
    show (if _ then _ else _) = _
    rw [if_pos hm]
  unfold takeTail bag
  simp [evSs, evS, evE, evDs, Res.bind, ofR, R.opd, opR, ders, der, opF, op2, op1, O.frz, idxF, esc, at4, at3, at2, at1, at0, ix4, ix3, ix2, ix1, fI, fB, cmpF, putR, intF, outR, q1, q2, hr]
theorem tail_zero {cal : Nat → List Slot → CRes} {L : Nat} {ns : List Int} {i : Nat} {x : Int} {c : Nat} {many : Int} {s2 s3 s4 : Slot} (x0 : 0 ≤ x) (x1 : x < 2147483647) (hc : c < 2 ^ 41) (hm : 0 < many) (hm2 : many < 2 ^ 64) :
    ∃ t x', evSs cal L takeTail [bag ns i 0 x c, .fz (.int many), s2, s3, s4] = .rt (.fz (.int (x' / 67 % many))) [bag ns i 0 x' c, .fz (.int many), s2, s3, .fz (.int t)] ∧ 0 ≤ x' ∧ x' < 2147483647 := by
  have b400 : (2 : Nat) ^ 64 < 2 ^ 200 := by decide
  have q1 : mulF (.int x) (.int x) = fI (x * x) := mulF_ok (by omega) (by omega)
  have q2 : mulF (.int c) (.int 8191) = fI (c * 8191) := mulF_ok (by omega) (by decide)
  have q3 : mulF (.int x) (.int 47969) = fI (x * 47969) := mulF_ok (by omega) (by decide)
  have m1 : ∀ y : Int, modF (.int y) (.int 2147483647) = fI (y % 2147483647) := fun y => rfl
  have m2 : ∀ y : Int, modF (.int y) (.int 2147483579) = fI (y % 2147483579) := fun y => rfl
  have m3 : ∀ y : Int, modF (.int y) (.int many) = fI (y % many) := fun y => by
    show (if _ then _ else _) = _
    rw [if_pos hm]
  have d1 : ∀ y : Int, fdivF (.int y) (.int 67) = fI (y / 67) := fun y => by
    show (if (0 : Int) < 67 ∧ (67 : Int).natAbs.log2 < 9000 then fI (y / 67) else none) = _
    rw [if_pos (by decide)]
  obtain ⟨t, ht⟩ : ∃ t, t = (x * x + c * 8191) % 2147483647 := ⟨_, rfl⟩
  have t0 : 0 ≤ t := by rw [ht]; exact Int.emod_nonneg _ (by decide)
  have t1 : t < 2147483647 := by rw [ht]; exact Int.emod_lt_of_pos _ (by decide)
  have q4 : mulF (.int t) (.int 16981) = fI (t * 16981) := mulF_ok (by omega) (by decide)
  refine ⟨t, (t * 16981 + x * 47969 + 70019) % 2147483579, ?_, Int.emod_nonneg _ (by decide), Int.lt_trans (Int.emod_lt_of_pos _ (by decide)) (by decide)⟩
  unfold takeTail bag
  simp [evSs, evS, evE, evDs, Res.bind, ofR, R.opd, opR, ders, der, opF, op2, op1, O.frz, idxF, esc, at4, at3, at2, at1, at0, ix4, ix3, ix2, ix1, fI, fB, cmpF, putR, intF, outR, addF, q1, q2, q3, m1, m2, m3, d1, ← ht, q4]
theorem take_body {cal : Nat → List Slot → CRes} {L : Nat} {ns : List Int} {i : Nat} {r x : Int} {c : Nat} {many : Int} (B : BagS ns i r x c) (hc : c < 2 ^ 40) (hm : 0 < many) (hm2 : many < 2 ^ 64) :
    ∃ d s m, evSs cal L dTake.body [bag ns i r x c, .fz (.int many), .no, .no, .no] = .rt (.fz (.int d)) (s :: m) ∧ 0 ≤ d ∧ d < many ∧ Bag (c + 1) s := by
  obtain ⟨r0, x0, x1⟩ := B
  have key : ∀ {i' : Nat} {r' x' : Int} {s2 : Slot}, 0 ≤ r' → 0 ≤ x' → x' < 2147483647 → ∃ d s m, evSs cal L takeTail [bag ns i' r' x' (c + 1), .fz (.int many), s2, .no, .no] = .rt (.fz (.int d)) (s :: m) ∧ 0 ≤ d ∧ d < many ∧ Bag (c + 1) s := fun {i' r' x' s2} h1 h2 h3 => by
    by_cases hr : 0 < r'
    · exact ⟨_, _, _, tail_pos hr hm hm2, Int.emod_nonneg _ (by omega), Int.emod_lt_of_pos _ hm, ns, i', r' / many, x', rfl, Int.ediv_nonneg h1 (by omega), h2, h3⟩
    · have : r' = 0 := by omega
      subst this
      obtain ⟨t, x'', e, g1, g2⟩ := tail_zero (cal := cal) (L := L) (ns := ns) (i := i') (s2 := s2) (s3 := .no) (s4 := .no) h2 h3 (show c + 1 < 2 ^ 41 by omega) hm hm2
      exact ⟨_, _, _, e, Int.emod_nonneg _ (by omega), Int.emod_lt_of_pos _ hm, ns, i', 0, x'', rfl, Int.le_refl _, g1, g2⟩
  have s1 : ∀ rest, evSs cal L (.cons (.sto 0 (.c (.int 4)) (.op .add (.cons (.op .idx (.cons (.var 0) (.cons (.c (.int 4)) .nil))) (.cons (.c (.int 1)) .nil)))) rest) [bag ns i r x c, .fz (.int many), .no, .no, .no] = evSs cal L rest [bag ns i r x (c + 1), .fz (.int many), .no, .no, .no] := fun rest => by
    unfold bag
    simp [evSs, evS, evE, evDs, Res.bind, ofR, R.opd, opR, ders, der, opF, op2, op1, O.frz, idxF, esc, at4, ix4, fI, addF]
  unfold dTake
  rw [s1]
  by_cases hb : r = 0 ∧ i < ns.length
  · obtain ⟨rfl, hi⟩ := hb
    obtain ⟨n, hn⟩ : ∃ n, ns[i]? = some n := ⟨ns[i], List.getElem?_eq_getElem hi⟩
    have a1 : atI (ns.map T.int) (i : Int) = some (.int n) := atI_nat rfl (by rw [List.getElem?_map, hn]; rfl)
    have p1 : powF (.int 10) (.int 18) = fI 1000000000000000000 := rfl
    have m2 : ∀ y : Int, modF (.int y) (.int 2147483579) = fI (y % 2147483579) := fun y => rfl
    have m3 : ∀ y : Int, modF (.int y) (.int 1000211) = fI (y % 1000211) := fun y => rfl
    have n0 : 0 ≤ n % 1000211 := Int.emod_nonneg _ (by decide)
    have n1 : n % 1000211 < 1000211 := Int.emod_lt_of_pos _ (by decide)
    have b400 : (2 : Nat) ^ 64 < 2 ^ 200 := by decide
    have q1 : mulF (.int x) (.int 47303) = fI (x * 47303) := mulF_ok (by omega) (by decide)
    have q2 : mulF (.int (n % 1000211)) (.int 733) = fI (n % 1000211 * 733) := mulF_ok (by omega) (by decide)
    have e : ∃ r' x' s2, evSs cal L (.cons (.ife (.an (.op .eq (.cons (.op .idx (.cons (.var 0) (.cons (.c (.int 2)) .nil))) (.cons (.c (.int 0)) .nil))) (.op .lt (.cons (.op .idx (.cons (.var 0) (.cons (.c (.int 1)) .nil))) (.cons (.op .len (.cons (.op .idx (.cons (.var 0) (.cons (.c (.int 0)) .nil))) .nil)) .nil)))) (.cons (.set 2 (.op .idx (.cons (.op .idx (.cons (.var 0) (.cons (.c (.int 0)) .nil))) (.cons (.op .idx (.cons (.var 0) (.cons (.c (.int 1)) .nil))) .nil))))
  (.cons (.sto 0 (.c (.int 1)) (.op .add (.cons (.op .idx (.cons (.var 0) (.cons (.c (.int 1)) .nil))) (.cons (.c (.int 1)) .nil))))
  (.cons (.ife (.op .ge (.cons (.op .abs (.cons (.var 2) .nil)) (.cons (.op .pow (.cons (.c (.int 10)) (.cons (.c (.int 18)) .nil))) .nil))) (.cons (.sto 0 (.c (.int 2)) (.op .abs (.cons (.var 2) .nil)))
  .nil) (.cons (.sto 0 (.c (.int 3)) (.op .mod (.cons (.op .int (.cons (.op .add (.cons (.op .add (.cons (.op .mul (.cons (.op .idx (.cons (.var 0) (.cons (.c (.int 3)) .nil))) (.cons (.c (.int 47303)) .nil))) (.cons (.op .mul (.cons (.op .mod (.cons (.op .int (.cons (.var 2) .nil)) (.cons (.c (.int 1000211)) .nil))) (.cons (.c (.int 733)) .nil))) .nil))) (.cons (.c (.int 59)) .nil))) .nil)) (.cons (.c (.int 2147483579)) .nil))))
  .nil))
  .nil))) .nil) takeTail) [bag ns i 0 x (c + 1), .fz (.int many), .no, .no, .no] = evSs cal L takeTail [bag ns (i + 1) r' x' (c + 1), .fz (.int many), s2, .no, .no] ∧ 0 ≤ r' ∧ 0 ≤ x' ∧ x' < 2147483647 := by
      by_cases hg : (1000000000000000000 : Int) ≤ (if n < 0 then -n else n)
      · refine ⟨if n < 0 then -n else n, x, .fz (.int n), ?_, by omega, x0, x1⟩
        unfold bag
        simp [evSs, evS, evE, evDs, Res.bind, ofR, R.opd, opR, ders, der, opF, op2, op1, O.frz, idxF, esc, at4, at3, at2, at1, at0, ix1, ix2, ix3, fI, fB, cmpF, eqF, scalT, flatT, eqT, lenF, hi, a1, p1, absF, hg, addF, putR]
      · refine ⟨0, (x * 47303 + n % 1000211 * 733 + 59) % 2147483579, .fz (.int n), ?_, by omega, Int.emod_nonneg _ (by decide), Int.lt_trans (Int.emod_lt_of_pos _ (by decide)) (by decide)⟩
        unfold bag
        simp [evSs, evS, evE, evDs, Res.bind, ofR, R.opd, opR, ders, der, opF, op2, op1, O.frz, idxF, esc, at4, at3, at2, at1, at0, ix1, ix2, ix3, fI, fB, cmpF, eqF, scalT, flatT, eqT, lenF, hi, a1, p1, absF, hg, addF, intF, m2, m3, q1, q2, putR]
    obtain ⟨r', x', s2, e, g1, g2, g3⟩ := e
    exact e ▸ key g1 g2 g3
  · have e : evSs cal L (.cons (.ife (.an (.op .eq (.cons (.op .idx (.cons (.var 0) (.cons (.c (.int 2)) .nil))) (.cons (.c (.int 0)) .nil))) (.op .lt (.cons (.op .idx (.cons (.var 0) (.cons (.c (.int 1)) .nil))) (.cons (.op .len (.cons (.op .idx (.cons (.var 0) (.cons (.c (.int 0)) .nil))) .nil)) .nil)))) (.cons (.set 2 (.op .idx (.cons (.op .idx (.cons (.var 0) (.cons (.c (.int 0)) .nil))) (.cons (.op .idx (.cons (.var 0) (.cons (.c (.int 1)) .nil))) .nil))))
  (.cons (.sto 0 (.c (.int 1)) (.op .add (.cons (.op .idx (.cons (.var 0) (.cons (.c (.int 1)) .nil))) (.cons (.c (.int 1)) .nil))))
  (.cons (.ife (.op .ge (.cons (.op .abs (.cons (.var 2) .nil)) (.cons (.op .pow (.cons (.c (.int 10)) (.cons (.c (.int 18)) .nil))) .nil))) (.cons (.sto 0 (.c (.int 2)) (.op .abs (.cons (.var 2) .nil)))
  .nil) (.cons (.sto 0 (.c (.int 3)) (.op .mod (.cons (.op .int (.cons (.op .add (.cons (.op .add (.cons (.op .mul (.cons (.op .idx (.cons (.var 0) (.cons (.c (.int 3)) .nil))) (.cons (.c (.int 47303)) .nil))) (.cons (.op .mul (.cons (.op .mod (.cons (.op .int (.cons (.var 2) .nil)) (.cons (.c (.int 1000211)) .nil))) (.cons (.c (.int 733)) .nil))) .nil))) (.cons (.c (.int 59)) .nil))) .nil)) (.cons (.c (.int 2147483579)) .nil))))
  .nil))
  .nil))) .nil) takeTail) [bag ns i r x (c + 1), .fz (.int many), .no, .no, .no] = evSs cal L takeTail [bag ns i r x (c + 1), .fz (.int many), .no, .no, .no] := by
      unfold bag
      by_cases h0 : r = 0
      · have : ¬ i < ns.length := fun z => hb ⟨h0, z⟩
        simp [evSs, evS, evE, evDs, Res.bind, ofR, R.opd, opR, ders, der, opF, op2, op1, O.frz, idxF, esc, at2, at1, at0, fI, fB, cmpF, eqF, scalT, flatT, eqT, lenF, h0, this]
      · have : (r == 0) = false := by simpa using h0
        simp [evSs, evS, evE, evDs, Res.bind, ofR, R.opd, opR, ders, der, opF, op2, op1, O.frz, idxF, esc, at2, at1, at0, fI, fB, cmpF, eqF, scalT, flatT, eqT, lenF, this]
    exact e ▸ key r0 x0 x1
/-! ### a call, by its body's run -/
theorem run_rt {Γ : Nat → Option Def} {L k f : Nat} {d : Def} {args m : List Slot} {r : R} (hf : Γ f = some d) (hl : args.length = d.np) (hr : ∀ i, r ≠ .bo i) (h : evSs (callF Γ L k) L d.body (args ++ List.replicate (d.ns - d.np) .no) = .rt r m) : callF Γ L (k + 1) f args = .ok r (outsM d.io m) := by
  unfold callF
  rw [hf]
  show runD _ _ d _ = _
  unfold runD
  rw [if_pos hl, h]
  cases r with
  | fz t => rfl
  | ow o => rfl
  | bo i => exact absurd rfl (hr i)
theorem run_fz {Γ : Nat → Option Def} {L k f : Nat} {d : Def} {args m : List Slot} {t : T} (hf : Γ f = some d) (hl : args.length = d.np) (h : evSs (callF Γ L k) L d.body (args ++ List.replicate (d.ns - d.np) .no) = .rt (.fz t) m) : callF Γ L (k + 1) f args = .ok (.fz t) (outsM d.io m) := run_rt hf hl (fun _ z => nomatch z) h
theorem run_ow {Γ : Nat → Option Def} {L k f : Nat} {d : Def} {args m : List Slot} {o : O} (hf : Γ f = some d) (hl : args.length = d.np) (h : evSs (callF Γ L k) L d.body (args ++ List.replicate (d.ns - d.np) .no) = .rt (.ow o) m) : callF Γ L (k + 1) f args = .ok (.ow o) (outsM d.io m) := run_rt hf hl (fun _ z => nomatch z) h
theorem take_ok {Γ : Nat → Option Def} {L k f : Nat} (hf : Γ f = some dTake) {s : Slot} {c : Nat} {many : Int} (B : Bag c s) (hc : c < 2 ^ 40) (hm : 0 < many) (hm2 : many < 2 ^ 64) :
    ∃ d s', callF Γ L (k + 1) f [s, .fz (.int many)] = .ok (.fz (.int d)) [s', .no] ∧ 0 ≤ d ∧ d < many ∧ Bag (c + 1) s' := by
  obtain ⟨ns, i, r, x, rfl, B⟩ := B
  obtain ⟨d, s', m, e, h0, h1, h2⟩ := take_body (cal := callF Γ L k) (L := L) B hc hm hm2
  refine ⟨d, s', ?_, h0, h1, h2⟩
  rw [run_fz (args := [bag ns i r x c, .fz (.int many)]) hf rfl e]
  cases m <;> rfl
theorem Bag.ow {c : Nat} {s : Slot} (B : Bag c s) : ∃ o, s = .ow o := by
  obtain ⟨ns, i, r, x, rfl, _⟩ := B
  exact ⟨_, rfl⟩
theorem of_ok {Γ : Nat → Option Def} {L k f t : Nat} (hf : Γ f = some (dOf t)) (ht : Γ t = some dTake) {s : Slot} {c n : Nat} {xs : T} (B : Bag c s) (hc : c < 2 ^ 40) (hx : lenF xs = fI n) (h0 : 0 < n) (h1 : n < 2 ^ 63) (hi : ∀ d : Nat, d < n → ∃ y, idxF xs (.int d) = some (.fz y)) :
    ∃ d y s', callF Γ L (k + 2) f [s, .fz xs] = .ok (.fz y) [s', .no] ∧ d < n ∧ idxF xs (.int (d : Nat)) = some (.fz y) ∧ Bag (c + 1) s' := by
  obtain ⟨d, s', e, g0, g1, B'⟩ := take_ok (Γ := Γ) (L := L) (k := k) ht B hc (show (0 : Int) < n by omega) (by omega)
  obtain ⟨d', rfl⟩ := Int.eq_ofNat_of_zero_le g0
  obtain ⟨y, hy⟩ := hi d' (by omega)
  refine ⟨d', y, s', ?_, by omega, hy, B'⟩
  obtain ⟨o, rfl⟩ := B.ow
  have hb : evSs (callF Γ L (k + 1)) L (dOf t).body ([.ow o, .fz xs] ++ List.replicate ((dOf t).ns - (dOf t).np) .no) = .rt (.fz y) [s', .fz xs] := by
    have hy' : idxF xs (.int (d' : Int)) = some (.fz y) := hy
    have e' : callF Γ L (k + 1) t [.ow o, .fz (.int (n : Int))] = .ok (.fz (.int (d' : Int))) [s', .no] := e
    unfold dOf
    simp [evSs, evS, evE, evDs, Res.bind, ofR, R.opd, opR, ders, der, opF, op2, op1, O.frz, esc, callR, pass, back, hx, fI, e', hy', outR]
  rw [run_fz (args := [.ow o, .fz xs]) hf rfl hb]
  rfl
/-! ### the bag's making -/
theorem bag_loop {cal : Nat → List Slot → CRes} {L : Nat} {s0 : Slot} : ∀ (ns : List Int) (x : Int) (s2 : Slot), 0 ≤ x → x < 2147483647 → ∃ x' s2', forGo (.nm 2) (fun m => evSs cal L bagB m) (ns.map T.int) [s0, .fz (.int x), s2] = .nx [s0, .fz (.int x'), s2'] ∧ 0 ≤ x' ∧ x' < 2147483647
  | [], x, s2, h0, h1 => ⟨x, s2, rfl, h0, h1⟩
  | n :: ns, x, s2, h0, h1 => by
    have n0 : 0 ≤ n % 1000211 := Int.emod_nonneg _ (by decide)
    have n1 : n % 1000211 < 1000211 := Int.emod_lt_of_pos _ (by decide)
    have b400 : (2 : Nat) ^ 64 < 2 ^ 200 := by decide
    have q1 : mulF (.int x) (.int 46337) = fI (x * 46337) := mulF_ok (by omega) (by decide)
    have q2 : mulF (.int (n % 1000211)) (.int 919) = fI (n % 1000211 * 919) := mulF_ok (by omega) (by decide)
    have m2 : ∀ y : Int, modF (.int y) (.int 2147483563) = fI (y % 2147483563) := fun y => rfl
    have m3 : ∀ y : Int, modF (.int y) (.int 1000211) = fI (y % 1000211) := fun y => rfl
    obtain ⟨x', s2', e, g0, g1⟩ := bag_loop (cal := cal) (L := L) (s0 := s0) ns ((x * 46337 + n % 1000211 * 919 + 41) % 2147483563) (.fz (.int n)) (Int.emod_nonneg _ (by decide)) (Int.lt_trans (Int.emod_lt_of_pos _ (by decide)) (by decide))
    refine ⟨x', s2', ?_, g0, g1⟩
    rw [List.map_cons]
    unfold forGo
    rw [← e]
    simp [bagB, bindP, evSs, evS, evE, evDs, Res.bind, ofR, R.opd, opR, ders, der, opF, op2, op1, fI, intF, addF, q1, q2, m2, m3, putR]
theorem bag_ok {Γ : Nat → Option Def} {L k f : Nat} (hf : Γ f = some dBag) {ns : List Int} : ∃ s, callF Γ L (k + 1) f [.fz (.scr ns)] = .ok (.ow s) [.no] ∧ Bag 0 (.ow s) := by
  obtain ⟨x', s2', e, g0, g1⟩ := bag_loop (cal := callF Γ L k) (L := L) (s0 := .fz (.scr ns)) (cutI ns none (some 63)) 12006 .no (by decide) (by decide)
  have hb : evSs (callF Γ L k) L dBag.body ([.fz (.scr ns)] ++ List.replicate (dBag.ns - dBag.np) .no) = .rt (.ow (.lst [.lst ((cutI ns none (some 63)).map .int), .int 0, .int 0, .int x', .int 0])) [.fz (.scr ns), .fz (.int x'), s2'] := by
    have sl : (5 : Nat) ≤ sizeLine := by decide
    unfold dBag
    simp [evSs, evS, evSrc, evE, evDs, Res.bind, ofR, R.opd, opR, ders, der, opF, op2, op1, intO, slF, esc, escs, O.frz, itemsT, putR, e, listF, outR, sl]
  exact ⟨_, run_ow (args := [.fz (.scr ns)]) hf rfl hb, _, 0, 0, x', rfl, Int.le_refl _, g0, g1⟩
end Mi
set_option maxHeartbeats 4000000
namespace Mi
open PySem PySem.Spec PyProof.Rows L2

/-! ### equal, of the same kinds -/
noncomputable def smK (f : Nat) : E := (.call f [false, false] (.cons (.op .idx (.cons (.var 0) (.cons (.var 2) .nil))) (.cons (.op .idx (.cons (.var 1) (.cons (.var 2) .nil))) .nil)))
noncomputable def sameE (f : Nat) : E := (.call f [false, false] (.cons (.var 3) (.cons (.var 4) .nil)))
noncomputable def same0 (f : Nat) : S := (.ife (.or (.op .isn (.cons (.var 1) (.cons (.c .non) .nil))) (.op .isn (.cons (.var 0) (.cons (.c .non) .nil)))) (.cons (.ret (.an (.op .isn (.cons (.var 1) (.cons (.c .non) .nil))) (.op .isn (.cons (.var 0) (.cons (.c .non) .nil)))))
  .nil) .nil)
noncomputable def same1 (f : Nat) : S := (.ife (.op (.isi1 .dict) (.cons (.var 1) .nil)) (.cons (.ife (.or (.nt (.op (.isi1 .dict) (.cons (.var 0) .nil))) (.op .ne (.cons (.op .list (.cons (.var 0) .nil)) (.cons (.op .list (.cons (.var 1) .nil)) .nil)))) (.cons (.ret (.c (.bl false)))
  .nil) .nil)
  (.cons (.ret (.op .all (.cons (.comp [2] (.nm 2) (.it (.var 1)) .nil (smK f)) .nil)))
  .nil)) .nil)
noncomputable def same2 (f : Nat) : S := (.ife (.op (.isi [.list, .tuple]) (.cons (.var 1) .nil)) (.cons (.ife (.op .ne (.cons (.op (.isi1 .list) (.cons (.var 0) .nil)) (.cons (.op (.isi1 .list) (.cons (.var 1) .nil)) .nil))) (.cons (.ret (.c (.bl false)))
  .nil) .nil)
  (.cons (.ife (.or (.op .ne (.cons (.op (.isi1 .tuple) (.cons (.var 0) .nil)) (.cons (.op (.isi1 .tuple) (.cons (.var 1) .nil)) .nil))) (.op .ne (.cons (.op .len (.cons (.var 0) .nil)) (.cons (.op .len (.cons (.var 1) .nil)) .nil)))) (.cons (.ret (.c (.bl false)))
  .nil) .nil)
  (.cons (.ret (.op .all (.cons (.comp [3, 4] (.tup (.cons (.nm 3) (.cons (.nm 4) .nil))) (.zip (.var 0) (.var 1)) .nil (sameE f)) .nil)))
  .nil))) .nil)
noncomputable def same3 (f : Nat) : S := (.ife (.op (.isi [.list, .tuple, .dict]) (.cons (.var 0) .nil)) (.cons (.ret (.c (.bl false)))
  .nil) .nil)
noncomputable def same4 (f : Nat) : S := (.ife (.op .ne (.cons (.op (.isi1 .bool) (.cons (.var 0) .nil)) (.cons (.op (.isi1 .bool) (.cons (.var 1) .nil)) .nil))) (.cons (.ret (.c (.bl false)))
  .nil) .nil)
noncomputable def same5 (f : Nat) : S := (.ife (.op .ne (.cons (.op (.isi1 .int) (.cons (.var 0) .nil)) (.cons (.op (.isi1 .int) (.cons (.var 1) .nil)) .nil))) (.cons (.ret (.c (.bl false)))
  .nil) .nil)
noncomputable def same6 (f : Nat) : S := (.ret (.an (.op .eq (.cons (.op (.isi1 .str) (.cons (.var 0) .nil)) (.cons (.op (.isi1 .str) (.cons (.var 1) .nil)) .nil))) (.op .eq (.cons (.var 0) (.cons (.var 1) .nil)))))
noncomputable def dSame (f : Nat) : Def := ⟨2, 5, [false, false],
  (.cons (same0 f) (.cons (same1 f) (.cons (same2 f) (.cons (same3 f) (.cons (same4 f) (.cons (same5 f) (.cons (same6 f) .nil)))))))⟩
theorem seq_nx {cal : Nat → List Slot → CRes} {L : Nat} {s : S} {r : Ss} {m m' : List Slot} (h : evS cal L s m = .nx m') : evSs cal L (.cons s r) m = evSs cal L r m' := by
  rw [evSs, h]
theorem seq_rt {cal : Nat → List Slot → CRes} {L : Nat} {s : S} {r : Ss} {m m' : List Slot} {x : R} (h : evS cal L s m = .rt x m') : evSs cal L (.cons s r) m = .rt x m' := by
  rw [evSs, h]
/-! ### the law's draws, at a slot -/
theorem idx_lst {xs : List T} {d : Nat} (h : d < xs.length) : ∃ y, idxF (.lst xs) (.int d) = some (.fz y) := by
  refine ⟨xs[d], ?_⟩
  show (atI xs d).map _ = _
  rw [atI_nat (x := xs[d]) rfl (List.getElem?_eq_getElem h)]
  rfl
theorem idx_lst_mem {xs : List T} {d : Nat} {y : T} (hd : d < xs.length) (h : idxF (.lst xs) (.int d) = some (.fz y)) : y ∈ xs := by
  have h : (atI xs (d : Int)).map R.fz = some (.fz y) := h
  rw [atI_nat (x := xs[d]) rfl (List.getElem?_eq_getElem hd)] at h
  cases h
  exact List.getElem_mem hd
/-- displays -/
theorem ds_nil {cal : Nat → List Slot → CRes} {m : List Slot} : evDs cal .nil m = .ok [] m := by rw [evDs]
theorem ds_cons {cal : Nat → List Slot → CRes} {e : E} {r : Es} {m m1 m2 : List Slot} {x : R} {t : T} {ts : List T} (h : evE cal e m = .ok x m1) (hx : x.opd = .t t) (h' : evDs cal r m1 = .ok (ts.map Opd.t) m2) : evDs cal (.cons e r) m = .ok ((t :: ts).map Opd.t) m2 := by
  rw [evDs, h]
  simp only [Res.bind, h', hx, List.map_cons]
theorem escs_t {m : List Slot} : ∀ ts : List T, escs m (ts.map Opd.t) = some (ts, m)
  | [] => rfl
  | t :: ts => by simp only [List.map_cons, escs, esc, escs_t ts]
theorem ev_lst {cal : Nat → List Slot → CRes} {es : Es} {m m1 : List Slot} {ts : List T} (h : evDs cal es m = .ok (ts.map Opd.t) m1) (hl : ts.length ≤ sizeLine) : evE cal (.lst es) m = .ok (.ow (.lst ts)) m1 := by
  rw [evE, h]
  simp only [Res.bind, escs_t, if_pos hl]
theorem ev_tup {cal : Nat → List Slot → CRes} {es : Es} {m m1 : List Slot} {ts : List T} (h : evDs cal es m = .ok (ts.map Opd.t) m1) (hl : ts.length ≤ sizeLine) : evE cal (.tup es) m = .ok (.fz (.tup ts)) m1 := by
  rw [evE, h]
  simp only [Res.bind, escs_t, if_pos hl]
theorem src_rng1 {cal : Nat → List Slot → CRes} {e : E} {m m1 : List Slot} {j : Int} (h : evE cal e m = .ok (.fz (.int j)) m1) (hw : wideI j = true) : evSrc cal (.rng1 e) m = .ok (Mi.rangeT 0 j) m1 := by
  rw [evSrc, h]
  simp only [Res.bind, R.opd, der, hw, if_true]
theorem src_it {cal : Nat → List Slot → CRes} {e : E} {m m1 m2 : List Slot} {r : R} {t : T} {xs : List T} (h : evE cal e m = .ok r m1) (he : esc m1 r.opd = some (t, m2)) (hi : itemsT t = some xs) : evSrc cal (.it e) m = .ok xs m2 := by
  rw [evSrc, h]
  simp only [Res.bind, he, hi]
/-! own calls -/
theorem ev_call1 {cal : Nat → List Slot → CRes} {f : Nat} {a : E} {m m1 : List Slot} {r : R} {t u : T} {o : Slot} (h : evE cal a m = .ok r m1) (hr : r.opd = .t t) (hc : cal f [.fz t] = .ok (.fz u) [o]) : evE cal (.call f [false] (.cons a .nil)) m = .ok (.fz u) m1 := by
  rw [evE, evDs, h]
  simp [Res.bind, evDs, hr, callR, pass, esc, hc, back]
theorem ev_call2 {cal : Nat → List Slot → CRes} {f : Nat} {a b : E} {m m1 m2 : List Slot} {r r' : R} {t t' u : T} {o o' : Slot} (h : evE cal a m = .ok r m1) (hr : r.opd = .t t) (h' : evE cal b m1 = .ok r' m2) (hr' : r'.opd = .t t') (hc : cal f [.fz t, .fz t'] = .ok (.fz u) [o, o']) : evE cal (.call f [false, false] (.cons a (.cons b .nil))) m = .ok (.fz u) m2 := by
  rw [evE, evDs, h]
  simp only [Res.bind]
  rw [evDs, h']
  simp [Res.bind, evDs, hr, hr', callR, pass, esc, hc, back]
/-- flat values, compared -/
noncomputable def sameT : T → T → Bool
  | .non, .non => true
  | .bl a, .bl b => a == b
  | .int a, .int b => a == b
  | .str a, .str b => a == b
  | _, _ => false
theorem same_flat {Γ : Nat → Option Def} {L k f s : Nat} (hf : Γ f = some (dSame s)) {x y : T} (hx : flatT x = true) (hy : flatT y = true) : callF Γ L (k + 1) f [.fz x, .fz y] = .ok (.fz (.bl (sameT x y))) [.no, .no] := by
  have hb : ∃ m, evSs (callF Γ L k) L (dSame s).body ([.fz x, .fz y] ++ List.replicate ((dSame s).ns - (dSame s).np) .no) = .rt (.fz (.bl (sameT x y))) m := by
    cases x <;> first | (cases hx; done) | skip
    all_goals (cases y <;> first | (cases hy; done) | skip)
    all_goals exact ⟨_, rfl⟩
  obtain ⟨m, hb⟩ := hb
  rw [run_fz (args := [.fz x, .fz y]) hf rfl hb]
  rcases m with _ | ⟨a, _ | ⟨b, m⟩⟩ <;> rfl
theorem ev_an1 {cal : Nat → List Slot → CRes} {a b : E} {m m1 : List Slot} (h : evE cal a m = .ok (.fz (.bl true)) m1) : evE cal (.an a b) m = evE cal b m1 := by rw [evE, h]; rfl
theorem ev_an0 {cal : Nat → List Slot → CRes} {a b : E} {m m1 : List Slot} (h : evE cal a m = .ok (.fz (.bl false)) m1) : evE cal (.an a b) m = .ok (.fz (.bl false)) m1 := by rw [evE, h]; rfl
theorem ev_or1 {cal : Nat → List Slot → CRes} {a b : E} {m m1 : List Slot} (h : evE cal a m = .ok (.fz (.bl true)) m1) : evE cal (.or a b) m = .ok (.fz (.bl true)) m1 := by rw [evE, h]; rfl
theorem ev_or0 {cal : Nat → List Slot → CRes} {a b : E} {m m1 : List Slot} (h : evE cal a m = .ok (.fz (.bl false)) m1) : evE cal (.or a b) m = evE cal b m1 := by rw [evE, h]; rfl
theorem ev_nt {cal : Nat → List Slot → CRes} {a : E} {m m1 : List Slot} {b : Bool} (h : evE cal a m = .ok (.fz (.bl b)) m1) : evE cal (.nt a) m = .ok (.fz (.bl (!b))) m1 := by rw [evE, h]; rfl
theorem ev_op1 {cal : Nat → List Slot → CRes} {f : Op} {a : E} {m m1 : List Slot} {t : T} {r : R} (h : evE cal a m = .ok (.fz t) m1) (hr : opF f [t] = some r) : evE cal (.op f (.cons a .nil)) m = .ok r m1 := by
  rw [evE, evDs, h]; simp [Res.bind, evDs, opR, ders, der, R.opd, hr]
theorem ev_op2 {cal : Nat → List Slot → CRes} {f : Op} {a b : E} {m m1 m2 : List Slot} {t u : T} {r : R} (h : evE cal a m = .ok (.fz t) m1) (h' : evE cal b m1 = .ok (.fz u) m2) (hr : opF f [t, u] = some r) : evE cal (.op f (.cons a (.cons b .nil))) m = .ok r m2 := by
  rw [evE, evDs, h]
  simp only [Res.bind]
  rw [evDs, h']
  simp [Res.bind, evDs, opR, ders, der, R.opd, hr]
theorem ev_var {cal : Nat → List Slot → CRes} {i : Nat} {m : List Slot} {t : T} (h : m[i]? = some (.fz t)) : evE cal (.var i) m = .ok (.fz t) m := by rw [evE, h]
theorem ev_c {cal : Nat → List Slot → CRes} {m : List Slot} {t : T} : evE cal (.c t) m = .ok (.fz t) m := by rw [evE]
theorem st_ret_fz {cal : Nat → List Slot → CRes} {L : Nat} {e : E} {m m1 : List Slot} {t : T} (h : evE cal e m = .ok (.fz t) m1) : evS cal L (.ret e) m = .rt (.fz t) m1 := by rw [evS, h]; rfl
theorem st_if1 {cal : Nat → List Slot → CRes} {L : Nat} {c : E} {a b : Ss} {m m1 : List Slot} (h : evE cal c m = .ok (.fz (.bl true)) m1) : evS cal L (.ife c a b) m = evSs cal L a m1 := by rw [evS, h]; rfl
theorem st_if0 {cal : Nat → List Slot → CRes} {L : Nat} {c : E} {a b : Ss} {m m1 : List Slot} (h : evE cal c m = .ok (.fz (.bl false)) m1) : evS cal L (.ife c a b) m = evSs cal L b m1 := by rw [evS, h]; rfl
theorem st_set_fz {cal : Nat → List Slot → CRes} {L : Nat} {i : Nat} {e : E} {m m1 : List Slot} {t : T} (h : evE cal e m = .ok (.fz t) m1) (hi : i < m1.length) : evS cal L (.set i e) m = .nx (m1.set i (.fz t)) := by rw [evS, h]; exact if_pos hi
theorem st_set_ow {cal : Nat → List Slot → CRes} {L : Nat} {i : Nat} {e : E} {m m1 : List Slot} {o : O} (h : evE cal e m = .ok (.ow o) m1) (hi : i < m1.length) : evS cal L (.set i e) m = .nx (m1.set i (.ow o)) := by rw [evS, h]; exact if_pos hi
end Mi
set_option maxHeartbeats 2000000
namespace MiP
open PySem PySem.Spec PyProof.Rows
section
variable {prog : Program} {w : World} {M : Model} {A : Around} {E : Value → Shared → Prop} {s : Shared} {K : PySem.W.Frag} {x C f : Addr} {ox : Obj} {od : Option Obj} {v b : Value}
theorem own_bin {op : Operator} {Q : Value → Shared → Prop} (X : K.In s.heap) (I : PySem.W.InstAt s.heap x ox C od) (hb : PySem.W.Looks (model prog w) s.heap (typeOf b) (.ref C)) (hc : PySem.W.selfFirst K C = true)
    (hs : PySem.W.findIn K (.ref C) (PySem.dunder op.info.2) = some (some (.ref f))) (hf : PySem.W.isFn K (.ref f) = true)
    (h : wpAny (model prog w) A (call (.ref f) [.ref x, b]) (PySem.W.CmpBack Q) E s) : wpAny (model prog w) A (binaryOp op (.ref x) b) Q E s := by
  obtain ⟨cd, hcd, hm⟩ : ∃ cd, PySem.W.clsIn K C = some cd ∧ (cd.mro.head? == some (.ref C)) = true := by
    unfold PySem.W.selfFirst at hc
    cases q : PySem.W.clsIn K C with
    | none => rw [q] at hc; cases hc
    | some cd => rw [q] at hc; exact ⟨cd, rfl, hc⟩
  obtain ⟨rest, hm⟩ : ∃ rest, cd.mro = .ref C :: rest := by
    cases q : cd.mro with
    | nil => rw [q] at hm; cases hm
    | cons a r => rw [q] at hm; exact ⟨r, by rw [List.head?_cons] at hm; cases (beq_iff_eq.mp hm); rfl⟩
  unfold binaryOp
  refine wpAny_holding (wpAny_bind ?_)
  unfold binaryOp1
  refine wpAny_bind (I.type.here (wpAny_bind (hb.here (wpAny_bind ((PySem.W.fills_K X hcd hm hs).here ?_)))))
  simp only [beq_self_eq_true, if_true]
  refine wpAny_bind (wpAny_pure ?_)
  simp only [Bool.and_false, Bool.false_eq_true, if_false, Bool.false_and]
  refine wpAny_bind (wpAny_pure ?_)
  simp only [Bool.false_eq_true, if_false]
  refine wpAny_bind (m := tryMethod (.ref x) _ b) ?_
  unfold tryMethod
  refine wpAny_bind (PySem.W.special_fn X I hs (beq_iff_eq.mp hf) (wpAny_mono h (fun v s' hv => ?_) fun _ _ e => e))
  cases v <;> first | exact hv.elim | exact wpAny_pure (wpAny_pure (wpAny_pure hv))
theorem own_cont {Q : Bool → Shared → Prop} (X : K.In s.heap) (I : PySem.W.InstAt s.heap x ox C od) (hs : PySem.W.findIn K (.ref C) "__contains__" = some (some (.ref f))) (hf : PySem.W.isFn K (.ref f) = true)
    (h : wpAny M A (call (.ref f) [.ref x, v]) (fun r s' => ∃ k, r = .bool k ∧ Q k s') E s) : wpAny M A (contains (.ref x) v) Q E s := by
  unfold contains
  refine wpAny_holding (wpAny_bind (wpAny_bind (I.type.here ((PySem.W.looks_findIn X hs).here ?_))))
  rw [if_neg (by simp)]
  refine wpAny_bind (PySem.W.unlessNone_K X I hs hf (wpAny_mono h (fun r s' hr => ?_) fun _ _ z => z))
  obtain ⟨k, rfl, q⟩ := hr
  first
    | exact wpAny_truthy_bool q
    | exact wpAny_pure q
theorem own_in {Q : Value → Shared → Prop} (X : K.In s.heap) (I : PySem.W.InstAt s.heap x ox C od) (hs : PySem.W.findIn K (.ref C) "__contains__" = some (some (.ref f))) (hf : PySem.W.isFn K (.ref f) = true)
    (h : wpAny M A (call (.ref f) [.ref x, v]) (fun r s' => ∃ k, r = .bool k ∧ Q (.bool k) s') E s) : wpAny M A (compareOp .In v (.ref x)) Q E s :=
  wpAny_bind (own_cont X I hs hf (wpAny_mono h (fun _ _ ⟨k, e, q⟩ => ⟨k, e, wpAny_pure q⟩) fun _ _ z => z))
theorem own_inv {Q : Value → Shared → Prop} (X : K.In s.heap) (I : PySem.W.InstAt s.heap x ox C od) (hs : PySem.W.findIn K (.ref C) "__invert__" = some (some (.ref f))) (hf : PySem.W.isFn K (.ref f) = true)
    (h : wpAny M A (call (.ref f) [.ref x]) Q E s) : wpAny M A (unaryOp .Invert (.ref x)) Q E s := by
  unfold unaryOp
  refine wpAny_holding ?_
  exact wpAny_bind (PySem.W.special_fn X I hs (beq_iff_eq.mp hf) (wpAny_mono h (fun _ _ z => wpAny_pure z) fun _ _ z => z))
end
end MiP
namespace Mi
open PySem PySem.Spec PyProof.Rows L2
theorem relV_cb {v : V} {r : Value} {P : Value → Shared → Prop} {s : Shared} (h : RelV v r) (p : P r s) : PySem.W.CmpBack P r s := by
  cases r <;> try exact p
  case notImplemented =>
    cases v <;> first | (obtain ⟨t, e⟩ := h; exact nomatch e) | cases h
section
variable {X : Cx} {k : Nat} {f C : Addr} {fd : FuncData} {ps : List Str} {sp : Sp}
noncomputable def rBin (C : Addr) (sp : Sp) : R2 := fun x y H Q => ∃ a dx fs b dy gs, x = .ref a ∧ y = .ref b ∧ H a = some (.ins C dx fs) ∧ H b = some (.ins C dy gs) ∧ sp [x, y] H Q EF
theorem op_own {op : Operator} (hc : PySem.W.selfFirst X.K C = true) (hm : Meth X.K C (PySem.dunder op.info.2) f) (F : FnOk X.prog X.w X.K X.mg X.base (L2.CX X.prog X.w) k f fd ps sp) (hr : Room k X.A) (hb : Binds X.K fd ps []) : OpR X (binaryOp op) (rBin C sp) := by
  intro pins s σ H x y v u Q I rx ry h
  obtain ⟨a, dx, fs, b, dy, gs, rfl, rfl, ea, eb, q⟩ := h
  have rx' := rx
  have ry' := ry
  cases rx
  cases ry
  obtain ⟨mA, O, _⟩ := ins_get I.hok ea
  obtain ⟨od, J, _⟩ := O.look
  obtain ⟨mB, O2, _⟩ := ins_get I.hok eb
  obtain ⟨od2, J2, _⟩ := O2.look
  exact MiP.own_bin I.kIn J J2.type hc hm.at_ hm.fn (thn (run_fn (dvs := []) (ds := []) F hr hb .nil passEF I (.cons rx' (.cons ry' .nil)) (by rw [List.append_nil]; exact q)) fun r s' hh => by
    obtain ⟨v', H', I', rv, q'⟩ := hh
    exact relV_cb rv ⟨v', H', I', rv, q'⟩)
noncomputable def rInn (C : Addr) (sp : Sp) (neg : Bool) : R2 := fun x y H Q => ∃ a dx fs, y = .ref a ∧ H a = some (.ins C dx fs) ∧ sp [y, x] H (fun v H' => ∃ b, v = .bl b ∧ Q (.bl (if neg = true then !b else b)) H') EF
theorem op_inn (hm : Meth X.K C "__contains__" f) (F : FnOk X.prog X.w X.K X.mg X.base (L2.CX X.prog X.w) k f fd ps sp) (hr : Room k X.A) (hb : Binds X.K fd ps []) : OpR X (compareOp .In) (rInn C sp false) := by
  intro pins s σ H x y v u Q I rx ry h
  obtain ⟨a, dx, fs, rfl, ea, q⟩ := h
  have ry' := ry
  cases ry
  obtain ⟨mA, O, _⟩ := ins_get I.hok ea
  obtain ⟨od, J, _⟩ := O.look
  refine MiP.own_in I.kIn J hm.at_ hm.fn (thn (run_fn (dvs := []) (ds := []) F hr hb .nil passEF I (.cons ry' (.cons rx .nil)) (by rw [List.append_nil]; exact q)) fun r s' hh => ?_)
  obtain ⟨v', H', I', rv, b, e, q'⟩ := hh
  subst e
  cases rv
  exact ⟨b, rfl, .bl b, H', I', rfl, q'⟩
noncomputable def rUno (C : Addr) (sp : Sp) : V → Hp → VK → Prop := fun x H Q => ∃ a dx fs, x = .ref a ∧ H a = some (.ins C dx fs) ∧ sp [x] H Q EF
theorem op_inv (hm : Meth X.K C "__invert__" f) (F : FnOk X.prog X.w X.K X.mg X.base (L2.CX X.prog X.w) k f fd ps sp) (hr : Room k X.A) (hb : Binds X.K fd ps []) : UnR X (unaryOp .Invert) (rUno C sp) := by
  intro pins s σ H x v Q I rx h
  obtain ⟨a, dx, fs, rfl, ea, q⟩ := h
  have rx' := rx
  cases rx
  obtain ⟨mA, O, _⟩ := ins_get I.hok ea
  obtain ⟨od, J, _⟩ := O.look
  exact MiP.own_inv I.kIn J hm.at_ hm.fn (run_fn (dvs := []) (ds := []) F hr hb .nil passEF I (.cons rx' .nil) (by rw [List.append_nil]; exact q))
end
section
variable {C : Ct} {X : Cx} {cal : Nat → List Slot → CRes} {L : Nat}
theorem n_bop {ex ea eb : Expr} {c f : Nat} {a b : E} (hp : ∀ ta tb, PE X ea ta → PE X eb tb → PE X ex (tOp (rBin (C.G.cls c) (spM C.G cal f)) ta tb)) (ha : PE X ea (rdE C (evE cal a))) (hb : PE X eb (rdE C (evE cal b))) : PE X ex (rdE C (evE cal (.bop c f a b))) := PE.imp (hp _ _ (pe_opd ha) (pe_opd hb)) fun σ H Q ⟨w, m, e, P, q⟩ => by
  rw [evE, Res.sat_bind] at q
  refine ⟨w, m, e, P, ?_⟩
  rw [opdF, Res.sat_bind]
  refine Res.sat_mono q fun ra m1 q1 w1 v1 S1 x1 r1 => ?_
  rw [Res.sat_bind] at q1
  refine ⟨w1, m1, rfl, P.step S1 x1, ?_⟩
  rw [opdF, Res.sat_bind]
  refine Res.sat_mono q1 fun rb m2 q2 w2 v2 S2 x2 r2 => ?_
  split at q2
  · rename_i c1 fs c2 gs hd1 hd2
    split at q2
    · rename_i hcc
      obtain ⟨rfl, rfl⟩ := hcc
      obtain ⟨p, dx, us, rfl, h1, h2⟩ := (S2.der (r1.mono x2.mo) hd1).ins
      obtain ⟨p', dx', us', rfl, h1', h2'⟩ := (S2.der r2 hd2).ins
      exact ⟨p, dx, us, p', dx', us', rfl, rfl, h1, h1', call_quiet ((P.step S1 x1).step S2 x2) (.cons (r1.mono x2.mo) (.cons r2 .nil)) (Res.sat_mono q2 fun r m3 q3 w3 v3 S3 x3 r3 => q3 w3 v3 S3 (x1.trans (x2.trans x3)) r3)⟩
    · exact q2.elim
  · exact q2.elim
theorem n_uop {ex ea : Expr} {c f : Nat} {a : E} (hp : ∀ ta, PE X ea ta → PE X ex (tUn (rUno (C.G.cls c) (spM C.G cal f)) ta)) (ha : PE X ea (rdE C (evE cal a))) : PE X ex (rdE C (evE cal (.uop c f a))) := PE.imp (hp _ (pe_opd ha)) fun σ H Q ⟨w, m, e, P, q⟩ => by
  rw [evE, Res.sat_bind] at q
  refine ⟨w, m, e, P, ?_⟩
  rw [opdF, Res.sat_bind]
  refine Res.sat_mono q fun ra m1 q1 w1 v1 S1 x1 r1 => ?_
  split at q1
  · rename_i c1 fs hd1
    split at q1
    · rename_i hcc
      subst hcc
      obtain ⟨p, dx, us, rfl, h1, h2⟩ := (S1.der r1 hd1).ins
      exact ⟨p, dx, us, rfl, h1, call_quiet (P.step S1 x1) (.cons r1 .nil) (Res.sat_mono q1 fun r m3 q3 w3 v3 S3 x3 r3 => q3 w3 v3 S3 (x1.trans x3) r3)⟩
    · exact q1.elim
  · exact q1.elim
theorem rd_inn {neg : Bool} {c f : Nat} {a b : E} {σ : St} {H : Hp} {Q : VK} (h : rdE C (evE cal (.inn neg c f a b)) σ H Q) : tOp (rInn (C.G.cls c) (spM C.G cal f) neg) (rdD C (opdF (evE cal a))) (rdD C (opdF (evE cal b))) σ H Q := by
  obtain ⟨w, m, e, P, q⟩ := h
  rw [evE, Res.sat_bind] at q
  refine ⟨w, m, e, P, ?_⟩
  rw [opdF, Res.sat_bind]
  refine Res.sat_mono q fun ra m1 q1 w1 v1 S1 x1 r1 => ?_
  rw [Res.sat_bind] at q1
  refine ⟨w1, m1, rfl, P.step S1 x1, ?_⟩
  rw [opdF, Res.sat_bind]
  refine Res.sat_mono q1 fun rb m2 q2 w2 v2 S2 x2 r2 => ?_
  split at q2
  · rename_i c1 fs hd1
    split at q2
    · rename_i hcc
      subst hcc
      obtain ⟨p, dx, us, rfl, h1, h2⟩ := (S2.der r2 hd1).ins
      rw [Res.sat_bind] at q2
      refine ⟨p, dx, us, rfl, h1, call_quiet ((P.step S1 x1).step S2 x2) (.cons r2 (.cons (r1.mono x2.mo) .nil)) (Res.sat_mono q2 fun r m3 q3 w3 v3 S3 x3 r3 => ?_)⟩
      cases r with
      | ow o => exact q3.elim
      | bo k => exact q3.elim
      | fz t =>
        cases t <;> try (exact q3.elim)
        case bl k =>
          cases r3
          exact ⟨k, rfl, q3 w3 _ S3 (x1.trans (x2.trans x3)) (.bl _)⟩
    · exact q2.elim
  · exact q2.elim
theorem n_inn {ex ea eb : Expr} {neg : Bool} {c f : Nat} {a b : E} (hp : ∀ ta tb, PE X ea ta → PE X eb tb → PE X ex (tOp (rInn (C.G.cls c) (spM C.G cal f) neg) ta tb)) (ha : PE X ea (rdE C (evE cal a))) (hb : PE X eb (rdE C (evE cal b))) : PE X ex (rdE C (evE cal (.inn neg c f a b))) := PE.imp (hp _ _ (pe_opd ha) (pe_opd hb)) fun σ H Q q => rd_inn q
theorem n_dic0 {ex : Expr} (hp : PE X ex tDNewK) : PE X ex (rdE C (evE cal .dic0)) := PE.imp hp fun σ H Q ⟨w, m, e, P, q⟩ => by
  rw [evE] at q
  intro p hp
  rw [← e] at hp ⊢
  exact After.new (o := .dic []) q P.sr hp (.dic upd_same .nil)
/-- isinstance of an own class: every kind of value has its answer -/
structure KitC (G : Gm) (c : Nat) (cs ns : List Nat) : Prop where
  ty : ∀ x ∈ ["NoneType", "bool", "int", "str", "list", "tuple", "dict"], PySem.W.kitOne G.K (.type x) (.ref (G.cls c)) = some false
  yes : ∀ c' ∈ cs, PySem.W.kitOne G.K (.ref (G.cls c')) (.ref (G.cls c)) = some true ∧ ClX G.K (G.cls c')
  no : ∀ c' ∈ ns, PySem.W.kitOne G.K (.ref (G.cls c')) (.ref (G.cls c)) = some false ∧ ClX G.K (G.cls c')
theorem n_isc {ex ea : Expr} {c : Nat} {cs ns : List Nat} {a : E} (kc : KitC C.G c cs ns) (hp : ∀ ta, PE X ea ta → PE X ex (tUn (fun x H Q => rIsi C.G.K [x, .ref (C.G.cls c)] H Q) ta)) (ha : PE X ea (rdE C (evE cal a))) : PE X ex (rdE C (evE cal (.isc cs ns a))) := PE.imp (hp _ (pe_opd ha)) fun σ H Q ⟨w, m, e, P, q⟩ => by
  rw [evE, Res.sat_bind] at q
  refine ⟨w, m, e, P, ?_⟩
  rw [opdF, Res.sat_bind]
  refine Res.sat_mono q fun ra m1 q1 w1 v1 S1 x1 r1 => ?_
  split at q1
  · rename_i c' fs hd
    have r := S1.der r1 hd
    obtain ⟨p, dx, us, rfl, h1, h2⟩ := r.ins
    split at q1
    · rename_i hy
      obtain ⟨k1, cl⟩ := kc.yes c' hy
      exact ⟨_, _, _, _, _, rfl, .own _, .base (.ins h1 cl.cl cl.ha cl.hn cl.htk cl.hm), k1, q1 w1 _ S1 x1 (.bl _)⟩
    · split at q1
      · rename_i hy
        obtain ⟨k1, cl⟩ := kc.no c' hy
        exact ⟨_, _, _, _, _, rfl, .own _, .base (.ins h1 cl.cl cl.ha cl.hn cl.htk cl.hm), k1, q1 w1 _ S1 x1 (.bl _)⟩
      · exact q1.elim
  · rename_i t hi hd
    have r := S1.der r1 hd
    have nt : ∀ c fs, t ≠ .ins c fs := fun c fs z => hi c fs z
    refine ⟨_, _, _, _, _, rfl, .own _, r.ty nt, kc.ty _ ?_, q1 w1 _ S1 x1 (.bl _)⟩
    cases t <;> first | exact absurd rfl (nt _ _) | simp [tyT]
  · exact q1.elim
end
end Mi
set_option maxHeartbeats 2000000
namespace Mi
open PySem PySem.Spec PyProof.Rows L2
section
variable {C : Ct} {X : Cx} {cal : Nat → List Slot → CRes}
theorem rd_dcm {own : List Nat} {p : Pt} {s : Src} {cs : Es} {ke e : E} {g : TG} (hg : GP C.G p g) (hsub : ∀ j ∈ p.sl, j ∈ own) {σ : St} {H : Hp} {Q : VK} (h : rdE C (evE cal (.dcm own p s cs ke e)) σ H Q) :
    tDc (rdS C (evSrc cal s)) g (rdB C.inn (evAll cal cs)) (rdE C.inn (evE cal ke)) (rdE C.inn (evE cal e)) own σ H Q := by
  obtain ⟨w, m, eH, P, q⟩ := h
  rw [evE, Res.sat_bind] at q
  refine ⟨w, m, eH, P, Res.sat_mono q fun xs m1 q1 w1 J S1 x1 it => ?_⟩
  split at q1
  · rename_i no
    intro D hD
    rw [Res.sat_bind] at q1
    have q1 := Res.sat_calm q1
    have nf1 : ¬ w1.F D := fun f => by
      obtain ⟨u, z⟩ := S1.trk D f
      rw [hD] at z; cases z
    refine ⟨fun i n H => i + n = xs.length ∧ ∃ wq mc acc vs, wq.H = H ∧ SR C.G wq mc (wipe σ own) ∧ Ex w1 wq ∧ ¬ wq.F D ∧ ¬ wq.L D ∧ wq.H D = some (.dK vs) ∧ RFk C.G wq acc vs ∧
      (dcGo own p (fun m => evAll cal cs m) (fun m => evE cal ke m) (fun m => evE cal e m) (xs.drop i) acc mc).sat (fun acc m2 => (Res.ok (R.ow (.dic acc)) (restM m1 m2 own)).sat (fun r m' => ∀ w' v, SR C.G w' m' σ → Ex w w' → RR C.G w' m' σ r v → Q v w'.H) C.EM) fun _ _ => False, ?_, ?_⟩
    · refine ⟨xs.length, by omega, ?_⟩
      have S0 := S1.wipe own
      have nlD : ∃ w1' : Wd, w1'.H = w1.H ∧ SR C.G w1' (wipeM m1 own) (wipe σ own) ∧ Ex w1 w1' ∧ ¬ w1'.F D ∧ ¬ w1'.L D := by
        refine ⟨⟨w1.F, fun a => w1.L a ∧ a ≠ D, w1.H⟩, rfl, ?_, ⟨fun _ h => h, fun _ _ => .refl _, fun a u h1 h2 h3 => ⟨h1, h2, fun z => h3 z.1⟩⟩, nf1, fun z => z.2 rfl⟩
        refine ⟨S0.len, fun j s h => ?_, S0.inj, fun a l f => S0.sep a l.1 f, S0.trk⟩
        have q := S0.sl j s h
        cases s with
        | no => trivial
        | fz t => obtain ⟨x, a, b⟩ := q; exact ⟨x, a, RF.mono (w := w1) (w' := ⟨w1.F, fun a => w1.L a ∧ a ≠ D, w1.H⟩) (mo_same rfl rfl) b⟩
        | ow o =>
          obtain ⟨a, e1, r, l⟩ := q
          refine ⟨a, e1, r.mono (mo_same rfl rfl) rfl, l, fun z => ?_⟩
          obtain ⟨u, hu⟩ := r.trk
          rw [z, hD] at hu; cases hu
      obtain ⟨w1', e1', S1', x1', nf', nl'⟩ := nlD
      refine ⟨w1'.wr D (.dK []), wipeM m1 own, [], [], by show upd w1'.H D _ = _; rw [e1'], S1'.poke nf' nl', x1'.poke hD nf', nf', nl', upd_same, .nil, ?_⟩
      rw [List.drop_zero]
      exact q1
    · rintro i n H ⟨hin, wc, mc, acc, vs, rfl, S, xc, nf, nl, hDv, rs, q2⟩
      cases hdr : xs.drop i with
      | nil =>
        have hi : i = xs.length := by
          have := congrArg List.length hdr
          rw [List.length_drop] at this
          simp at this
          omega
        subst hi
        rw [hdr] at q2
        have q2 : ∀ w' v, SR C.G w' (restM m1 mc own) σ → Ex w w' → RR C.G w' (restM m1 mc own) σ (.ow (.dic acc)) v → Q v w'.H := q2
        refine .inl ⟨it.stop wc xc.mo, ?_⟩
        have S2 : SR C.G wc (restM m1 mc own) σ := SR.rest S1 xc.mo S (wipe_length ..) (fun j hj => wipe_out hj) no
        refine q2 (wc.ad D) (.ref D) (S2.adopt nf) (x1.trans (xc.adopt hD)) ⟨D, rfl, .dic hDv (RFk.mono (w := wc) (w' := wc.ad D) (mo_same rfl rfl) rs), .inr rfl, fun j o' hj z => ?_⟩
        obtain ⟨a, e1, _, l⟩ := S2.sl j _ hj
        rw [z] at e1
        cases e1
        exact nl l
      | cons x rest =>
        have hx : xs[i]? = some x := by
          have := congrArg (fun l => l[0]?) hdr
          simpa using this
        have hlt : i < xs.length := (List.getElem?_eq_some_iff.mp hx).1
        have hrest : xs.drop (i + 1) = rest := by
          have := congrArg List.tail hdr
          simpa using this
        rw [hdr] at q2
        unfold dcGo at q2
        obtain ⟨hgo, hyl⟩ := it.go i x wc xc.mo hx
        refine .inr ⟨hgo, fun H' => ∃ wq mc acc vs, wq.H = H' ∧ SR C.G wq mc (wipe σ own) ∧ Ex w1 wq ∧ ¬ wq.F D ∧ ¬ wq.L D ∧ wq.H D = some (.dK vs) ∧ RFk C.G wq acc vs ∧
          (dcGo own p (fun m => evAll cal cs m) (fun m => evE cal ke m) (fun m => evE cal e m) rest acc mc).sat (fun acc m2 => (Res.ok (R.ow (.dic acc)) (restM m1 m2 own)).sat (fun r m' => ∀ w' v, SR C.G w' m' σ → Ex w w' → RR C.G w' m' σ r v → Q v w'.H) C.EM) fun _ _ => False,
          fun H' nx => ⟨n - 1, by omega, by omega, by rw [hrest]; exact nx⟩, fun v H' y => ?_⟩
        obtain ⟨w2, e2, S2, x2, r2, _⟩ := hyl v H' (wipeM mc own) (wipe σ own) (S.wipeM own) y
        cases hb : bindP (wipeM mc own) p x with
        | none => rw [hb] at q2; exact q2.elim
        | some m3 =>
          rw [hb] at q2
          simp only at q2
          rw [Res.sat_bind] at q2
          rw [← e2]
          refine hg w2 (wipeM mc own) m3 (wipe σ own) x v _ S2 r2 hb fun σ3 S3 f3 l3 => ⟨wipe_eq (by rw [l3, wipe_length]) fun j hj => by rw [f3 j fun z => hj (hsub j z), wipe_out hj], ?_⟩
          have w3eq : wipe σ3 own = wipe σ own := wipe_eq (by rw [l3, wipe_length]) fun j hj => by rw [f3 j fun z => hj (hsub j z), wipe_out hj]
          obtain ⟨d1, d2, d3⟩ := x2.ot D _ hDv nf nl
          refine ⟨w2, m3, rfl, ⟨S3, (P.ex.trans x1).trans (xc.trans x2), fun j z => nomatch z⟩, Res.sat_mono q2 fun r m4 q4 => ?_⟩
          cases r with
          | ow o => exact q4.elim
          | bo k => exact q4.elim
          | fz t =>
            cases t <;> try (exact q4.elim)
            case bl b =>
              refine ⟨b, rfl, fun w4 S4 x4 => ?_⟩
              obtain ⟨g1, g2, g3⟩ := x4.ot D _ d1 d2 d3
              cases b with
              | false =>
                refine ⟨w4, wipeM m4 own, acc, vs, rfl, ?_, xc.trans (x2.trans x4), g2, g3, g1, RFk.mono (x2.trans x4).mo rs, q4⟩
                have := S4.wipe own
                rwa [w3eq] at this
              | true =>
                simp only at q4
                rw [Res.sat_bind] at q4
                refine ⟨w4, m4, rfl, ⟨S4, (P.ex.trans x1).trans (xc.trans (x2.trans x4)), fun j z => nomatch z⟩, Res.sat_mono q4 fun rk mk qk wk vk Sk xk rrk => ?_⟩
                cases rk with
                | ow o => exact qk.elim
                | bo k => exact qk.elim
                | fz kt =>
                  cases hkt : keyT kt with
                  | none => simp only [hkt] at qk; exact qk.elim
                  | some key =>
                    simp only [hkt] at qk
                    rw [Res.sat_bind] at qk
                    have evk : vk = kV key := key_v hkt (.fz rrk)
                    obtain ⟨z1, z2, z3⟩ := xk.ot D _ g1 g2 g3
                    refine ⟨wk, mk, rfl, ⟨Sk, (P.ex.trans x1).trans (xc.trans (x2.trans (x4.trans xk))), fun j z => nomatch z⟩, Res.sat_mono qk fun r5 m5 q5 w5 v5 S5 x5 rr5 => ?_⟩
                    obtain ⟨k1, k2, k3⟩ := x5.ot D _ z1 z2 z3
                    refine ⟨vs, key, evk, k1, ?_⟩
                    cases hes : esc m5 r5.opd with
                    | none => rw [hes] at q5; exact q5.elim
                    | some pr =>
                      obtain ⟨t6, m6⟩ := pr
                      rw [hes] at q5
                      simp only at q5
                      split at q5
                      · rename_i hlen
                        obtain ⟨w6, e6, S6, x6, r6⟩ := S5.keep rr5 hes
                        obtain ⟨y1, y2, y3⟩ := x6.ot D _ k1 k2 k3
                        have xx := x2.trans (x4.trans (xk.trans (x5.trans x6)))
                        refine ⟨by rw [← rs.length]; exact hlen, w6.wr D (.dK (putK vs key v5)), wipeM m6 own, putT acc key t6, putK vs key v5, by show upd w6.H D _ = _; rw [e6], ?_, (xc.trans xx).poke hD y2, y2, y3, upd_same, ?_, q5⟩
                        · have := (S6.wipe own).poke (u := .dK (putK vs key v5)) y2 y3
                          rwa [w3eq] at this
                        · exact RFk.mono (Mo.poke y2) ((RFk.mono xx.mo rs).put r6)
                      · exact q5.elim
  · exact q1.elim
end
section
variable {C : Ct} {X : Cx} {k : Nat} {cal : Nat → List Slot → CRes} {L : Nat} {pos p1 p2 : Pos}
theorem x_dcm (c : XC C X k) {kx vx tg iter : Expr} {ifs : List Expr} {scope : Scope} {own : List (Str × Nat)} {ow : List Nat} {p : Pt} {s : Src} {cs : Es} {ke e : E} {g : TG} (gp : GP C.G p g) (ok : BlkOk X.N X.env.scope scope own) (hi : PI X tg iter (rdS C (evSrc cal s)))
    (hg : ∀ (s : Shared) (H : Hp) (D : Addr) (cl : List (Str × Addr)) (fp : List Addr), PG (X.blk s H scope (compEnvC scope cl D X.env) fp) tg g)
    (ht : ∀ (s : Shared) (H : Hp) (D : Addr) (cl : List (Str × Addr)) (fp : List Addr), XC C.inn (X.blk s H scope (compEnvC scope cl D X.env) fp) k → PTs (X.blk s H scope (compEnvC scope cl D X.env) fp) ifs (rdB C.inn (evAll cal cs)))
    (hk : ∀ (s : Shared) (H : Hp) (D : Addr) (cl : List (Str × Addr)) (fp : List Addr), XC C.inn (X.blk s H scope (compEnvC scope cl D X.env) fp) k → PE (X.blk s H scope (compEnvC scope cl D X.env) fp) kx (rdE C.inn (evE cal ke)))
    (he : ∀ (s : Shared) (H : Hp) (D : Addr) (cl : List (Str × Addr)) (fp : List Addr), XC C.inn (X.blk s H scope (compEnvC scope cl D X.env) fp) k → PE (X.blk s H scope (compEnvC scope cl D X.env) fp) vx (rdE C.inn (evE cal e)))
    (how : own.map (·.2) = ow := by rfl) (hsub : ∀ j ∈ p.sl, j ∈ ow := by decide) (hs : ∀ x, foldedSetIterable iter X.env x = pure x := by intro _; rfl) :
    PE X (.DictComp kx vx [⟨tg, iter, ifs, 0⟩] scope pos) (rdE C (evE cal (.dcm ow p s cs ke e))) := by
  subst how
  exact PE.imp (pe_dc c.calm c.nd hi ok hg (fun s H D cl fp => ht s H D cl fp c.blk) (fun s H D cl fp => hk s H D cl fp c.blk) (fun s H D cl fp => he s H D cl fp c.blk) hs) fun _ _ _ q => rd_dcm gp hsub q
/-! ### self.a, self.b = e -/
noncomputable def gFld (K : PySem.W.Frag) (to : TE) (f : Str) : TG := fun v σ H Q => to σ H fun x H1 => ∃ a C dx fs, x = .ref a ∧ H1 a = some (.ins C dx fs) ∧ Cls K C ∧ NoAttr K C f ∧ fs.length < 1000 ∧ Q σ (upd H1 a (.ins C dx (putF f v fs)))
theorem pg_fld {o : Expr} {f : Str} {to : TE} (ho : PE X o to) (ha : ∀ v, assign (.Attribute o f pos) X.env v = (do
      let ov ← holding [v] (eval o X.env)
      standAt pos.atName
      holding [v, ov] (setAttr ov f v)
      release [v, ov] []) := by intro _; rfl) : PG X (.Attribute o f pos) (gFld X.K to f) := by
  refine ⟨fun pins s σ H v u Q I r h => ?_⟩
  rw [ha]
  refine wpAny_bind (wpAny_holding (thn (ho.run pins s σ H _ I h) fun ov s1 ⟨x, H1, I1, r1, a, C, dx, fs, e, ea, c, n, l, q⟩ => ?_))
  subst e
  obtain rfl : ov = Value.ref a := r1
  refine wpAny_bind (wpAny_standAt (wpAny_bind (wpAny_holding (setattr_ok I1 ea c n l r fun s3 I3 => ?_))))
  exact wpAny_release ⟨σ, _, I3, q⟩
noncomputable def gsF (K : PySem.W.Frag) (i : Nat) : List Str → TGs
  | [] => gNil
  | f :: r => gCons (gFld K (tVar i) f) (gsF K i r)
theorem RFf.puts {G : Gm} {w : Wd} {fs : List Str} : ∀ {ts : List T} {vs : List V} {gs : List (Str × T)} {us : List (Str × V)}, RFs G w ts vs → ts.length = fs.length → RFf G w gs us → RFf G w (putSs (fs.zip ts) gs) ((fs.zip vs).foldl (fun g p => putF p.1 p.2 g) us) := by
  induction fs with
  | nil => intro ts vs gs us r l q; exact q
  | cons f fs ih =>
    intro ts vs gs us r l q
    cases r with
    | nil => cases l
    | cons a b =>
      simp only [List.zip_cons_cons]
      unfold putSs
      rw [List.foldl_cons, List.foldl_cons]
      exact ih b (by simpa using l) (RFf.put a q)
theorem putF_len (f : Str) (v : V) : ∀ fs : List (Str × V), (putF f v fs).length ≤ fs.length + 1
  | [] => Nat.le_refl _
  | (g, x) :: r => by
    unfold putF
    split
    · simp
    · have := putF_len f v r
      simp only [List.length_cons]; omega
theorem gsF_run {K : PySem.W.Frag} {i : Nat} {C : Addr} {fs : List Str} (hc : Cls K C) (hn : ∀ f ∈ fs, NoAttr K C f) {σ : St} {a dx : Addr} (hi : σ[i]? = some (some (.ref a))) : ∀ {vs : List V} {us : List (Str × V)} {H : Hp} {Q : St → Hp → Prop}, vs.length = fs.length → H a = some (.ins C dx us) → us.length + fs.length < 1000 →
    Q σ (upd H a (.ins C dx ((fs.zip vs).foldl (fun g p => putF p.1 p.2 g) us))) → gsF K i fs vs σ H Q := by
  induction fs with
  | nil =>
    intro vs us H Q l e _ q
    cases vs with
    | nil =>
      refine ⟨rfl, ?_⟩
      have : upd H a (.ins C dx us) = H := by
        funext b
        by_cases hb : b = a
        · subst hb; rw [upd_same, e]
        · rw [upd_ne hb]
      rw [← this]
      exact q
    | cons _ _ => cases l
  | cons f fs ih =>
    intro vs us H Q l e lt q
    cases vs with
    | nil => cases l
    | cons v vs =>
      refine ⟨v, vs, rfl, _, hi, a, C, dx, us, rfl, e, hc, hn f (List.mem_cons_self ..), by simp only [List.length_cons] at lt; omega, ?_⟩
      refine ih (fun f hf => hn f (List.mem_cons_of_mem _ hf)) (by simpa using l) upd_same (by have := putF_len f v us; simp only [List.length_cons] at lt; omega) ?_
      rw [upd_upd]
      rw [List.zip_cons_cons, List.foldl_cons] at q
      exact q
theorem st_stp {st : Stmt} {i c n : Nat} {fs : List Str} {e : E} (hnl : n = fs.length) (hc : Cls C.G.K (C.G.cls c)) (hn : ∀ f ∈ fs, NoAttr C.G.K (C.G.cls c) f) (h : PS X st (tAsg (rdD C (opdF (evE cal e))) (gTup C.G.K n (gsF C.G.K i fs)))) : PS X st (rdSt C (evS cal L (.stp i c fs e))) := PS.imp h fun D σ H ⟨w, m, eH, P, q⟩ => by
  subst hnl
  rw [evS, FSat_ofR] at q
  refine ⟨w, m, eH, P, ?_⟩
  rw [opdF, Res.sat_bind]
  refine Res.sat_mono q fun r m1 q1 w1 v S1 x1 r1 => ?_
  cases h1 : esc m1 r.opd with
  | none => rw [h1] at q1; exact q1.elim
  | some pr =>
    obtain ⟨t, m2⟩ := pr
    rw [h1] at q1
    cases t <;> try (exact q1.elim)
    case tup ts =>
      simp only at q1
      obtain ⟨w2, e2, S2, x2, r2⟩ := S1.esc r1 h1
      obtain ⟨p, vs, rfl, hp, rts⟩ := r2.tup_inv
      cases h2 : m2[i]? with
      | none => rw [h2] at q1; exact q1.elim
      | some s =>
        rw [h2] at q1
        have sl := S2.sl i s h2
        cases s with
        | no => exact q1.elim
        | fz t => exact q1.elim
        | ow o =>
          cases o with
          | lst k => exact q1.elim
          | dic k => exact q1.elim
          | ins c' gs =>
            obtain ⟨a, ea, ro, la⟩ := sl
            simp only at q1
            split at q1
            · rename_i hcc
              obtain ⟨rfl, hlt, hl⟩ := hcc
              obtain ⟨dx, us, hv, rs⟩ := ro.ins_inv
              have nf := S2.sep a la
              obtain ⟨S3, x3⟩ := S2.write (u := .ins (C.G.cls c') dx ((fs.zip vs).foldl (fun g p => putF p.1 p.2 g) us)) (o' := .ins c' (putSs (fs.zip ts) gs)) h2 ea (.ins upd_same (RFf.mono (Mo.poke nf) (RFf.puts rts hl rs)))
              refine ⟨p, vs, rfl, ?_, by rw [← rts.length, hl], ?_⟩
              · rw [← e2]
                rcases hp with ⟨_, h⟩ | h
                · exact .inl (.inl h)
                · exact .inr h
              · refine gsF_run hc hn ea (by rw [← rts.length, hl]) (by rw [← e2]; exact hv) (by rw [← rs.length]; exact hlt) ?_
                rw [← e2]
                exact q1 (w2.wr a (.ins (C.G.cls c') dx _)) σ (P.step S3 (x1.trans (x2.trans x3))) (x1.trans (x2.trans x3))
            · exact q1.elim
end
end Mi
set_option maxHeartbeats 1000000
namespace Mi
open PySem PySem.Spec PyProof.Rows L2

/-! ### facts of the top, by names -/
inductive Fx where
  | glo (x : Str) | free (x : Str) | bfun (x : Str) (id : String)
  | cls (c : Str) | noat (c f : Str) | meth (c m : Str) | mkr (c : Str) | con (c f : Str) (t : T) | cval (c f : Str) (t : T) | prop (c f : Str) | ne (c : Str) | self1 (c : Str) | crd (c : Str) | cmet (c m : Str)
  | kty (c : Str) | kown (c' c : Str) (b : Bool) | val (p : PySem.W.Frag → Addr) (t : T)
noncomputable def eqv (a b : Option (Option Value)) : Bool := decide (a = b)
noncomputable def tyNames : List String := ["NoneType", "bool", "int", "str", "list", "tuple", "dict"]
noncomputable def Fx.ok (K : PySem.W.Frag) : Fx → Bool
  | .glo x => (He.Fa.glo x).ok K
  | .free x => (He.Fa.free x).ok K
  | .bfun x id => eqv (PySem.W.nsIn K mainGlobals x) (some (some (.builtin id)))
  | .cls c => (He.Fa.cls c).ok K && (eqv (PySem.W.findIn K (.ref (He.ga K c)) "__class__") (some (some (.builtin "object.__class__"))) && (eqv (PySem.W.specialIn K (.builtin "object.__class__") "__get__") (some (some (.builtin "getset_descriptor.__get__"))) &&
      (decide (PySem.W.takesIn K (.builtin "object.__class__") = some true) && decide (PySem.W.mroIn K (He.ga K c) (.type "object") = some true))))
  | .noat c f => (He.Fa.noat c f).ok K
  | .meth c m => (He.Fa.meth c m).ok K
  | .mkr c => (He.Fa.mkr c).ok K
  | .con c f t => (match PySem.W.findIn K (.ref (He.ga K c)) f with
    | some (some u) => matV K t u && (eqv (PySem.W.specialIn K u "__get__") (some none) && !PySem.W.copiedNames.contains f)
    | _ => false)
  | .cval c f t => (match PySem.W.findCls K (.ref (He.ga K c)) (.type "type") f with
    | some (.val u) => matV K t u
    | _ => false)
  | .prop c f => eqv (PySem.W.findIn K (.ref (He.ga K c)) f) (some (some (.ref (He.ma K (He.ga K c) f)))) && (eqv (PySem.W.specialIn K (.ref (He.ma K (He.ga K c) f)) "__get__") (some (some (.builtin "property.__get__"))) &&
      (decide (PySem.W.takesIn K (.ref (He.ma K (He.ga K c) f)) = some true) && (match PySem.W.recIn K (He.ma K (He.ga K c) f) "property" with
        | some (.ref g :: _) => decide (g = He5.wf K (He.ga K c) "property" f)
        | _ => false)))
  | .ne c => eqv (PySem.W.findIn K (.ref (He.ga K c)) "__ne__") (some (some (.builtin "object.__ne__")))
  | .self1 c => PySem.W.selfFirst K (He.ga K c)
  | .crd c => PySem.W.readsIn K (He.ga K c) (.type "type") && eqv (PySem.W.specialIn K (.ref (He.ga K c)) "__getattribute__") (some (some (.builtin "type.__getattribute__")))
  | .cmet c m => He5.wrapB K (He.ga K c) "classmethod" "classmethod.__get__" m && PySem.W.fnIn K (He5.wf K (He.ga K c) "classmethod" m)
  | .kty c => tyNames.all fun x => decide (PySem.W.kitOne K (.type x) (.ref (He.ga K c)) = some false)
  | .kown c' c b => decide (PySem.W.kitOne K (.ref (He.ga K c')) (.ref (He.ga K c)) = some b)
  | .val p t => matV K t (.ref (p K))
section
variable {K : PySem.W.Frag} {c c' f m x : Str}
theorem eqv_ok {a b : Option (Option Value)} (h : eqv a b = true) : a = b := of_decide_eq_true h
theorem Fx.clx (h : (Fx.cls c).ok K = true) : ClX K (He.ga K c) := by
  obtain ⟨h1, h⟩ := He.ba h
  obtain ⟨h2, h⟩ := He.ba h
  obtain ⟨h3, h⟩ := He.ba h
  obtain ⟨h4, h5⟩ := He.ba h
  exact ⟨He.cls_ok h1, eqv_ok h2, eqv_ok h3, of_decide_eq_true h4, of_decide_eq_true h5⟩
theorem Fx.propT (h : (Fx.prop c f).ok K = true) : PropOf K (He.ga K c) f (He.ma K (He.ga K c) f) (He5.wf K (He.ga K c) "property" f) := by
  obtain ⟨h1, h⟩ := He.ba h
  obtain ⟨h2, h⟩ := He.ba h
  obtain ⟨h3, h4⟩ := He.ba h
  refine ⟨eqv_ok h1, eqv_ok h2, of_decide_eq_true h3, ?_⟩
  split at h4
  · rename_i g r e
    rw [← of_decide_eq_true h4]
    exact ⟨r, e⟩
  · cases h4
end
/-! ### the Hook -/
noncomputable abbrev AlQ : Type := Bool × List He.FnW
noncomputable def obsQ (fx : List Fx) (fn : List He5.DefA) (gk : List (Str × T)) (K : PySem.W.Frag) : AlQ := ((fx.all fun f => f.ok K) && ((fn.all fun d => d.ok K) && gk.all (globK K)), fn.map fun d => He5.fnA K (d.at_ K))
noncomputable def valQ (fn : List He5.DefA) : AlQ := (true, fn.map He5.DefA.val)
noncomputable def SaysQ (fx : List Fx) (fn : List He5.DefA) (gk : List (Str × T)) (K : PySem.W.Frag) : Prop := obsQ fx fn gk K = valQ fn
noncomputable def obsQG (n : Nat) (fx : List Fx) (fn : List He5.DefA) (gk : List (Str × T)) (g : Addr → Option Obj) : AlQ := obsQ fx fn gk (He.frG g (He5.asA g n))
noncomputable def hookQ (n : Nat) (fx : List Fx) (fn : List He5.DefA) (gk : List (Str × T)) : PySem.W.Hook where
  α := AlQ
  obs := fun s => obsQG n fx fn gk s.heap.get?
  val := fun _ => valQ fn
  says := fun _ h => ∃ K : PySem.W.Frag, K.In h ∧ SaysQ fx fn gk K
  of := fun _ _ e => ⟨_, He.frG_in, e⟩
  keeps := fun _ _ _ ⟨K, hK, c⟩ k => ⟨K, PySem.W.Frag.In.keeps hK k, c⟩
section
variable {fx : List Fx} {fn : List He5.DefA} {gk : List (Str × T)} {K : PySem.W.Frag}
theorem SaysQ.all (c : SaysQ fx fn gk K) : (fx.all fun f => f.ok K) = true ∧ (fn.all fun d => d.ok K) = true ∧ gk.all (globK K) = true := by
  have h := congrArg Prod.fst c
  obtain ⟨h1, h2⟩ := He.ba h
  exact ⟨h1, He.ba h2⟩
theorem SaysQ.fact (c : SaysQ fx fn gk K) : ∀ f ∈ fx, f.ok K = true := List.all_eq_true.mp c.all.1
theorem SaysQ.g (c : SaysQ fx fn gk K) : ∀ p ∈ gk, globK K p = true := List.all_eq_true.mp c.all.2.2
theorem SaysQ.def_ (c : SaysQ fx fn gk K) (i : Nat) {d : He5.DefA} (h : fn[i]? = some d) : ∃ fd, L2.FunD K d.name d.qual d.params d.body d.scope (d.dvs K) (d.kws K) (d.at_ K) fd := by
  have e : fn.map (fun d => He5.fnA K (d.at_ K)) = fn.map He5.DefA.val := congrArg Prod.snd c
  have e2 : (fn.map fun d => He5.fnA K (d.at_ K))[i]? = (fn.map He5.DefA.val)[i]? := by rw [e]
  rw [List.getElem?_map, List.getElem?_map, h] at e2
  exact He5.DefA.funD (Option.some.inj e2) (List.all_eq_true.mp c.all.2.1 d (List.mem_of_getElem? h))
end
/-- no classmethod's def -/
noncomputable def noCls (ps : List Str) : Bool := match ps with
  | p :: _ => !decide (p = ("cls" : Str))
  | [] => true
/-- the class of a qualified name -/
noncomputable def qcls (z : Str) : Str := ⟨(z.cps.toList.takeWhile fun c => c != 46).toArray⟩
noncomputable def spQ (G : Gm) (cal : Nat → List Slot → CRes) (f : Nat) (d : He5.DefA) (ps : List Str) : Sp := fun vs H Q E => (noCls ps = false → vs.head? = some (.ref (He.ga G.K (qcls d.qual)))) ∧ spM G cal f vs H Q E
/-! ### what a def's body leans on -/
structure GQ (tab : Nat → Option (He5.DefA × List Str)) (fx : List Fx) (gk : List (Str × T)) (cn : List Str) (P : Program) (w : World) (K : PySem.W.Frag) (mg : Str → Option Value) (base : Heap) (k : Nat) (G : Gm) (cal : Nat → List Slot → CRes) : Prop where
  fns : ∀ (f : Nat) (d : He5.DefA) (ps : List Str), tab f = some (d, ps) → ∃ fd, L2.FunD K d.name d.qual d.params d.body d.scope (d.dvs K) (d.kws K) (d.at_ K) fd ∧ FnOk P w K mg base (L2.CX P w) (2 * k) (d.at_ K) fd ps (spQ G cal f d ps)
  fxs : ∀ (i : Nat) (f : Fx), fx[i]? = some f → f.ok K = true
  gs : ∀ (i : Nat) (x : Str) (t : T), gk[i]? = some (x, t) → ∃ u v, mg x = some u ∧ RelV v u ∧ ∀ w, RF G w t v
  glo : ∀ (i : Nat) (x : Str), fx[i]? = some (.glo x) → mg x = some (.ref (He.ga K x))
  fre : ∀ (i : Nat) (x : Str), fx[i]? = some (.free x) → mg x = none
  bf : ∀ (i : Nat) (x : Str) (id : String), fx[i]? = some (.bfun x id) → mg x = some (.builtin id)
  cn : ∀ (c : Nat) (x : Str), cn[c]? = some x → G.cls c = He.ga K x
  eK : G.K = K
/-- the class ids by names -/
noncomputable def clsOf (K : PySem.W.Frag) (cn : List Str) (c : Nat) : Addr := match cn[c]? with
  | some x => He.ga K x
  | none => default
/-- a def called with n values written, its last parameters' defaults dts -/
structure Bnd (d : He5.DefA) (ps : List Str) (fx : List Fx) (n : Nat) (dts : List T) : Prop where
  nc : noCls ps = true
  b : ∀ {K : PySem.W.Frag} {f : Addr} {fd : FuncData}, L2.FunD K d.name d.qual d.params d.body d.scope (d.dvs K) (d.kws K) f fd → ∃ dvs ds, Vals dvs ds ∧ Binds K fd ps ds ∧ (∀ G : Gm, G.K = K → (∀ f ∈ fx, f.ok K = true) → ∀ w, RFs G w dts dvs)
theorem bnd_all {d : He5.DefA} {ps : List Str} {fx : List Fx} {n : Nat} (hd : d.dfl = [])
    (h : ∀ (kV doc pm : Value) (an : Option Addr) (cdv ct : Value) (us : List Value), us.length = ps.length → bindArgs (PySem.W.fnOf d.name d.qual d.params d.body d.scope .none kV doc pm an cdv ct) ⟨us, []⟩ = pure (ps.zip us)) (hnc : noCls ps = true := by rfl) : Bnd d ps fx n [] := ⟨hnc, fun {K f fd} F => by
  have e : d.dvs K = [] := by unfold He5.DefA.dvs; rw [hd]; rfl
  rw [e] at F
  exact ⟨[], [], .nil, F.bindsN h, fun _ _ _ _ => .nil⟩⟩
theorem bnd_dfl {d : He5.DefA} {ps : List Str} {fx : List Fx} {n j : Nat} {dts : List T} (hd : d.dfl ≠ []) (hn : n + (d.dfl.length - j) = ps.length) (hr : ∀ G : Gm, (∀ f ∈ fx, f.ok G.K = true) → ∀ w, RFs G w dts ((d.dvs G.K).drop j))
    (h : ∀ (T : Addr) (kV doc pm : Value) (an : Option Addr) (cdv ct : Value) (us its : List Value), us.length = n → its.length = d.dfl.length →
      ∃ k, bindArgs (PySem.W.fnOf d.name d.qual d.params d.body d.scope (.ref T) kV doc pm an cdv ct) ⟨us, []⟩ = seqItems? (.ref T) >>= k ∧ k (some its.toArray) = pure (ps.zip (us ++ its.drop j))) (hnc : noCls ps = true := by rfl) : Bnd d ps fx n dts := ⟨hnc, fun {K f fd} F => by
  have hl : (d.dvs K).length = d.dfl.length := by unfold He5.DefA.dvs; rw [List.length_map]
  have hd' : d.dvs K ≠ [] := fun z => hd (by
    have := congrArg List.length z
    rw [hl] at this
    exact List.length_eq_zero_iff.mp this)
  obtain ⟨ds, h1, h2⟩ := F.binds1 n j hd' (by rw [hl]; exact hn) (fun T kV doc pm an cdv ct us its hu hi => h T kV doc pm an cdv ct us its hu (by rw [hi, hl]))
  refine ⟨_, ds, h1, h2, fun G hG hf w => ?_⟩
  subst hG
  exact hr G hf w⟩
/-! ### consts at the end of arguments -/
noncomputable def Es.app : Es → Es → Es
  | .nil, b => b
  | .cons e r, b => .cons e (r.app b)
noncomputable def Es.cs : List T → Es
  | [] => .nil
  | t :: r => .cons (.c t) (Es.cs r)
theorem evDs_cs {cal : Nat → List Slot → CRes} : ∀ (ts : List T) (m : List Slot), evDs cal (Es.cs ts) m = .ok (ts.map Opd.t) m
  | [], m => by rw [Es.cs, evDs]; rfl
  | t :: r, m => by
    rw [Es.cs, evDs, evE]
    show (evDs cal (Es.cs r) m).bind _ = _
    rw [evDs_cs r m]
    rfl
theorem Res.bind_assoc {α β γ : Type} (r : Res α) (f : α → List Slot → Res β) (g : β → List Slot → Res γ) : (r.bind f).bind g = r.bind fun a m => (f a m).bind g := by cases r <;> rfl
theorem evDs_app {cal : Nat → List Slot → CRes} {ts : List T} : ∀ (es : Es) (m : List Slot), evDs cal (es.app (Es.cs ts)) m = (evDs cal es m).bind fun ds m1 => .ok (ds ++ ts.map Opd.t) m1
  | .nil, m => by
    rw [Es.app, evDs_cs, evDs]; rfl
  | .cons e r, m => by
    rw [Es.app, evDs, evDs]
    rw [Res.bind_assoc]
    congr 1
    funext x m1
    rw [evDs_app r m1, Res.bind_assoc, Res.bind_assoc]
    rfl
theorem RDs.app' {G : Gm} {w : Wd} {σ : St} {ds : List Opd} {vs : List V} {ts : List T} {us : List V} (a : RDs G w σ ds vs) (b : RFs G w ts us) : RDs G w σ (ds ++ ts.map Opd.t) (vs ++ us) := by
  induction a with
  | nil =>
    induction ts generalizing us with
    | nil => cases b; exact .nil
    | cons t r ih => cases b with | cons x y => exact .cons x (ih y)
  | cons x _ ih => exact .cons x ih
end Mi
set_option maxHeartbeats 1000000
namespace Mi
open PySem PySem.Spec PyProof.Rows L2

section
variable {tab : Nat → Option (He5.DefA × List Str)} {fx : List Fx} {gk : List (Str × T)} {cn : List Str} {C : Ct} {X : Cx} {k L : Nat} {cal : Nat → List Slot → CRes} {pos p1 p2 p3 apos : Pos}
noncomputable abbrev GX (tab : Nat → Option (He5.DefA × List Str)) (fx : List Fx) (gk : List (Str × T)) (cn : List Str) (X : Cx) (k : Nat) (G : Gm) (cal : Nat → List Slot → CRes) : Prop := GQ tab fx gk cn X.prog X.w X.K X.mg X.base k G cal
theorem rdD_mono {f : List Slot → Res Opd} {σ : St} {H : Hp} {Q Q' : VK} (h : rdD C f σ H Q) (i : ∀ v H, Q v H → Q' v H) : rdD C f σ H Q' := by
  obtain ⟨w, m, e, P, q⟩ := h
  exact ⟨w, m, e, P, Res.sat_mono q fun d m1 q1 w1 v S1 x1 r1 => i _ _ (q1 w1 v S1 x1 r1)⟩
theorem nil_rd {σ : St} {H : Hp} {Q : List V → Hp → Prop} (h : rdDs C (evDs cal .nil) σ H Q) : Q [] H := by
  obtain ⟨w, m, e, P, q⟩ := h
  rw [evDs] at q
  subst e
  exact q w [] P.sr (.refl w) .nil
/-! ### the program's defs -/
theorem q_fn (e : GX tab fx gk cn X k C.G cal) {f i : Nat} {d : He5.DefA} {ps : List Str} {x : Str} (ht : tab f = some (d, ps)) (hi : fx[i]? = some (.glo x)) (hat : d.at_ = fun K => He.ga K x) (b : Bnd d ps fx ps.length []) : FnAt X k C.G cal f x ps := ⟨by
  obtain ⟨fd, F, ok⟩ := e.fns f d ps ht
  replace ok := ok.imp (sp' := spM C.G cal f) fun vs H Q E h => ⟨fun z => (by rw [b.nc] at z; cases z), h⟩
  obtain ⟨dvs, ds, h1, h2, h3⟩ := b.b F
  have r := h3 C.G e.eK (fun f hf => by obtain ⟨i, hi⟩ := List.getElem?_of_mem hf; exact e.fxs i f hi) ⟨fun _ => True, fun _ => True, fun _ => none⟩
  cases r
  cases h1
  have ha : d.at_ X.K = He.ga X.K x := by rw [hat]
  rw [ha] at F ok
  exact ⟨_, fd, e.glo i x hi, F.kp, h2, ok⟩⟩
theorem q_glob (e : GX tab fx gk cn X k C.G cal) (i : Nat) {x : Str} {t : T} (hi : gk[i]? = some (x, t)) : GlobAt X C.G x t := e.gs i x t hi
theorem q_fr (e : GX tab fx gk cn X k C.G cal) (i : Nat) {x : Str} (hi : fx[i]? = some (.free x)) : Fr X x := e.fre i x hi
/-! ### classes -/
theorem GQ.clsA (e : GX tab fx gk cn X k C.G cal) {cl ic : Nat} {nm : Str} (hcl : cn[cl]? = some nm) (hic : fx[ic]? = some (.cls nm)) : ClX X.K (C.G.cls cl) := by
  rw [e.cn cl nm hcl]
  exact Fx.clx (e.fxs ic _ hic)
theorem GQ.noat (e : GX tab fx gk cn X k C.G cal) {cl i : Nat} {nm f : Str} (hcl : cn[cl]? = some nm) (hi : fx[i]? = some (.noat nm f)) : NoAttr X.K (C.G.cls cl) f := by
  rw [e.cn cl nm hcl]
  exact He.noat_ok (e.fxs i _ hi)
theorem GQ.meth (e : GX tab fx gk cn X k C.G cal) {cl i : Nat} {nm m : Str} (hcl : cn[cl]? = some nm) (hi : fx[i]? = some (.meth nm m)) : Meth X.K (C.G.cls cl) m (He.ma X.K (He.ga X.K nm) m) := by
  rw [e.cn cl nm hcl]
  exact He.meth_ok (e.fxs i _ hi)
theorem q_fld (c : XC C X k) (e : GX tab fx gk cn X k C.G cal) {cl ic i : Nat} {nm f : Str} {o : Expr} {a : E} (hcl : cn[cl]? = some nm) (hic : fx[ic]? = some (.cls nm)) (hi : fx[i]? = some (.noat nm f)) (ha : PE X o (rdE C (evE cal a))) (hb : attributeBase o f X.env (eval o X.env) = eval o X.env := by rfl) :
    PE X (.Attribute o f pos) (rdE C (evE cal (.fld cl a f))) :=
  n_fld (fun ta h => by rw [c.K]; exact pe_fld h hb) (by rw [c.K]; exact (e.clsA hcl hic).cl) (by rw [c.K]; exact e.noat hcl hi) ha
theorem q_prop (c : XC C X k) (e : GX tab fx gk cn X k C.G cal) {cl f ic i : Nat} {nm m : Str} {d : He5.DefA} {ps : List Str} {o : Expr} {a : E} (hcl : cn[cl]? = some nm) (hic : fx[ic]? = some (.cls nm)) (hi : fx[i]? = some (.prop nm m)) (ht : tab f = some (d, ps)) (hat : d.at_ = fun K => He5.wf K (He.ga K nm) "property" m) (b : Bnd d ps fx 1 [])
    (ha : PE X o (rdE C (evE cal a))) (hb : attributeBase o m X.env (eval o X.env) = eval o X.env := by rfl) : PE X (.Attribute o m pos) (rdE C (evE cal (.prop cl f a))) := by
  obtain ⟨fd, F, ok⟩ := e.fns f d ps ht
  replace ok := ok.imp (sp' := spM C.G cal f) fun vs H Q E h => ⟨fun z => (by rw [b.nc] at z; cases z), h⟩
  obtain ⟨dvs, ds, h1, h2, h3⟩ := b.b F
  have r := h3 C.G e.eK (fun f hf => by obtain ⟨i, hi⟩ := List.getElem?_of_mem hf; exact e.fxs i f hi) ⟨fun _ => True, fun _ => True, fun _ => none⟩
  cases r
  cases h1
  have hp := Fx.propT (e.fxs i _ hi)
  have ha' : d.at_ X.K = He5.wf X.K (He.ga X.K nm) "property" m := by rw [hat]
  rw [ha'] at F ok
  rw [← e.cn cl nm hcl] at hp ok
  exact n_prop (fun ta h => pe_prop h (e.clsA hcl hic).cl hp ok c.room h2 .nil (fun _ _ _ _ _ _ _ h => by obtain ⟨_, _, _, _, _, _, _, _, _, _, _, _, z⟩ := h; exact z.elim) hb) ha
/-- a method's call: the reading, with defaults -/
theorem n_methD {ex : Expr} {c f : Nat} {n : Str} {io : List Bool} {a : E} {es : Es} {dts : List T} {dvs : List V} (hd : ∀ w, RFs C.G w dts dvs) (hp : PE X ex (tMeth (C.G.cls c) n (spM C.G cal f) dvs EF (rdD C (opdF (evE cal a))) (rdDs C (evDs cal es)))) : PE X ex (rdE C (evE cal (.meth c f n io a (es.app (Es.cs dts))))) :=
  PE.imp hp fun σ H Q ⟨w, m, e, P, q⟩ => by
  rw [evE, Res.sat_bind] at q
  refine ⟨w, m, e, P, ?_⟩
  rw [opdF, Res.sat_bind]
  refine Res.sat_mono q fun r m1 q1 w1 v S1 x1 r1 => ?_
  split at q1
  · rename_i c' fs hd1
    split at q1
    · rename_i hcc
      obtain ⟨rfl, hl⟩ := hcc
      obtain ⟨p, dx, gs, rfl, h1, h2⟩ := (S1.der r1 hd1).ins
      refine ⟨p, dx, gs, rfl, h1, h2.lookN hl, ?_⟩
      rw [evDs_app, Res.bind_assoc, Res.sat_bind] at q1
      refine ⟨w1, m1, rfl, P.step S1 x1, Res.sat_mono q1 fun ds m2 q2 w2 vs S2 x2 r2 => ?_⟩
      exact call_quiet ((P.step S1 x1).step S2 x2) (.cons (r1.mono x2.mo) (r2.app' (hd w2))) (Res.sat_mono q2 fun r m3 k w' v S' x' rr => k w' v S' (x1.trans (x2.trans x')) rr)
    · exact q1.elim
  · exact q1.elim
theorem GQ.defA (e : GX tab fx gk cn X k C.G cal) {f n : Nat} {d : He5.DefA} {ps : List Str} {dts : List T} (ht : tab f = some (d, ps)) (b : Bnd d ps fx n dts) :
    ∃ fd dvs ds, Vals dvs ds ∧ Binds X.K fd ps ds ∧ (∀ w, RFs C.G w dts dvs) ∧ FnOk X.prog X.w X.K X.mg X.base (L2.CX X.prog X.w) (2 * k) (d.at_ X.K) fd ps (spM C.G cal f) := by
  obtain ⟨fd, F, ok⟩ := e.fns f d ps ht
  replace ok := ok.imp (sp' := spM C.G cal f) fun vs H Q E h => ⟨fun z => (by rw [b.nc] at z; cases z), h⟩
  obtain ⟨dvs, ds, h1, h2, h3⟩ := b.b F
  exact ⟨fd, dvs, ds, h1, h2, h3 C.G e.eK (fun f hf => by obtain ⟨i, hi⟩ := List.getElem?_of_mem hf; exact e.fxs i f hi), ok⟩
theorem q_meth (c : XC C X k) (e : GX tab fx gk cn X k C.G cal) {pl : Sem Bool} {cl f n ic im : Nat} {nm m : Str} {d : He5.DefA} {ps : List Str} {dts : List T} {o e1 : Expr} {es1 : List Expr} {io : List Bool} {a : E} {es : Es} (hcl : cn[cl]? = some nm) (hic : fx[ic]? = some (.cls nm)) (him : fx[im]? = some (.meth nm m)) (ht : tab f = some (d, ps))
    (hat : d.at_ = fun K => He.ma K (He.ga K nm) m) (b : Bnd d ps fx n dts) (ha : PE X o (rdE C (evE cal a))) (h : PA X (e1 :: es1) (rdDs C (evDs cal es)))
    (hst : starEach (e1 :: es1) X.env = (false, eval e1 X.env) :: starEach es1 X.env := by rfl) (hpl : (backTo pos (starEach es1 X.env)).any (·.1) = false := by rfl)
    (he : eval (.Call (.Attribute o m apos) (e1 :: es1) [] pos) X.env = (do
      let ov ← eval o X.env
      standAt apos.atName
      let (f, first) ← holding [ov] (getMethod ov m pl)
      callWith pos f first (backTo pos (starEach (e1 :: es1) X.env)) (backToKw pos (keywordEach [] X.env))) := by rfl) :
    PE X (.Call (.Attribute o m apos) (e1 :: es1) [] pos) (rdE C (evE cal (.meth cl f m io a (es.app (Es.cs dts))))) := by
  obtain ⟨fd, dvs, ds, h1, h2, h3, ok⟩ := e.defA ht b
  have ha' : d.at_ X.K = He.ma X.K (He.ga X.K nm) m := by rw [hat]
  rw [ha'] at ok
  exact n_methD h3 (pe_meth (pl := pl) (pe_opd ha) (e.clsA hcl hic).cl (e.meth hcl him) ok c.low h2 h1 passEF h hst hpl he)
theorem q_meth0 (c : XC C X k) (e : GX tab fx gk cn X k C.G cal) {pl : Sem Bool} {cl f n ic im : Nat} {nm m : Str} {d : He5.DefA} {ps : List Str} {dts : List T} {o : Expr} {io : List Bool} {a : E} (hcl : cn[cl]? = some nm) (hic : fx[ic]? = some (.cls nm)) (him : fx[im]? = some (.meth nm m)) (ht : tab f = some (d, ps))
    (hat : d.at_ = fun K => He.ma K (He.ga K nm) m) (b : Bnd d ps fx n dts) (ha : PE X o (rdE C (evE cal a)))
    (he : eval (.Call (.Attribute o m apos) [] [] pos) X.env = (do
      let ov ← eval o X.env
      standAt apos.atName
      let (f, first) ← holding [ov] (getMethod ov m pl)
      callWith pos f first (backTo pos (starEach [] X.env)) (backToKw pos (keywordEach [] X.env))) := by rfl) :
    PE X (.Call (.Attribute o m apos) [] [] pos) (rdE C (evE cal (.meth cl f m io a (Es.cs dts)))) := by
  obtain ⟨fd, dvs, ds, h1, h2, h3, ok⟩ := e.defA ht b
  have ha' : d.at_ X.K = He.ma X.K (He.ga X.K nm) m := by rw [hat]
  rw [ha'] at ok
  exact n_methD (es := .nil) h3 (PE.imp (pe_meth0 (pl := pl) (pe_opd ha) (e.clsA hcl hic).cl (e.meth hcl him) ok c.low h2 h1 passEF he) fun σ H Q q => rdD_mono q fun v H1 ⟨a, dx, fs, q1, q2, q3, q4⟩ => ⟨a, dx, fs, q1, q2, q3, nil_rd q4⟩)
/-! ### new instances -/
theorem evDs_len : ∀ (es : Es) (m : List Slot) (ds : List Opd) (m' : List Slot), evDs cal es m = .ok ds m' → ds.length = es.len
  | .nil, m, ds, m', h => by rw [evDs] at h; cases h; rfl
  | .cons e r, m, ds, m', h => by
    rw [evDs] at h
    cases h1 : evE cal e m with
    | no => rw [h1] at h; cases h
    | ex x m1 => rw [h1] at h; cases h
    | ok x m1 =>
      rw [h1] at h
      simp only [Res.bind] at h
      cases h2 : evDs cal r m1 with
      | no => rw [h2] at h; cases h
      | ex x m2 => rw [h2] at h; cases h
      | ok xs m2 =>
        rw [h2] at h
        cases h
        exact congrArg Nat.succ (evDs_len r m1 xs _ h2)
theorem rd_mkD {c f : Nat} {es : Es} {dts : List T} {dvs : List V} (hd : ∀ w, RFs C.G w dts dvs) {σ : St} {H : Hp} {Q : VK} (q : rdE C (evE cal (.mk c f [] (es.app (Es.cs dts)))) σ H Q) : tMake (C.G.cls c) (spM C.G cal f) dvs EF (rdDs C (evDs cal es)) σ H Q := by
  have q := rd_mk0 (pm := []) (pmv := fun vs => vs) (fun r => r) q
  obtain ⟨w, m, e, P, q⟩ := q
  rw [evDs_app, Res.sat_bind] at q
  refine ⟨w, m, e, P, Res.sat_mono q fun ds m1 q1 w1 vs S1 x1 r1 => ?_⟩
  exact q1 w1 (vs ++ dvs) S1 x1 (r1.app' (hd w1))
theorem n_mkD {ex : Expr} {c f : Nat} {es : Es} {dts : List T} {dvs : List V} (hd : ∀ w, RFs C.G w dts dvs) (hp : PE X ex (tMake (C.G.cls c) (spM C.G cal f) dvs EF (rdDs C (evDs cal es)))) : PE X ex (rdE C (evE cal (.mk c f [] (es.app (Es.cs dts))))) :=
  PE.imp hp fun σ H Q q => rd_mkD hd q
end
end Mi
set_option maxHeartbeats 1000000
namespace Mi
open PySem PySem.Spec PyProof.Rows L2

structure KitI (fx : List Fx) (cn : List Str) (cl : Nat) (nm : Str) (cs ns : List Nat) : Prop where
  ty : ∃ i : Nat, fx[i]? = some (.kty nm)
  yes : ∀ c' ∈ cs, ∃ (n' : Str) (i j : Nat), cn[c']? = some n' ∧ fx[i]? = some (.kown n' nm true) ∧ fx[j]? = some (.cls n')
  no : ∀ c' ∈ ns, ∃ (n' : Str) (i j : Nat), cn[c']? = some n' ∧ fx[i]? = some (.kown n' nm false) ∧ fx[j]? = some (.cls n')
section
variable {tab : Nat → Option (He5.DefA × List Str)} {fx : List Fx} {gk : List (Str × T)} {cn : List Str} {C : Ct} {X : Cx} {k L : Nat} {cal : Nat → List Slot → CRes} {pos p1 p2 p3 apos : Pos}
theorem GQ.mkr (e : GX tab fx gk cn X k C.G cal) {cl i : Nat} {nm : Str} (hcl : cn[cl]? = some nm) (hi : fx[i]? = some (.mkr nm)) : Mk X.K (C.G.cls cl) (He.ma X.K (He.ga X.K nm) "__init__") := by
  rw [e.cn cl nm hcl]
  exact He.mkr_ok (e.fxs i _ hi)
theorem GQ.gloC (e : GX tab fx gk cn X k C.G cal) {cl i : Nat} {nm : Str} (hcl : cn[cl]? = some nm) (hi : fx[i]? = some (.glo nm)) : X.mg nm = some (.ref (C.G.cls cl)) := by
  rw [e.cn cl nm hcl]
  exact e.glo i nm hi
theorem q_mk (c : XC C X k) (e : GX tab fx gk cn X k C.G cal) {cl f n ig im : Nat} {nm : Str} {d : He5.DefA} {ps : List Str} {dts : List T} {e1 : Expr} {es1 : List Expr} {es : Es} (hcl : cn[cl]? = some nm) (hig : fx[ig]? = some (.glo nm)) (him : fx[im]? = some (.mkr nm)) (ht : tab f = some (d, ps))
    (hat : d.at_ = fun K => He.ma K (He.ga K nm) "__init__") (b : Bnd d ps fx n dts) (h : PA X (e1 :: es1) (rdDs C (evDs cal es))) (hg : Gl X nm := by rfl) (hdb : (nm == ("__debug__" : Str)) = false := by decide)
    (he : starEach (e1 :: es1) X.env = (false, eval e1 X.env) :: starEach es1 X.env := by rfl) (hpl : (backTo pos (starEach es1 X.env)).any (·.1) = false := by rfl) :
    PE X (.Call (.Name nm p1) (e1 :: es1) [] pos) (rdE C (evE cal (.mk cl f [] (es.app (Es.cs dts))))) := by
  obtain ⟨fd, dvs, ds, h1, h2, h3, ok⟩ := e.defA ht b
  have ha' : d.at_ X.K = He.ma X.K (He.ga X.K nm) "__init__" := by rw [hat]
  rw [ha'] at ok
  exact n_mkD h3 (pe_make (e.mkr hcl him) ok c.room hg (e.gloC hcl hig) h2 h1 passEF h hdb he hpl)
/-- by keywords alone -/
noncomputable def pmV (pm : List Nat) (vs : List V) : List V := match pm with
  | [] => vs
  | pm => pm.map fun i => vs.getD i .non
theorem RFs.getD {G : Gm} {w : Wd} {ts : List T} {vs : List V} (r : RFs G w ts vs) (i : Nat) : RF G w (ts.getD i .non) (vs.getD i .non) := by
  rw [List.getD_eq_getElem?_getD, List.getD_eq_getElem?_getD]
  cases h : ts[i]? with
  | none =>
    have : vs[i]? = none := by
      have := r.length
      have := List.getElem?_eq_none_iff.mp h
      exact List.getElem?_eq_none_iff.mpr (by omega)
    rw [this]
    exact .non
  | some t =>
    obtain ⟨v, h1, h2⟩ := r.get h
    rw [h1]
    exact h2
theorem RFs.pm {G : Gm} {w : Wd} {ts : List T} {vs : List V} (pm : List Nat) (r : RFs G w ts vs) : RFs G w (pmT pm ts) (pmV pm vs) := by
  cases pm with
  | nil => exact r
  | cons i l =>
    have : ∀ l : List Nat, RFs G w (l.map fun i => ts.getD i .non) (l.map fun i => vs.getD i .non) := fun l => by
      induction l with
      | nil => exact .nil
      | cons a l ih => exact .cons (r.getD a) ih
    exact this (i :: l)
theorem RDs.len {G : Gm} {w : Wd} {σ : St} {ds : List Opd} {vs : List V} (r : RDs G w σ ds vs) : ds.length = vs.length := by
  induction r with
  | nil => rfl
  | cons _ _ ih => exact congrArg Nat.succ ih
structure KBnd (d : He5.DefA) (ps ks : List Str) (pm : List Nat) : Prop where
  nc : noCls ps = true
  b : ∀ {K : PySem.W.Frag} {f : Addr} {fd : FuncData}, L2.FunD K d.name d.qual d.params d.body d.scope (d.dvs K) (d.kws K) f fd → ∃ g gV, KBn K fd ps 1 ks g gV ∧ ∀ x zs, zs.length = ks.length → gV [x] zs = x :: pmV pm zs
theorem q_mkK (c : XC C X k) (e : GX tab fx gk cn X k C.G cal) {cl f ig im : Nat} {nm : Str} {d : He5.DefA} {ps ks : List Str} {pm : List Nat} {kws : List Keyword} {es : Es} (hcl : cn[cl]? = some nm) (hig : fx[ig]? = some (.glo nm)) (him : fx[im]? = some (.mkr nm)) (ht : tab f = some (d, ps))
    (hat : d.at_ = fun K => He.ma K (He.ga K nm) "__init__") (b : KBnd d ps ks pm) (hlen : es.len = ks.length) (h : PK X kws (rdDs C (evDs cal es))) (hg : Gl X nm := by rfl) (hdb : (nm == ("__debug__" : Str)) = false := by decide)
    (hall : (backToKw pos (keywordEach kws X.env)).all (·.1.isSome) = true := by rfl) (hks : (backToKw pos (keywordEach kws X.env)).filterMap (·.1) = ks := by rfl)
    (hpl : ((backTo pos (starEach [] X.env)).any (·.1) || (backToKw pos (keywordEach kws X.env)).any (·.1.isNone)) = false := by rfl) :
    PE X (.Call (.Name nm p1) [] kws pos) (rdE C (evE cal (.mk cl f pm es))) := by
  obtain ⟨fd, F, ok⟩ := e.fns f d ps ht
  replace ok := ok.imp (sp' := spM C.G cal f) fun vs H Q E h => ⟨fun z => (by rw [b.nc] at z; cases z), h⟩
  obtain ⟨g, gV, kb, hg2⟩ := b.b F
  have ha' : d.at_ X.K = He.ma X.K (He.ga X.K nm) "__init__" := by rw [hat]
  rw [ha'] at ok
  refine n_mk0 (pmv := pmV pm) (fun r => r.pm pm) (PE.imp (pe_makeK0 (e.mkr hcl him) ok c.room hg (e.gloC hcl hig) kb passEF h hall hks hdb hpl) fun σ H Q q => ?_)
  obtain ⟨w, m, eH, P, q⟩ := q
  refine ⟨w, m, eH, P, ?_⟩
  cases hd : evDs cal es m with
  | no => rw [hd] at q; exact q.elim
  | ex x m1 => rw [hd] at q; exact q
  | ok ds m1 =>
    rw [hd] at q
    intro w1 vs S1 x1 r1
    have hl : vs.length = ks.length := by rw [← r1.len, evDs_len es m ds m1 hd, hlen]
    refine ⟨rfl, hl, fun x dx h1 h2 h3 => ?_⟩
    rw [hg2 _ _ hl]
    exact q w1 vs S1 x1 r1 x dx h1 h2 h3
/-! ### attributes stored -/
theorem q_stf (c : XC C X k) (e : GX tab fx gk cn X k C.G cal) {cl ic i j : Nat} {nm f x : Str} {v : Expr} {a : E} (hcl : cn[cl]? = some nm) (hic : fx[ic]? = some (.cls nm)) (hi : fx[i]? = some (.noat nm f)) (ho : PE X (.Name x p1) (tVar j)) (ha : PE X v (rdE C (evE cal a)))
    (hs : swapsWith v (some (.Attribute (.Name x p1) f p2)) pos.line X.env = pure false := by rfl) : PS X (.Assign [.Attribute (.Name x p1) f p2] v pos) (rdSt C (evS cal L (.stf j cl f a))) :=
  st_stf (by rw [c.K]; exact (e.clsA hcl hic).cl) (by rw [c.K]; exact e.noat hcl hi) (by rw [c.K]; exact ps_fld ho (pe_opd ha) hs)
theorem q_stp2 (c : XC C X k) (e : GX tab fx gk cn X k C.G cal) {cl ic i i' j : Nat} {nm f f' x : Str} {v : Expr} {a : E} {kk} {p4 : Pos} (hcl : cn[cl]? = some nm) (hic : fx[ic]? = some (.cls nm)) (hi : fx[i]? = some (.noat nm f)) (hi' : fx[i']? = some (.noat nm f')) (ho : PE X (.Name x p1) (tVar j)) (ho' : PE X (.Name x p2) (tVar j)) (ha : PE X v (rdE C (evE cal a)))
    (hs : swapsWithSole [.Tuple [.Attribute (.Name x p1) f p3, .Attribute (.Name x p2) f' p4] kk apos] v pos.line X.env = pure false := by rfl) (hw : swappedStores [.Tuple [.Attribute (.Name x p1) f p3, .Attribute (.Name x p2) f' p4] kk apos] v X.env = pure none := by rfl)
    (h1 : (assignEach [.Tuple [.Attribute (.Name x p1) f p3, .Attribute (.Name x p2) f' p4] kk apos] X.env).map (·.2) = [assign (.Tuple [.Attribute (.Name x p1) f p3, .Attribute (.Name x p2) f' p4] kk apos) X.env] := by rfl) :
    PS X (.Assign [.Tuple [.Attribute (.Name x p1) f p3, .Attribute (.Name x p2) f' p4] kk apos] v pos) (rdSt C (evS cal L (.stp j cl [f, f'] a))) :=
  st_stp rfl (by rw [c.K]; exact (e.clsA hcl hic).cl) (fun g hg => by
    rw [c.K]
    rcases List.mem_cons.mp hg with rfl | hg
    · exact e.noat hcl hi
    · rw [List.mem_singleton.mp hg]; exact e.noat hcl hi') (by rw [c.K]; exact ps_asg (pe_opd ha) (pg_tup c.calm (pgs_cons (pg_fld ho) (pgs_cons (pg_fld ho') pgs_nil))) hs hw h1)
/-! ### own operators -/
theorem q_ceq (c : XC C X k) (e : GX tab fx gk cn X k C.G cal) {cl f ic im : Nat} {nm : Str} {d : He5.DefA} {ps : List Str} {o o' : Expr} {a a' : E} (hcl : cn[cl]? = some nm) (hic : fx[ic]? = some (.cls nm)) (him : fx[im]? = some (.meth nm "__eq__")) (ht : tab f = some (d, ps))
    (hat : d.at_ = fun K => He.ma K (He.ga K nm) "__eq__") (b : Bnd d ps fx 2 []) (ha : PE X o (rdE C (evE cal a))) (hb : PE X o' (rdE C (evE cal a'))) (hm : behindInMarks .Eq o' = false := by first | exact nomark _ | rfl) :
    PE X (.Compare o [.Eq] [o'] pos) (rdE C (evE cal (.ceq false cl f a a'))) := by
  obtain ⟨fd, dvs, ds, h1, h2, h3, ok⟩ := e.defA ht b
  cases h3 ⟨fun _ => True, fun _ => True, fun _ => none⟩
  cases h1
  have ha' : d.at_ X.K = He.ma X.K (He.ga X.K nm) "__eq__" := by rw [hat]
  rw [ha'] at ok
  have cx : ClX C.G.K (C.G.cls cl) := by rw [c.K]; exact e.clsA hcl hic
  exact n_ceq (r := rEqM C.G.K) (fun ta tb h h' => pe_cmpR (OpR.or (by rw [c.K]; exact op_ownEq (e.meth hcl him) ok c.low h2) (by rw [c.K]; exact or_eq c.hu)) h h' hm) cx okEq ha hb
theorem q_cne (c : XC C X k) (e : GX tab fx gk cn X k C.G cal) {cl f ic im ine : Nat} {nm : Str} {d : He5.DefA} {ps : List Str} {o o' : Expr} {a a' : E} (hcl : cn[cl]? = some nm) (hic : fx[ic]? = some (.cls nm)) (him : fx[im]? = some (.meth nm "__eq__")) (hin : fx[ine]? = some (.ne nm)) (ht : tab f = some (d, ps))
    (hat : d.at_ = fun K => He.ma K (He.ga K nm) "__eq__") (b : Bnd d ps fx 2 []) (ha : PE X o (rdE C (evE cal a))) (hb : PE X o' (rdE C (evE cal a'))) (hm : behindInMarks .NotEq o' = false := by first | exact nomark _ | rfl) :
    PE X (.Compare o [.NotEq] [o'] pos) (rdE C (evE cal (.ceq true cl f a a'))) := by
  obtain ⟨fd, dvs, ds, h1, h2, h3, ok⟩ := e.defA ht b
  cases h3 ⟨fun _ => True, fun _ => True, fun _ => none⟩
  cases h1
  have ha' : d.at_ X.K = He.ma X.K (He.ga X.K nm) "__eq__" := by rw [hat]
  rw [ha'] at ok
  have cx : ClX C.G.K (C.G.cls cl) := by rw [c.K]; exact e.clsA hcl hic
  have hne : PySem.W.findIn X.K (.ref (C.G.cls cl)) "__ne__" = some (some (.builtin "object.__ne__")) := by rw [e.cn cl nm hcl]; exact eqv_ok (e.fxs ine _ hin)
  exact n_ceq (neg := true) (r := rNeM C.G.K) (fun ta tb h h' => pe_cmpR (OpR.or (by rw [c.K]; exact op_ownNe (e.meth hcl him) hne (e.clsA hcl hic).hm ok c.room h2) (by rw [c.K]; exact or_ne c.hu)) h h' hm) cx okNe ha hb
theorem q_cneT (c : XC C X k) (e : GX tab fx gk cn X k C.G cal) {cl f ic im ine : Nat} {nm : Str} {d : He5.DefA} {ps : List Str} {o o' : Expr} {a a' : E} (hcl : cn[cl]? = some nm) (hic : fx[ic]? = some (.cls nm)) (him : fx[im]? = some (.meth nm "__eq__")) (hin : fx[ine]? = some (.ne nm)) (ht : tab f = some (d, ps))
    (hat : d.at_ = fun K => He.ma K (He.ga K nm) "__eq__") (b : Bnd d ps fx 2 []) (ha : PE X o (rdE C (evE cal a))) (hb : PE X o' (rdE C (evE cal a'))) (hm : behindInMarks .NotEq o' = false := by first | exact nomark _ | rfl) :
    PT X (.Compare o [.NotEq] [o'] pos) (rdB C (evE cal (.ceq true cl f a a'))) := by
  obtain ⟨fd, dvs, ds, h1, h2, h3, ok⟩ := e.defA ht b
  cases h3 ⟨fun _ => True, fun _ => True, fun _ => none⟩
  cases h1
  have ha' : d.at_ X.K = He.ma X.K (He.ga X.K nm) "__eq__" := by rw [hat]
  rw [ha'] at ok
  have cx : ClX C.G.K (C.G.cls cl) := by rw [c.K]; exact e.clsA hcl hic
  have hne : PySem.W.findIn X.K (.ref (C.G.cls cl)) "__ne__" = some (some (.builtin "object.__ne__")) := by rw [e.cn cl nm hcl]; exact eqv_ok (e.fxs ine _ hin)
  exact t_ceq (neg := true) (r := rNeM C.G.K) (fun ta tb h h' => pt_cmpR (OpR.or (by rw [c.K]; exact op_ownNe (e.meth hcl him) hne (e.clsA hcl hic).hm ok c.room h2) (by rw [c.K]; exact or_ne c.hu)) h h' hm) cx okNe ha hb
theorem q_bop (c : XC C X k) (e : GX tab fx gk cn X k C.G cal) {op : Operator} {cl f is im : Nat} {nm m : Str} {d : He5.DefA} {ps : List Str} {o o' : Expr} {a a' : E} (hm : PySem.dunder op.info.2 = m) (hcl : cn[cl]? = some nm) (his : fx[is]? = some (.self1 nm)) (him : fx[im]? = some (.meth nm m)) (ht : tab f = some (d, ps))
    (hat : d.at_ = fun K => He.ma K (He.ga K nm) m) (b : Bnd d ps fx 2 []) (ha : PE X o (rdE C (evE cal a))) (hb : PE X o' (rdE C (evE cal a'))) : PE X (.BinOp o op o' pos) (rdE C (evE cal (.bop cl f a a'))) := by
  subst hm
  obtain ⟨fd, dvs, ds, h1, h2, h3, ok⟩ := e.defA ht b
  cases h3 ⟨fun _ => True, fun _ => True, fun _ => none⟩
  cases h1
  have ha' : d.at_ X.K = He.ma X.K (He.ga X.K nm) (PySem.dunder op.info.2) := by rw [hat]
  rw [ha'] at ok
  have hs : PySem.W.selfFirst X.K (C.G.cls cl) = true := by rw [e.cn cl nm hcl]; exact e.fxs is _ his
  exact n_bop (fun ta tb h h' => pe_op (op_own hs (e.meth hcl him) ok c.low h2) h h') ha hb
theorem q_inv (c : XC C X k) (e : GX tab fx gk cn X k C.G cal) {cl f im : Nat} {nm : Str} {d : He5.DefA} {ps : List Str} {o : Expr} {a : E} (hcl : cn[cl]? = some nm) (him : fx[im]? = some (.meth nm "__invert__")) (ht : tab f = some (d, ps))
    (hat : d.at_ = fun K => He.ma K (He.ga K nm) "__invert__") (b : Bnd d ps fx 1 []) (ha : PE X o (rdE C (evE cal a))) : PE X (.UnaryOp .Invert o pos) (rdE C (evE cal (.uop cl f a))) := by
  obtain ⟨fd, dvs, ds, h1, h2, h3, ok⟩ := e.defA ht b
  cases h3 ⟨fun _ => True, fun _ => True, fun _ => none⟩
  cases h1
  have ha' : d.at_ X.K = He.ma X.K (He.ga X.K nm) "__invert__" := by rw [hat]
  rw [ha'] at ok
  exact n_uop (fun ta h => pe_un (op_inv (e.meth hcl him) ok c.low h2) h) ha
theorem q_inn (c : XC C X k) (e : GX tab fx gk cn X k C.G cal) {cl f im : Nat} {nm : Str} {d : He5.DefA} {ps : List Str} {o o' : Expr} {a a' : E} (hcl : cn[cl]? = some nm) (him : fx[im]? = some (.meth nm "__contains__")) (ht : tab f = some (d, ps))
    (hat : d.at_ = fun K => He.ma K (He.ga K nm) "__contains__") (b : Bnd d ps fx 2 []) (ha : PE X o (rdE C (evE cal a))) (hb : PE X o' (rdE C (evE cal a'))) (hm : behindInMarks .In o' = false := by first | exact nomark _ | rfl) : PE X (.Compare o [.In] [o'] pos) (rdE C (evE cal (.inn false cl f a a'))) := by
  obtain ⟨fd, dvs, ds, h1, h2, h3, ok⟩ := e.defA ht b
  cases h3 ⟨fun _ => True, fun _ => True, fun _ => none⟩
  cases h1
  have ha' : d.at_ X.K = He.ma X.K (He.ga X.K nm) "__contains__" := by rw [hat]
  rw [ha'] at ok
  exact n_inn (fun ta tb h h' => pe_cmpR (op_inn (e.meth hcl him) ok c.low h2) h h' hm) ha hb
theorem q_rep (c : XC C X k) (e : GX tab fx gk cn X k C.G cal) {cl f im ib : Nat} {nm : Str} {d : He5.DefA} {ps : List Str} {o : Expr} {a : E} (hcl : cn[cl]? = some nm) (him : fx[im]? = some (.meth nm "__repr__")) (hib : fx[ib]? = some (.free "repr")) (ht : tab f = some (d, ps))
    (hat : d.at_ = fun K => He.ma K (He.ga K nm) "__repr__") (b : Bnd d ps fx 1 []) (ha : PE X o (rdE C (evE cal a))) (hg : Gl X "repr" := by rfl) (hs : starEach [o] X.env = (false, eval o X.env) :: starEach [] X.env := by rfl) :
    PE X (.Call (.Name "repr" p1) [o] [] pos) (rdE C (evE cal (.spc true cl f a))) := by
  obtain ⟨fd, dvs, ds, h1, h2, h3, ok⟩ := e.defA ht b
  cases h3 ⟨fun _ => True, fun _ => True, fun _ => none⟩
  cases h1
  have ha' : d.at_ X.K = He.ma X.K (He.ga X.K nm) "__repr__" := by rw [hat]
  rw [ha'] at ok
  exact n_rep (fun ta h => PE.imp (pe_callB (cr_rep (e.meth hcl him) ok c.room h2) hg (e.fre ib _ hib) (by rfl) (pa_cons h pa_nil hs) (by decide) (by decide) hs (by rfl)) fun _ _ _ q => q) ha
/-! ### isinstance -/
theorem q_isc (c : XC C X k) (e : GX tab fx gk cn X k C.G cal) {cl ig ib : Nat} {nm : Str} {cs ns : List Nat} {o : Expr} {a : E} (hcl : cn[cl]? = some nm) (hig : fx[ig]? = some (.glo nm)) (hib : fx[ib]? = some (.free "isinstance")) (ki : KitI fx cn cl nm cs ns) (ha : PE X o (rdE C (evE cal a))) (hg : Gl X "isinstance" := by rfl)
    (hgn : Gl X nm := by rfl) (hdb : (nm == ("__debug__" : Str)) = false := by decide) (hs : starEach [o, .Name nm p2] X.env = (false, eval o X.env) :: starEach [.Name nm p2] X.env := by rfl) : PE X (.Call (.Name "isinstance" p1) [o, .Name nm p2] [] pos) (rdE C (evE cal (.isc cs ns a))) := by
  have kc : KitC C.G cl cs ns := by
    refine ⟨fun x hx => ?_, fun c' h => ?_, fun c' h => ?_⟩
    · obtain ⟨i, hi⟩ := ki.ty
      have := List.all_eq_true.mp (show (tyNames.all fun x => decide (PySem.W.kitOne X.K (.type x) (.ref (He.ga X.K nm)) = some false)) = true from e.fxs i _ hi) x hx
      rw [c.K, e.cn cl nm hcl]
      exact of_decide_eq_true this
    · obtain ⟨n', i, j, h1, h2, h3⟩ := ki.yes c' h
      refine ⟨?_, by rw [c.K]; exact e.clsA h1 h3⟩
      rw [c.K, e.cn cl nm hcl, e.cn c' n' h1]
      exact of_decide_eq_true (e.fxs i _ h2)
    · obtain ⟨n', i, j, h1, h2, h3⟩ := ki.no c' h
      refine ⟨?_, by rw [c.K]; exact e.clsA h1 h3⟩
      rw [c.K, e.cn cl nm hcl, e.cn c' n' h1]
      exact of_decide_eq_true (e.fxs i _ h2)
  exact n_isc kc (fun ta h => PE.imp (pe_callB (r := rIsi C.G.K) (by rw [c.K]; exact call_isi) hg (e.fre ib _ hib) PyProof.Rows.boot_isinstance (pa_cons h (pa_cons (pe_glob (v := .ref (C.G.cls cl)) hgn (e.gloC hcl hig) rfl hdb) pa_nil) hs) (by decide) (by decide) hs (by rfl)) fun _ _ _ q => q) ha
theorem x_dic0 : PE X (.Dict [] [] pos) (rdE C (evE cal .dic0)) := n_dic0 pe_dnewK
end
end Mi
set_option maxHeartbeats 1000000
namespace Mi
open PySem PySem.Spec PyProof.Rows L2

/-! ### lent objects: frozen for the while of one expression, of some statements -/
noncomputable def lendS (is : List Nat) (j : Nat) (s : Slot) : Slot := match s with
  | .ow o => if j ∈ is ∧ o.lendable = true then .fz o.frz else .no
  | s => s
theorem lendM_get (is : List Nat) : ∀ (k : Nat) (m : List Slot) (j : Nat), (lendM is k m)[j]? = (m[j]?).map (lendS is (k + j))
  | k, [], j => by rw [lendM]; rfl
  | k, s :: r, j => by
    have ih := fun j => lendM_get is (k + 1) r j
    cases j with
    | zero => cases s <;> (rw [lendM]; rfl)
    | succ j =>
      have := ih j
      rw [show k + 1 + j = k + (j + 1) by omega] at this
      cases s <;> (rw [lendM]; rw [List.getElem?_cons_succ, List.getElem?_cons_succ]; exact this)
theorem lendM_len (is : List Nat) : ∀ (k : Nat) (m : List Slot), (lendM is k m).length = m.length
  | k, [] => by rw [lendM]
  | k, s :: r => by cases s <;> (rw [lendM, List.length_cons, List.length_cons, lendM_len is (k + 1) r])
theorem lendM_ow {is : List Nat} {k j : Nat} {m : List Slot} {o : O} (h : (lendM is k m)[j]? = some (.ow o)) : False := by
  rw [lendM_get] at h
  cases e : m[j]? with
  | none => rw [e] at h; cases h
  | some s =>
    rw [e] at h
    cases s with
    | no => cases h
    | fz t => cases h
    | ow o' =>
      have h : (if k + j ∈ is ∧ o'.lendable = true then Slot.fz o'.frz else .no) = .ow o := Option.some.inj h
      split at h <;> cases h
noncomputable def Lent (is : List Nat) (m : List Slot) (σ : St) (a : Addr) : Prop := ∃ (j : Nat) (o : O), j ∈ is ∧ o.lendable = true ∧ m[j]? = some (.ow o) ∧ σ[j]? = some (some (.ref a))
noncomputable def Wd.lend (w : Wd) (is : List Nat) (m : List Slot) (σ : St) : Wd := ⟨fun a => w.F a ∨ Lent is m σ a, fun _ => False, w.H⟩
/-- back behind it -/
noncomputable def Wd.thaw (w w1 : Wd) : Wd := ⟨w.F, fun a => w.L a ∨ w1.L a, w1.H⟩
section
variable {G : Gm} {w w1 : Wd} {m m1 : List Slot} {σ σ1 : St} {is : List Nat}
theorem Mo.lend : Mo w (w.lend is m σ) := ⟨fun _ h => .inl h, fun _ _ => .refl _⟩
theorem SR.lent (S : SR G w m σ) {a : Addr} {j : Nat} {o : O} (h : m[j]? = some (.ow o)) (e : σ[j]? = some (some (.ref a))) : w.L a ∧ RO G w a o := by
  obtain ⟨b, e1, r, l⟩ := S.sl j _ h
  rw [e] at e1
  cases e1
  exact ⟨l, r⟩
theorem Ex.lend (S : SR G w m σ) : Ex w (w.lend is m σ) := ⟨fun _ h => .inl h, fun _ _ => .refl _, fun a u h1 h2 h3 => ⟨h1, fun q => q.elim h2 fun ⟨j, o, _, _, e1, e2⟩ => h3 (S.lent e1 e2).1, fun q => q⟩⟩
theorem SR.lend (S : SR G w m σ) (is : List Nat) : SR G (w.lend is m σ) (lendM is 0 m) σ := by
  refine ⟨by rw [lendM_len]; exact S.len, fun j s h => ?_, fun i j o o' a h => (lendM_ow h).elim, fun a l => l.elim, fun a f => ?_⟩
  · rw [lendM_get, Nat.zero_add] at h
    cases e : m[j]? with
    | none => rw [e] at h; cases h
    | some s0 =>
      rw [e] at h
      have q := S.sl j s0 e
      cases s0 with
      | no => cases h; trivial
      | fz t => cases h; obtain ⟨x, e, r⟩ := q; exact ⟨x, e, r.mono .lend⟩
      | ow o =>
        have h : (if j ∈ is ∧ o.lendable = true then Slot.fz o.frz else .no) = s := Option.some.inj h
        obtain ⟨a, ea, r, l⟩ := q
        split at h
        · rename_i hc
          subst h
          exact ⟨_, ea, r.rf (.inr ⟨j, o, hc.1, hc.2, e, ea⟩) .lend rfl⟩
        · subst h; trivial
  · rcases f with f | ⟨j, o, _, _, e1, e2⟩
    · exact S.trk a f
    · exact (S.lent e1 e2).2.trk
theorem Mo.thaw (x : Ex (w.lend is m σ) w1) : Mo w (w.thaw w1) := ⟨fun _ h => h, fun b hb => x.kp b (.inl hb)⟩
theorem Ex.thaw (S : SR G w m σ) (x : Ex (w.lend is m σ) w1) : Ex w (w.thaw w1) := ⟨(Mo.thaw x).fz, (Mo.thaw x).kp, fun a u h1 h2 h3 => by
  obtain ⟨q1, q2, q3⟩ := x.ot a u h1 (fun q => q.elim h2 fun ⟨j, o, _, _, e1, e2⟩ => h3 (S.lent e1 e2).1) (fun q => q)
  exact ⟨q1, h2, fun q => q.elim h3 q3⟩⟩
/-- an owned object stands as it stood, and is not the other's -/
theorem lent_same (S : SR G w m σ) (x : Ex (w.lend is m σ) w1) (S1 : SR G w1 m1 σ1) {a : Addr} {j : Nat} {o : O} (h : m[j]? = some (.ow o)) (e : σ[j]? = some (some (.ref a))) : RO G (w.thaw w1) a o ∧ ¬ w1.L a := by
  obtain ⟨l, r⟩ := S.lent h e
  by_cases f : Lent is m σ a
  · have f' : (w.lend is m σ).F a := .inr f
    refine ⟨?_, fun l1 => S1.sep a l1 (x.fz a f')⟩
    obtain ⟨j', o', _, hl, h', e'⟩ := f
    have := S.inj j j' o o' a h h' e e'
    subst this
    rw [h] at h'
    cases h'
    cases r with
    | lst h1 r => exact .lst ((x.kp a f').eq h1 (fun k q => by rcases q with q | ⟨o, q⟩ <;> cases q)) (r.mono (Mo.thaw x))
    | ins h1 r => exact .ins ((x.kp a f').eq h1 (fun k q => by rcases q with q | ⟨o, q⟩ <;> cases q)) (r.mono (Mo.thaw x))
    | dic h1 r => cases hl
  · obtain ⟨u, hu⟩ := r.trk
    obtain ⟨q1, q2, q3⟩ := x.ot a u hu (fun q => q.elim (S.sep a l) f) (fun q => q)
    exact ⟨r.mono (Mo.thaw x) (q1.trans hu.symm), q3⟩
theorem SR.thaw (S : SR G w m σ) (x : Ex (w.lend is m σ) w1) (S1 : SR G w1 m1 σ1) : SR G (w.thaw w1) m σ := by
  refine ⟨S.len, fun j s h => ?_, S.inj, fun a l f => ?_, fun a f => ?_⟩
  · have q := S.sl j s h
    cases s with
    | no => trivial
    | fz t => obtain ⟨v, e, r⟩ := q; exact ⟨v, e, r.mono (Mo.thaw x)⟩
    | ow o =>
      obtain ⟨a, e, r, l⟩ := q
      exact ⟨a, e, (lent_same S x S1 h e).1, .inl l⟩
  · rcases l with l | l
    · exact S.sep a l f
    · exact S1.sep a l (x.fz a (.inl f))
  · obtain ⟨u, hu⟩ := S.trk a f
    exact (x.kp a (.inl f)).some ⟨u, hu⟩
theorem flat_rf {w w' : Wd} {t : T} {v : V} (h : flatT t = true) (r : RF G w t v) : RF G w' t v := by
  cases t <;> first | (cases h; done) | skip
  all_goals (cases r; constructor)
theorem flat_rfs {w w' : Wd} : ∀ {ts : List T} {vs : List V}, ts.all flatT = true → RFs G w ts vs → RFs G w' ts vs
  | _, _, _, .nil => .nil
  | _, _, h, .cons a b => by
    rw [List.all_cons, Bool.and_eq_true] at h
    exact .cons (flat_rf h.1 a) (flat_rfs h.2 b)
theorem flat_rfk {w w' : Wd} : ∀ {ts : List (Key × T)} {vs : List (Key × V)}, (ts.all fun kv => flatT kv.2) = true → RFk G w ts vs → RFk G w' ts vs
  | _, _, _, .nil => .nil
  | _, _, h, .cons a b => by
    rw [List.all_cons, Bool.and_eq_true] at h
    exact .cons (flat_rf h.1 a) (flat_rfk h.2 b)
theorem thin_ro {w w' : Wd} {o : O} {p : Addr} (h : thinO o = true) (e : w'.H = w.H) (r : RO G w p o) : RO G w' p o := by
  cases r with
  | lst h1 r => exact .lst (by rw [e]; exact h1) (flat_rfs h r)
  | dic h1 r => exact .dic (by rw [e]; exact h1) (flat_rfk h r)
  | ins h1 r => cases h
end
section
variable {C : Ct} {X : Cx} {k : Nat} {cal : Nat → List Slot → CRes} {L : Nat} {pos p1 p2 p3 p4 : Pos}
theorem n_lend {ex : Expr} {is : List Nat} {e : E} (h : PE X ex (rdE C (evE cal e))) : PE X ex (rdE C (evE cal (.lend is e))) := PE.imp h fun σ H Q ⟨w, m, eH, P, q⟩ => by
  rw [evE] at q
  refine ⟨w.lend is m σ, lendM is 0 m, eH, P.step (P.sr.lend is) (Ex.lend P.sr), ?_⟩
  cases hc : evE cal e (lendM is 0 m) with
  | no => rw [hc] at q; exact q.elim
  | ex x m1 => rw [hc] at q; exact q.elim
  | ok r m1 =>
    rw [hc] at q
    intro w1 v S1 x1 r1
    cases r with
    | bo i => exact q.elim
    | fz t =>
      simp only at q
      split at q
      · rename_i hf
        exact q (w.thaw w1) v (P.sr.thaw x1 S1) (Ex.thaw P.sr x1) (flat_rf hf r1)
      · exact q.elim
    | ow o =>
      simp only at q
      split at q
      · rename_i hf
        obtain ⟨p, rfl, ro, l, n⟩ := r1
        exact q (w.thaw w1) (.ref p) (P.sr.thaw x1 S1) (Ex.thaw P.sr x1) ⟨p, rfl, thin_ro (w := w1) (w' := w.thaw w1) hf rfl ro, .inr l, fun i o' h z => (lent_same P.sr x1 S1 h z).2 l⟩
      · exact q.elim
/-! ### two new lists, kept -/
/-! ### statements that look, and change nothing -/
noncomputable def Ct.scp (C : Ct) (A : List Nat) (w0 : Wd) (s0 : St) : Ct := ⟨C.G, w0, s0, fun j => !A.contains j, fun _ _ => False⟩
/-! ### a new instance out of owned objects -/
section
variable {tab : Nat → Option (He5.DefA × List Str)} {fx : List Fx} {gk : List (Str × T)} {cn : List Str}
end
end
end Mi
set_option maxHeartbeats 1000000
namespace Mi
open PySem PySem.Spec PyProof.Rows L2

/-! ### plain tools -/
theorem wipe_getP : ∀ (A : List Nat) (m : List Slot) (j : Nat), j ∉ A → (wipeM m A)[j]? = m[j]?
  | [], m, j, _ => rfl
  | v :: vs, m, j, h => by
    rw [wipeM, List.getElem?_set_ne (fun e => h (by simp [e])), wipe_getP vs m j fun z => h (by simp [z])]
theorem wipe_lenP : ∀ (A : List Nat) (m : List Slot), (wipeM m A).length = m.length
  | [], m => rfl
  | v :: vs, m => by rw [wipeM, List.length_set, wipe_lenP vs m]
theorem rest_len : ∀ (A : List Nat) (m0 m : List Slot), (restM m0 m A).length = m.length
  | [], m0, m => rfl
  | v :: vs, m0, m => by rw [restM, List.length_set, rest_len vs m0 m]
theorem rest_get : ∀ (A : List Nat) (m0 m : List Slot) (j : Nat), (restM m0 m A)[j]? = if j ∈ A ∧ j < m.length then some (m0[j]?.getD .no) else m[j]?
  | [], m0, m, j => by simp [restM]
  | v :: vs, m0, m, j => by
    rw [restM]
    by_cases e : v = j
    · subst e
      by_cases lt : v < m.length
      · rw [List.getElem?_set_self (by rw [rest_len]; exact lt), if_pos ⟨by simp, lt⟩]
      · rw [List.getElem?_eq_none (by rw [List.length_set, rest_len]; omega), if_neg (fun z => lt z.2), List.getElem?_eq_none (by omega)]
    · rw [List.getElem?_set_ne e, rest_get vs m0 m j]
      have : (j ∈ v :: vs) ↔ (j ∈ vs) := by
        simp only [List.mem_cons]
        exact ⟨fun z => z.elim (fun z => absurd z.symm e) id, .inr⟩
      simp only [this]
theorem rest_wipe {m : List Slot} {A : List Nat} (h : noOw m A = true) : restM m (wipeM m A) A = m := by
  apply List.ext_getElem?
  intro j
  rw [rest_get, wipe_lenP]
  by_cases hj : j ∈ A
  · have := List.all_eq_true.mp h j hj
    cases e : m[j]? with
    | none => rw [e] at this; cases this
    | some s =>
      have lt := (List.getElem?_eq_some_iff.mp e).1
      rw [if_pos ⟨hj, lt⟩]
      rfl
  · rw [if_neg (fun z => hj z.1), wipe_getP A m j hj]
theorem compP {own : List Nat} {p : Pt} {cond elt : List Slot → Res R} {m0 : List Slot} (P : T → Bool) (g : T → T) : ∀ (xs acc : List T), (∀ x ∈ xs, ∃ m1, bindP (wipeM m0 own) p x = some m1 ∧ wipeM m1 own = m0 ∧ cond m1 = .ok (.fz (.bl (P x))) m1 ∧ (P x = true → ∃ r, elt m1 = .ok r m1 ∧ esc m1 r.opd = some (g x, m1))) →
    acc.length + xs.length ≤ sizeLine → compGo own p cond elt xs acc m0 = .ok (acc ++ (xs.filter P).map g) m0
  | [], acc, _, _ => by rw [compGo]; simp
  | x :: xs, acc, h, hl => by
    obtain ⟨m1, h1, h5, h2, h3⟩ := h x List.mem_cons_self
    simp only [List.length_cons] at hl
    unfold compGo
    cases hp : P x with
    | true =>
      obtain ⟨r, h3, h4⟩ := h3 hp
      rw [hp] at h2
      simp only [h1, h2, Res.bind, h3, h4, h5]
      rw [if_pos (by omega), compP P g xs (acc ++ [g x]) (fun y hy => h y (List.mem_cons_of_mem _ hy)) (by simp; omega), List.append_assoc, List.filter_cons, hp]
      rfl
    | false =>
      rw [hp] at h2
      simp only [h1, h2, Res.bind, h5]
      rw [compP P g xs acc (fun y hy => h y (List.mem_cons_of_mem _ hy)) (by omega), List.filter_cons, hp]
      rfl
theorem ev_compP {cal : Nat → List Slot → CRes} {own : List Nat} {p : Pt} {s : Src} {cs : Es} {e : E} {m : List Slot} {xs : List T} (P : T → Bool) (g : T → T) (hs : evSrc cal s m = .ok xs m) (hn : noOw m own = true) (hw : wipeM (wipeM m own) own = wipeM m own)
    (h : ∀ x ∈ xs, ∃ m1, bindP (wipeM m own) p x = some m1 ∧ wipeM m1 own = wipeM m own ∧ evAll cal cs m1 = .ok (.fz (.bl (P x))) m1 ∧ (P x = true → ∃ r, evE cal e m1 = .ok r m1 ∧ esc m1 r.opd = some (g x, m1))) (hl : xs.length ≤ sizeLine) :
    evE cal (.comp own p s cs e) m = .ok (.ow (.lst ((xs.filter P).map g))) m := by
  have hc := compP (own := own) (p := p) (cond := fun m => evAll cal cs m) (elt := fun m => evE cal e m) (m0 := wipeM m own) P g xs [] (fun x hx => by rw [hw]; exact h x hx) (by simpa using hl)
  rw [evE, hs]
  simp only [Res.bind, if_pos hn, hc, Res.calm, rest_wipe hn, List.nil_append]
/-! whole numbers -/
noncomputable abbrev tI (xs : List Int) : List T := xs.map T.int
theorem tI_nil : tI [] = [] := rfl
theorem tI_cons {a : Int} {r : List Int} : tI (a :: r) = .int a :: tI r := rfl
theorem ev_compI {cal : Nat → List Slot → CRes} {own : List Nat} {p : Pt} {s : Src} {cs : Es} {e : E} {m : List Slot} {xs : List Int} (P : Int → Bool) (g : Int → T) (hs : evSrc cal s m = .ok (tI xs) m) (hn : noOw m own = true) (hw : wipeM (wipeM m own) own = wipeM m own)
    (h : ∀ x ∈ xs, ∃ m1, bindP (wipeM m own) p (.int x) = some m1 ∧ wipeM m1 own = wipeM m own ∧ evAll cal cs m1 = .ok (.fz (.bl (P x))) m1 ∧ (P x = true → ∃ r, evE cal e m1 = .ok r m1 ∧ esc m1 r.opd = some (g x, m1))) (hl : xs.length ≤ sizeLine) :
    evE cal (.comp own p s cs e) m = .ok (.ow (.lst ((xs.filter P).map g))) m := by
  have := ev_compP (xs := tI xs) (fun t => match t with | .int x => P x | _ => false) (fun t => match t with | .int x => g x | t => t) hs hn hw (fun x hx => by
    obtain ⟨y, hy, rfl⟩ := List.mem_map.mp hx
    exact h y hy) (by simpa using hl)
  rw [this]
  congr 3
  clear this h hs hl
  induction xs with
  | nil => rfl
  | cons a r ih =>
    cases hp : P a with
    | true =>
      rw [List.filter_cons_of_pos hp, List.map_cons, tI_cons, List.filter_cons_of_pos (by simpa using hp), List.map_cons, ih]
    | false => rw [List.filter_cons_of_neg (by simp [hp]), tI_cons, List.filter_cons_of_neg (by simp [hp]), ih]
theorem flat_tI (xs : List Int) : (tI xs).all flatT = true := by simp [flatT]
theorem any_tI (x : Int) (xs : List Int) : ((tI xs).any fun y => eqT y (.int x)) = decide (x ∈ xs) := by
  induction xs with
  | nil => rfl
  | cons a r ih =>
    rw [tI_cons, List.any_cons, ih]
    show (a == x || decide (x ∈ r)) = _
    by_cases h : a = x
    · subst h; simp
    · have : (a == x) = false := by simpa using h
      rw [this, Bool.false_or]
      simp [List.mem_cons, Ne.symm h]
theorem in_tI (k : Bool → Bool) (x : Int) (xs : List Int) : inF k (.int x) (.lst (tI xs)) = fB (k (decide (x ∈ xs))) := by
  show (if flatT (.int x) = true ∧ (tI xs).all flatT = true then fB (k ((tI xs).any fun y => eqT y (.int x))) else none) = _
  rw [if_pos ⟨rfl, flat_tI xs⟩, any_tI]
noncomputable abbrev dI (xs : List Int) : List (Key × T) := xs.map fun x => (.inl x, .bl true)
theorem dI_cons {a : Int} {r : List Int} : dI (a :: r) = (.inl a, .bl true) :: dI r := rfl
theorem any_dI (x : Int) (xs : List Int) : ((dI xs).any fun kv => decide (kv.1 = .inl x)) = decide (x ∈ xs) := by
  induction xs with
  | nil => rfl
  | cons a r ih =>
    rw [dI_cons, List.any_cons, ih]
    by_cases h : a = x
    · subst h; simp
    · have : decide ((Sum.inl a : Key) = .inl x) = false := by simpa using h
      rw [this, Bool.false_or]
      simp [List.mem_cons, Ne.symm h]
theorem in_dI (k : Bool → Bool) (x : Int) (xs : List Int) : inF k (.int x) (.dic (dI xs)) = fB (k (decide (x ∈ xs))) := by
  show (keyT (.int x)).bind (fun q => fB (k ((dI xs).any fun kv => decide (kv.1 = q)))) = _
  show fB (k ((dI xs).any fun kv => decide (kv.1 = .inl x))) = _
  rw [any_dI]
/-- {x: True for x in xs} -/
theorem dcI {own : List Nat} {p : Pt} {cond ke ve : List Slot → Res R} {m0 : List Slot} : ∀ (xs acc : List Int), (∀ x ∈ xs, ∃ m1, bindP (wipeM m0 own) p (.int x) = some m1 ∧ wipeM m1 own = m0 ∧ cond m1 = .ok (.fz (.bl true)) m1 ∧ ke m1 = .ok (.fz (.int x)) m1 ∧ ve m1 = .ok (.fz (.bl true)) m1) →
    (acc ++ xs).Nodup → acc.length + xs.length ≤ sizeLine → dcGo own p cond ke ve (tI xs) (dI acc) m0 = .ok (dI (acc ++ xs)) m0
  | [], acc, _, _, _ => by rw [tI_nil, dcGo, List.append_nil]
  | x :: xs, acc, h, hn, hl => by
    obtain ⟨m1, h1, h5, h2, h3, h4⟩ := h x List.mem_cons_self
    simp only [List.length_cons] at hl
    have hx : x ∉ acc := fun z => by
      have := List.nodup_append.mp hn
      exact this.2.2 x z x (by simp) rfl
    rw [tI_cons]
    unfold dcGo
    simp only [h1, h2, Res.bind, h3, h4, h5, keyT, R.opd, esc]
    have hput : putT (dI acc) (.inl x) (.bl true) = dI (acc ++ [x]) := by
      unfold putT
      rw [any_dI, if_neg (by simpa using hx)]
      simp
    rw [if_pos (by simp; omega), hput, dcI xs (acc ++ [x]) (fun y hy => h y (List.mem_cons_of_mem _ hy)) (by simpa using hn) (by simp; omega)]
    simp
theorem ev_dcI {cal : Nat → List Slot → CRes} {own : List Nat} {p : Pt} {s : Src} {cs : Es} {ke ve : E} {m : List Slot} {xs : List Int} (hs : evSrc cal s m = .ok (tI xs) m) (hn : noOw m own = true) (hw : wipeM (wipeM m own) own = wipeM m own)
    (h : ∀ x ∈ xs, ∃ m1, bindP (wipeM m own) p (.int x) = some m1 ∧ wipeM m1 own = wipeM m own ∧ evAll cal cs m1 = .ok (.fz (.bl true)) m1 ∧ evE cal ke m1 = .ok (.fz (.int x)) m1 ∧ evE cal ve m1 = .ok (.fz (.bl true)) m1) (hd : xs.Nodup) (hl : xs.length ≤ sizeLine) :
    evE cal (.dcm own p s cs ke ve) m = .ok (.ow (.dic (dI xs))) m := by
  have hc := dcI (own := own) (p := p) (cond := fun m => evAll cal cs m) (ke := fun m => evE cal ke m) (ve := fun m => evE cal ve m) (m0 := wipeM m own) xs [] (fun x hx => by rw [hw]; exact h x hx) (by simpa using hd) (by simpa using hl)
  rw [evE, hs]
  simp only [Res.bind, if_pos hn]
  have e : dI ([] : List Int) = [] := rfl
  rw [e] at hc
  simp only [hc, Res.calm, rest_wipe hn, List.nil_append]
theorem filt_true {α : Type} (xs : List α) : (xs.filter fun _ => true) = xs := List.filter_eq_self.mpr fun _ _ => rfl
/-- ranges -/
noncomputable def rngI (lo hi : Int) : List Int := (List.range (hi - lo).toNat).map fun (k : Nat) => lo + (k : Int)
theorem rangeT_eq (lo hi : Int) : rangeT lo hi = tI (rngI lo hi) := by unfold rangeT rngI tI; rw [List.map_map]; rfl
theorem mem_rngI {lo hi x : Int} : x ∈ rngI lo hi ↔ lo ≤ x ∧ x < hi := by
  unfold rngI
  refine List.mem_map.trans ?_
  constructor
  · rintro ⟨k, hk, rfl⟩
    have := List.mem_range.mp hk
    omega
  · intro ⟨h1, h2⟩
    exact ⟨(x - lo).toNat, List.mem_range.mpr (by omega), by omega⟩
theorem len_rngI (lo hi : Int) : (rngI lo hi).length = (hi - lo).toNat := by simp [rngI]
theorem asc_rngI (lo hi : Int) : (rngI lo hi).Pairwise (· < ·) := by
  unfold rngI
  rw [List.pairwise_map]
  exact List.pairwise_lt_range.imp fun h => by omega
theorem rngI_succ {lo hi : Int} (h : lo ≤ hi) : rngI lo (hi + 1) = rngI lo hi ++ [hi] := by
  unfold rngI
  rw [show (hi + 1 - lo).toNat = (hi - lo).toNat + 1 by omega, List.range_succ, List.map_append]
  simp only [List.map_cons, List.map_nil]
  rw [show lo + ((hi - lo).toNat : Int) = hi by omega]
theorem nodup_asc {xs : List Int} (h : xs.Pairwise (· < ·)) : xs.Nodup := h.imp fun h => by omega
theorem bools_map {α : Type} (f : α → Bool) : ∀ xs : List α, bools (xs.map fun x => T.bl (f x)) = some (xs.map f)
  | [] => rfl
  | a :: r => by simp only [List.map_cons, bools, bools_map f r, Option.map_some]
theorem all_map {α : Type} (f : α → Bool) (xs : List α) : allF (.lst (xs.map fun x => T.bl (f x))) = fB (xs.all f) := by
  show (bools (xs.map fun x => T.bl (f x))).bind (fun bs => fB (bs.all id)) = _
  rw [bools_map]
  show fB ((xs.map f).all id) = _
  rw [List.all_map]
  rfl
/-! ### equality of lists, of dicts -/
theorem pyTs_tI : ∀ xs : List Int, pyTs (tI xs) = some (xs.map PyData.int)
  | [] => rfl
  | a :: r => by rw [tI_cons, pyTs, pyTs_tI r]; rfl
theorem lay_tI : ∀ xs : List Int, PyData.canLayAll0 (xs.map PyData.int) = true
  | [] => rfl
  | a :: r => by rw [List.map_cons, PyData.canLayAll0, lay_tI r]; rfl
theorem depth_tI : ∀ xs : List Int, PyData.depthAll (xs.map PyData.int) = 0
  | [] => rfl
  | a :: r => by rw [List.map_cons, PyData.depthAll, depth_tI r]; rfl
theorem eqv_tI : ∀ xs ys : List Int, PyData.eqvAll (xs.map PyData.int) (ys.map PyData.int) = decide (xs = ys)
  | [], [] => rfl
  | [], _ :: _ => by simp [PyData.eqvAll]
  | _ :: _, [] => by simp [PyData.eqvAll]
  | x :: xs, y :: ys => by
    rw [List.map_cons, List.map_cons, PyData.eqvAll, eqv_tI xs ys]
    show (PyData.eqv (.int x) (.int y) && _) = _
    have : PyData.eqv (.int x) (.int y) = decide (x = y) := by
      simp only [PyData.eqv]
      by_cases h : x = y <;> simp [h]
    rw [this, ← Bool.decide_and]
    exact decide_eq_decide.mpr (by rw [List.cons.injEq])
theorem shaped_tI (xs : List Int) : SeqAt.shaped (.list (xs.map PyData.int)) = true := by
  show (PyData.canLay0 (.list _) && decide (PyData.depth (.list _) ≤ 64)) = true
  rw [PyData.canLay0, lay_tI, PyData.depth, depth_tI]
  rfl
theorem eq_tI (k : Bool → Bool) (xs ys : List Int) : eqF (.lst (tI xs)) (.lst (tI ys)) k = fB (k (decide (xs = ys))) := by
  show (match pyT (.lst (tI xs)), pyT (.lst (tI ys)) with
    | some d, some e => if SeqAt.shaped d = true ∧ SeqAt.shaped e = true then fB (k (PyData.eqv d e)) else none
    | _, _ => _) = _
  have h : ∀ xs, pyT (.lst (tI xs)) = some (.list (xs.map PyData.int)) := fun xs => by rw [pyT, pyTs_tI]; rfl
  rw [h xs, h ys]
  simp only
  rw [if_pos ⟨shaped_tI xs, shaped_tI ys⟩, PyData.eqv, eqv_tI]
theorem eq_nil (k : Bool → Bool) (xs : List Int) : eqF (.lst (tI xs)) (.lst []) k = fB (k (decide (xs = []))) := eq_tI k xs []
theorem val_dI (x : Int) : ∀ ys : List Int, valT (dI ys) (.inl x) = if x ∈ ys then some (.bl true) else none
  | [] => rfl
  | a :: r => by
    have ih := val_dI x r
    unfold valT at ih ⊢
    rw [dI_cons, List.find?_cons]
    by_cases h : a = x
    · subst h; simp
    · have : decide ((Sum.inl a : Key) = .inl x) = false := by simpa using h
      simp only [this]
      rw [ih]
      simp [List.mem_cons, Ne.symm h]
theorem hits_dI (ys : List Int) : ∀ xs : List Int, hitsT (dI ys) (dI xs) = some (decide (∀ x ∈ xs, x ∈ ys))
  | [] => by simp [hitsT]
  | a :: r => by
    rw [dI_cons, hitsT, val_dI, hits_dI ys r]
    by_cases h : a ∈ ys
    · rw [if_pos h]
      simp [sameK, Mi.eqT, h]
    · rw [if_neg h]
      simp [h]
theorem asc_sub : ∀ (ys xs : List Int), xs.Pairwise (· < ·) → ys.Pairwise (· < ·) → (∀ x ∈ xs, x ∈ ys) → xs.Sublist ys
  | [], xs, _, _, h => by
    cases xs with
    | nil => exact .slnil
    | cons a r => exact absurd (h a (by simp)) (by simp)
  | y :: ys, xs, hx, hy, h => by
    cases xs with
    | nil => exact List.nil_sublist _
    | cons a r =>
      rw [List.pairwise_cons] at hx hy
      by_cases e : a = y
      · subst e
        refine .cons₂ _ (asc_sub ys r hx.2 hy.2 fun x hx' => ?_)
        have := hx.1 x hx'
        rcases List.mem_cons.mp (h x (by simp [hx'])) with z | z
        · omega
        · exact z
      · have ha : a ∈ ys := by
          rcases List.mem_cons.mp (h a (by simp)) with z | z
          · exact absurd z e
          · exact z
        have hya := hy.1 a ha
        refine .cons _ (asc_sub ys (a :: r) (List.pairwise_cons.mpr hx) hy.2 fun x hx' => ?_)
        rcases List.mem_cons.mp (h x hx') with z | z
        · rcases List.mem_cons.mp hx' with z' | z'
          · omega
          · have := hx.1 x z'; omega
        · exact z
theorem eq_dI (k : Bool → Bool) {xs ys : List Int} (hx : xs.Pairwise (· < ·)) (hy : ys.Pairwise (· < ·)) : eqF (.dic (dI xs)) (.dic (dI ys)) k = fB (k (decide (xs = ys))) := by
  show eqD k (dI xs) (dI ys) = _
  unfold eqD
  rw [hits_dI, List.length_map, List.length_map]
  by_cases h : xs.length = ys.length
  · rw [if_pos h]
    simp only
    congr 2
    refine decide_eq_decide.mpr ⟨fun q => (asc_sub ys xs hx hy q).eq_of_length h, fun q => by rw [q]; exact fun x h => h⟩
  · rw [if_neg h, decide_eq_false (fun z => h (by rw [z]))]
/-! ### texts -/
noncomputable def istr (i : Int) : PySem.Str := toString i
noncomputable abbrev tS (xs : List PySem.Str) : List T := xs.map T.str
theorem strs_tS : ∀ xs : List PySem.Str, strsT (tS xs) = some xs
  | [] => rfl
  | a :: r => by show (strsT (tS r)).map _ = _; rw [strs_tS r]; rfl
noncomputable def JoinOk (xs : List PySem.Str) : Prop := (xs.map (·.length)).sum + xs.length * 1 ≤ 16777216
theorem join_sp {xs : List PySem.Str} (h : JoinOk xs) : joinF (.str " ") (.lst (tS xs)) = fS (Txt.join " " xs) := by
  show (strsT (tS xs)).bind (fun ys => if (ys.map (·.length)).sum + ys.length * PySem.Str.length " " ≤ 16777216 then fS (Txt.join " " ys) else none) = _
  rw [strs_tS]
  exact if_pos h
theorem join_eq (sep : PySem.Str) (l : List PySem.Str) : Txt.join sep l = PySem.Str.join sep l := by
  cases l with
  | nil => rfl
  | cons a r => exact PySem.StrLaws.glued_eq_join sep (a :: r)
theorem len_join0 (sep : PySem.Str) : ∀ l : List PySem.Str, (PySem.Str.join sep l).length ≤ (l.map (·.length)).sum + l.length * sep.length
  | [] => Nat.zero_le _
  | [x] => by show x.length ≤ _; simp
  | x :: y :: r => by
    have ih := len_join0 sep (y :: r)
    show (x ++ sep ++ PySem.Str.join sep (y :: r)).length ≤ _
    rw [PySem.Str.length_append, PySem.Str.length_append]
    simp only [List.map_cons, List.sum_cons, List.length_cons] at ih ⊢
    have : (r.length + 1 + 1) * sep.length = (r.length + 1) * sep.length + sep.length := by rw [Nat.add_mul (r.length + 1), Nat.one_mul]
    omega
theorem len_join (sep : PySem.Str) (l : List PySem.Str) : (Txt.join sep l).length ≤ (l.map (·.length)).sum + l.length * sep.length := by rw [join_eq]; exact len_join0 sep l
noncomputable def Small (i : Int) : Prop := i.natAbs.log2 < 1920
theorem str_int {i : Int} (h : Small i) : strF (.int i) = some (.fz (.str (istr i))) := if_pos h
theorem comp_str {cal : Nat → List Slot → CRes} {j : Nat} {s : Src} {e : E} {m : List Slot} {xs : List Int} (he : e = .op .str (.cons (.var j) .nil)) (hs : evSrc cal s m = .ok (tI xs) m) (hj : m[j]? = some .no) (h : ∀ x ∈ xs, Small x) (hl : xs.length ≤ sizeLine) : evE cal (.comp [j] (.nm j) s .nil e) m = .ok (.ow (.lst (tS (xs.map istr)))) m := by
  have lt := (List.getElem?_eq_some_iff.mp hj).1
  have hw : wipeM m [j] = m := by
    show m.set j .no = m
    refine List.ext_getElem? fun i => ?_
    by_cases e : j = i
    · subst e; rw [List.getElem?_set_self lt, hj]
    · rw [List.getElem?_set_ne e]
  have := ev_compI (cal := cal) (own := [j]) (p := .nm j) (s := s) (cs := .nil) (e := e) (m := m) (xs := xs) (fun _ => true) (fun x => T.str (istr x)) hs (by simp [noOw, hj]) (by rw [hw, hw]) (fun x hx => by
    refine ⟨m.set j (.fz (.int x)), by rw [hw]; simp [bindP, lt], ?_, by rw [evAll], fun _ => ⟨.fz (.str (istr x)), ?_, rfl⟩⟩
    · rw [hw]; show (m.set j (.fz (.int x))).set j .no = m; rw [List.set_set]; exact hw
    · rw [he, evE, evDs, ev_var (List.getElem?_set_self lt)]
      simp [Res.bind, evDs, R.opd, opR, ders, der, opF, op1, str_int (h x hx)]) hl
  rw [this, filt_true]
  unfold tS
  rw [List.map_map]
  rfl
/-! ### equal things are the same -/
inductive Pl : Nat → T → Prop
  | flat {n : Nat} {t : T} : flatT t = true → Pl n t
  | lst {n : Nat} {xs : List T} : (∀ x ∈ xs, Pl n x) → xs.length ≤ sizeLine → Pl (n + 1) (.lst xs)
theorem sameT_refl {t : T} (h : flatT t = true) : sameT t t = true := by
  cases t <;> first | (cases h; done) | simp [sameT]
theorem same_refl {Γ : Nat → Option Def} {L f : Nat} (hf : Γ f = some (dSame f)) : ∀ (n : Nat) (t : T) (k : Nat), Pl n t → n < k → callF Γ L k f [.fz t, .fz t] = .ok (.fz (.bl true)) [.no, .no] := by
  intro n
  induction n with
  | zero =>
    intro t k h hk
    obtain ⟨k, rfl⟩ := Nat.exists_eq_succ_of_ne_zero (show k ≠ 0 by omega)
    cases h with
    | flat h => rw [same_flat hf h h, sameT_refl h]
  | succ n ih =>
    intro t k h hk
    obtain ⟨k, rfl⟩ := Nat.exists_eq_succ_of_ne_zero (show k ≠ 0 by omega)
    cases h with
    | flat h => rw [same_flat hf h h, sameT_refl h]
    | lst h hz =>
      rename_i xs
      have hzip : zipT xs xs = xs.map fun x => .tup [x, x] := by
        clear h hz
        induction xs with
        | nil => rfl
        | cons a r ih => rw [zipT, ih]; rfl
      have hc := compP (own := [3, 4]) (p := .tup (.cons (.nm 3) (.cons (.nm 4) .nil))) (cond := fun m => evAll (callF Γ L k) .nil m) (elt := fun m => evE (callF Γ L k) (sameE f) m) (m0 := [.fz (.lst xs), .fz (.lst xs), .no, .no, .no]) (fun _ => true) (fun _ => .bl true) (zipT xs xs) [] (fun z hz => by
        rw [hzip] at hz
        obtain ⟨x, hx, rfl⟩ := List.mem_map.mp hz
        refine ⟨[.fz (.lst xs), .fz (.lst xs), .no, .fz x, .fz x], by simp [bindP, bindPs, wipeM], by simp [wipeM], by rw [evAll], fun _ => ⟨.fz (.bl true), ?_, rfl⟩⟩
        simp [sameE, evE, evDs, Res.bind, R.opd, callR, pass, esc, back, ih x k (h x hx) (by omega)]) (by rw [hzip]; simpa using hz)
      have hfl : ((zipT xs xs).filter fun _ => true).map (fun _ => T.bl true) = xs.map fun _ => T.bl true := by
        rw [hzip, List.filter_eq_self.mpr (fun _ _ => rfl), List.map_map]; rfl
      rw [hfl, List.nil_append] at hc
      have ha : allF (.lst (xs.map fun _ => T.bl true)) = fB true := by rw [all_map (fun _ => true), show (xs.all fun _ => true) = true from List.all_eq_true.mpr fun _ _ => rfl]
      have hb : ∃ m, evSs (callF Γ L k) L (dSame f).body ([.fz (.lst xs), .fz (.lst xs)] ++ List.replicate ((dSame f).ns - (dSame f).np) .no) = .rt (.fz (.bl true)) m := by
        refine ⟨[.fz (.lst xs), .fz (.lst xs), .no, .no, .no], ?_⟩
        unfold dSame same0 same1 same2 same3 same4 same5 same6
        simp [evSs, evS, evE, evDs, evSrc, Res.bind, ofR, R.opd, opR, ders, der, opF, op2, op1, O.frz, esc, escs, isnF, isNon, fB, isi1F, isiF, Ty.has, eqF, scalT, flatT, eqT, lenF, fI, loT, noOw, wipeM, hc, Res.calm, restM, ha, outR]
      obtain ⟨m, hb⟩ := hb
      rw [run_fz (args := [.fz (.lst xs), .fz (.lst xs)]) hf rfl hb]
      rcases m with _ | ⟨a, _ | ⟨b, m⟩⟩ <;> rfl
end Mi
set_option maxHeartbeats 1000000
namespace Mi
open PySem PySem.Spec PyProof.Rows L2

section
variable {C : Ct} {X : Cx} {k L : Nat} {cal : Nat → List Slot → CRes} {pos p1 p2 : Pos}
/-! ### functions of two arguments -/
theorem x_bf2 {x : Str} {id : String} {f : Op} {a b : Expr} {ea eb : E} {r : List V → Hp → VK → Prop} (hc : CallR X (.builtin id) r) (ok : OpOk2 C.G f fun x y H Q => r [x, y] H Q) (hm : X.mg x = some (.builtin id)) (hg : Gl X x) (hdb : (x == ("__debug__" : Str)) = false)
    (hs : starEach [a, b] X.env = (false, eval a X.env) :: starEach [b] X.env) (hs2 : starEach [b] X.env = (false, eval b X.env) :: starEach [] X.env) (hpl : (backTo pos (starEach [b] X.env)).any (·.1) = false) (ha : PE X a (rdE C (evE cal ea))) (hb : PE X b (rdE C (evE cal eb))) : PE X (.Call (.Name x p1) [a, b] [] pos) (rdE C (evE cal (.op f (.cons ea (.cons eb .nil))))) :=
  n_op2 (fun ta tb h h' => PE.imp (pe_callBfun hc hg hm (pa_cons h (pa_cons h' pa_nil hs2) hs) hdb hs hpl) fun _ _ _ q => q) ok ha hb
noncomputable def rLcm : List V → Hp → VK → Prop := fun vs H Q => ∃ a b : Int, vs = [.int a, .int b] ∧ a.natAbs < 2 ^ 64 ∧ b.natAbs < 2 ^ 64 ∧ Q (.int ((Nat.lcm a.natAbs b.natAbs : Nat) : Int)) H
theorem cr_lcm : CallR X (.builtin "math.lcm") rLcm := by
  intro pins s σ H vs us Q I r h
  obtain ⟨a, b, rfl, h1, h2, q⟩ := h
  obtain ⟨t, u, rfl⟩ := Vals.int2 r
  exact PySem.W.mc_lcm h1 h2 fun _ => ⟨.int _, H, I.tok _, ⟨_, rfl⟩, q⟩
theorem okLcm {G : Gm} : OpOk2 G .lcm (fun x y H Q => rLcm [x, y] H Q) := fun w m σ t1 t2 v1 v2 res Q S a b h k => by
  replace h : lcmF t1 t2 = some res := h
  cases t1 <;> try (cases h; done)
  case int i =>
    cases t2 <;> try (cases h; done)
    case int j =>
      cases a.int; cases b.int
      simp only [lcmF] at h
      split at h
      · rename_i hl
        cases h
        refine ⟨i, j, rfl, by omega, by omega, ?_⟩
        rw [show i.natAbs = i.toNat by omega, show j.natAbs = j.toNat by omega]
        exact k.fz S (.int _)
      · cases h
theorem x_lcm {a b : Expr} {ea eb : E} (hm : X.mg "lcm" = some (.builtin "math.lcm")) (ha : PE X a (rdE C (evE cal ea))) (hb : PE X b (rdE C (evE cal eb))) (hg : Gl X "lcm" := by rfl) (hs : starEach [a, b] X.env = (false, eval a X.env) :: starEach [b] X.env := by rfl) (hs2 : starEach [b] X.env = (false, eval b X.env) :: starEach [] X.env := by rfl)
    (hpl : (backTo pos (starEach [b] X.env)).any (·.1) = false := by rfl) : PE X (.Call (.Name "lcm" p1) [a, b] [] pos) (rdE C (evE cal (.op .lcm (.cons ea (.cons eb .nil))))) := x_bf2 cr_lcm okLcm hm hg (by decide) hs hs2 hpl ha hb
/-! ### list(range(..)) -/
theorem rfs_rg {G : Gm} {w : Wd} (a b : Int) : RFs G w (Mi.rangeT a b) (rgV a b) := by
  unfold Mi.rangeT rgV
  generalize List.range (b - a).toNat = l
  induction l with
  | nil => exact .nil
  | cons i l ih => exact .cons (.int _) ih
theorem x_lr1 (c : XC C X k) {a : Expr} {ea : E} (hm : Fr X "list") (hm2 : Fr X "range") (ha : PE X a (rdE C (evE cal ea))) (hg : Gl X "list" := by rfl) (hg2 : Gl X "range" := by rfl) (hs : starEach [.Call (.Name "range" p2) [a] [] p1] X.env = (false, eval (.Call (.Name "range" p2) [a] [] p1) X.env) :: starEach [] X.env := by rfl)
    (hs2 : starEach [a] X.env = (false, eval a X.env) :: starEach [] X.env := by rfl) {p3 : Pos} : PE X (.Call (.Name "list" p3) [.Call (.Name "range" p2) [a] [] p1] [] pos) (rdE C (evE cal (.lr (.rng1 ea)))) :=
  PE.imp (pe_listRg c.calm hg hm (prg_1 hg2 hm2 (pe_opd ha) hs2) hs) fun σ H Q ⟨w, m, e, P, q⟩ => by
  rw [evE, Res.sat_bind, evSrc, Res.sat_bind] at q
  refine ⟨w, m, e, P, ?_⟩
  rw [opdF, Res.sat_bind]
  refine Res.sat_mono q fun r m1 q1 w1 v S1 x1 r1 => ?_
  cases hd : der m1 r.opd with
  | none => rw [hd] at q1; exact q1.elim
  | some t =>
    rw [hd] at q1
    cases t <;> try (exact q1.elim)
    case int j =>
      simp only at q1
      split at q1
      · rename_i hw
        have q1 : Res.sat (if (Mi.rangeT 0 j).length ≤ sizeLine then Res.ok (R.ow (.lst (Mi.rangeT 0 j))) m1 else .no) _ C.EM := q1
        split at q1
        · rename_i hl
          have hi := (S1.der r1 hd).int
          subst hi
          have hw' := of_decide_eq_true hw
          have hlen : (j - 0).toNat ≤ 2 ^ 24 := by
            have : (Mi.rangeT 0 j).length = (j - 0).toNat := by unfold Mi.rangeT; simp
            rw [this] at hl
            exact hl
          refine ⟨j, rfl, ⟨by decide, by decide, hw'.1, hw'.2, hlen⟩, fun p hp => ?_⟩
          exact After.new (o := .lst (Mi.rangeT 0 j)) (fun w' v S' x' r' => q1 w' v S' (x1.trans x') r') S1 hp (.lst upd_same (rfs_rg 0 j))
        · exact q1.elim
      · exact q1.elim
/-! ### the truth of an instance -/
theorem tru_own {f A : Addr} {fd : FuncData} {ps : List Str} {sp : Sp} (hm : Meth X.K A "__bool__" f) (F : FnOk X.prog X.w X.K X.mg X.base (L2.CX X.prog X.w) k f fd ps sp) (hr : Room k X.A) (hb : Binds X.K fd ps []) : TruR X (fun x H Q => rBoo A sp [x] H fun v H1 => ∃ z, v = .bl z ∧ Q z H1) := by
  intro pins s σ H x v Q I rx h
  obtain ⟨a, dx, fs, e, ea, q⟩ := h
  cases e
  have rx' := rx
  cases rx
  obtain ⟨mA, O, _⟩ := ins_get I.hok ea
  obtain ⟨od, J, _⟩ := O.look
  refine MiP.own_bool I.kIn J hm.at_ hm.fn (thn (run_fn (dvs := []) (ds := []) F hr hb .nil passEF I (.cons rx' .nil) (by rw [List.append_nil]; exact q)) fun r s' hh => ?_)
  obtain ⟨v', H', I', rv, b, e, b', e', q'⟩ := hh
  subst e
  cases e'
  cases rv
  exact ⟨b, rfl, H', I', q'⟩
theorem rd_boo {c f : Nat} {a : E} {σ : St} {H : Hp} {Q : VK} (q0 : rdE C (evE cal (.spc false c f a)) σ H Q) : rdD C (opdF (evE cal a)) σ H fun x H1 => rBoo (C.G.cls c) (spM C.G cal f) [x] H1 Q := by
  obtain ⟨w, m, e, P, q⟩ := q0
  rw [evE, Res.sat_bind] at q
  refine ⟨w, m, e, P, ?_⟩
  rw [opdF, Res.sat_bind]
  refine Res.sat_mono q fun ra m1 q1 w1 v1 S1 x1 r1 => ?_
  split at q1
  · rename_i c' fs hd
    split at q1
    · rename_i hcc
      subst hcc
      obtain ⟨p, dx, gs, rfl, h1, h2⟩ := (S1.der r1 hd).ins
      rw [Res.sat_bind] at q1
      refine ⟨p, dx, gs, rfl, h1, ?_⟩
      refine call_quiet (P.step S1 x1) (.cons r1 .nil) (Res.sat_mono q1 fun r m2 q2 w2 v2 S2 x2 r2 => ?_)
      cases r with
      | ow o => exact q2.elim
      | bo k => exact q2.elim
      | fz t =>
        cases t <;> try (exact q2.elim)
        case bl z =>
          cases r2
          exact ⟨z, rfl, q2 w2 _ S2 (x1.trans x2) (.bl _)⟩
    · exact q1.elim
  · exact q1.elim
theorem pe_notR {a : Expr} {ta : TE} {r : V → Hp → (Bool → Hp → Prop) → Prop} (ha : PE X a ta) (ht : TruR X r) : PE X (.UnaryOp .Not a pos) (fun σ H Q => ta σ H fun x H1 => r x H1 fun c H2 => Q (.bl (!c)) H2) := by
  refine ⟨fun pins s σ H Q I h => ?_⟩
  refine UnaryOp_ (thn (ha.run pins s σ H _ I h) fun v s1 ⟨x, H1, I1, r1, q1⟩ => ?_)
  exact not_of (thn (ht pins s1 σ H1 x v (fun c H2 => Q (.bl (!c)) H2) I1 r1 q1) fun c s2 ⟨H2, I2, q2⟩ => ⟨.bl (!c), H2, I2, rfl, q2⟩)
section
variable {tab : Nat → Option (He5.DefA × List Str)} {fx : List Fx} {gk : List (Str × T)} {cn : List Str}
theorem GQ.tru (c : XC C X k) (e : GX tab fx gk cn X k C.G cal) {cl f im : Nat} {nm : Str} {d : He5.DefA} {ps : List Str} (hcl : cn[cl]? = some nm) (him : fx[im]? = some (.meth nm "__bool__")) (ht : tab f = some (d, ps)) (hat : d.at_ = fun K => He.ma K (He.ga K nm) "__bool__") (b : Bnd d ps fx 1 []) :
    TruR X (fun x H Q => rBoo (C.G.cls cl) (spM C.G cal f) [x] H fun v H1 => ∃ z, v = .bl z ∧ Q z H1) := by
  obtain ⟨fd, dvs, ds, h1, h2, h3, ok⟩ := e.defA ht b
  cases h3 ⟨fun _ => True, fun _ => True, fun _ => none⟩
  cases h1
  have ha' : d.at_ X.K = He.ma X.K (He.ga X.K nm) "__bool__" := by rw [hat]
  rw [ha'] at ok
  exact tru_own (e.meth hcl him) ok c.low h2
/-- a test: an instance's truth -/
theorem q_truT (c : XC C X k) (e : GX tab fx gk cn X k C.G cal) {cl f im : Nat} {nm : Str} {d : He5.DefA} {ps : List Str} {o : Expr} {a : E} (hcl : cn[cl]? = some nm) (him : fx[im]? = some (.meth nm "__bool__")) (ht : tab f = some (d, ps)) (hat : d.at_ = fun K => He.ma K (He.ga K nm) "__bool__") (b : Bnd d ps fx 1 []) (ha : PE X o (rdE C (evE cal a)))
    (he : ∀ whole, isTrue o X.env whole = (do let v ← whole; standAt o.pos; holding [v] (truthy v)) := by intro _; rfl) : PT X o (rdB C (evE cal (.spc false cl f a))) :=
  PT.imp (pt_truthR (pe_opd ha) (e.tru c hcl him ht hat b) he) fun σ H Q q => rd_boo (rd_bool q)
/-- not e, e an instance -/
theorem q_notI (c : XC C X k) (e : GX tab fx gk cn X k C.G cal) {cl f im : Nat} {nm : Str} {d : He5.DefA} {ps : List Str} {o : Expr} {a : E} (hcl : cn[cl]? = some nm) (him : fx[im]? = some (.meth nm "__bool__")) (ht : tab f = some (d, ps)) (hat : d.at_ = fun K => He.ma K (He.ga K nm) "__bool__") (b : Bnd d ps fx 1 []) (ha : PE X o (rdE C (evE cal a))) :
    PE X (.UnaryOp .Not o pos) (rdE C (evE cal (.nt (.spc false cl f a)))) :=
  PE.imp (pe_notR (pe_opd ha) (e.tru c hcl him ht hat b)) fun σ H Q ⟨w, m, eH, P, q⟩ => by
  rw [evE, Res.sat_bind] at q
  have q' : rdE C (evE cal (.spc false cl f a)) σ H (fun v H1 => ∃ z, v = .bl z ∧ Q (.bl (!z)) H1) := ⟨w, m, eH, P, Res.sat_mono q fun r m1 q1 w1 v S1 x1 r1 => by
    split at q1
    · rename_i z
      cases r1
      exact ⟨z, rfl, q1 w1 _ S1 x1 (.bl _)⟩
    · exact q1.elim⟩
  exact rd_boo q'
end
/-! ### a method's call by keywords alone -/
theorem kbindsN {K : PySem.W.Frag} {x qual : Str} {params : Arguments} {body : List Stmt} {scope : Scope} {kws : List (Str × V)} {f : Addr} {fd : FuncData} {ps : List Str} (F : L2.FunD K x qual params body scope [] kws f fd) (n : Nat) (ks : List Str) (g : {α : Type} → List α → List α → List α)
    (hrel : ∀ {vs zs : List V} {us ws : List Value}, Vals vs us → Vals zs ws → Vals (g vs zs) (g us ws))
    (h : ∀ (kV doc pm : Value) (an : Option Addr) (cdv ct : Value) (us ws : List Value), us.length = n → ws.length = ks.length → bindArgs (PySem.W.fnOf x qual params body scope .none kV doc pm an cdv ct) ⟨us, ks.zip ws⟩ = pure (ps.zip (g us ws))) : KBn K fd ps n ks (fun us ws => g us ws) (fun vs zs => g vs zs) := by
  obtain ⟨oc, od, dV, kV, doc, pm, an, cdv, ct, osl, rfl, lk, hcd, hD, hK⟩ := F.ex
  rcases hD with ⟨_, rfl⟩ | ⟨e, _⟩
  · exact ⟨fun s us ws X l1 l2 => .of_eq (h kV doc pm an cdv ct us ws l1 l2), fun r1 r2 => hrel r1 r2⟩
  · exact absurd rfl e
section
variable {tab : Nat → Option (He5.DefA × List Str)} {fx : List Fx} {gk : List (Str × T)} {cn : List Str}
end
end
end Mi
set_option maxHeartbeats 1000000
namespace Mi
open PySem PySem.Spec PyProof.Rows L2

section
variable {C : Ct} {X : Cx} {k L : Nat} {cal : Nat → List Slot → CRes} {pos apos p1 p2 : Pos}
/-! ### classmethods: C.m() -/
section
variable {tab : Nat → Option (He5.DefA × List Str)} {fx : List Fx} {gk : List (Str × T)} {cn : List Str}
/-! ### cls(..) in a classmethod -/
end
end
end Mi
set_option maxHeartbeats 1000000
namespace Mi
open PySem PySem.Spec PyProof.Rows L2

/-! ### wishes: the evaluator, forward -/
@[irreducible] def wE (cal : Nat → List Slot → CRes) (e : E) (m : List Slot) (Q : R → List Slot → Prop) : Prop := ∃ r m', evE cal e m = .ok r m' ∧ Q r m'
@[irreducible] def wD (cal : Nat → List Slot → CRes) (es : Es) (m : List Slot) (Q : List Opd → List Slot → Prop) : Prop := ∃ r m', evDs cal es m = .ok r m' ∧ Q r m'
@[irreducible] def wS (cal : Nat → List Slot → CRes) (s : Src) (m : List Slot) (Q : List T → List Slot → Prop) : Prop := ∃ r m', evSrc cal s m = .ok r m' ∧ Q r m'
@[irreducible] def wA (cal : Nat → List Slot → CRes) (es : Es) (m : List Slot) (Q : R → List Slot → Prop) : Prop := ∃ r m', evAll cal es m = .ok r m' ∧ Q r m'
structure En where
  nx : List Slot → Prop
  rt : R → List Slot → Prop
  bk : List Slot → Prop
  ct : List Slot → Prop
noncomputable abbrev En.seq (D : En) (f : List Slot → Prop) : En := ⟨f, D.rt, D.bk, D.ct⟩
noncomputable def Fl.sat (D : En) : Fl → Prop
  | .nx m => D.nx m
  | .rt r m => D.rt r m
  | .bk m => D.bk m
  | .ct m => D.ct m
  | _ => False
@[irreducible] def wT (cal : Nat → List Slot → CRes) (L : Nat) (s : S) (m : List Slot) (D : En) : Prop := (evS cal L s m).sat D
@[irreducible] def wB (cal : Nat → List Slot → CRes) (L : Nat) (s : Ss) (m : List Slot) (D : En) : Prop := (evSs cal L s m).sat D
@[irreducible] def wC (cal : Nat → List Slot → CRes) (f : Nat) (args : List Slot) (Q : R → List Slot → Prop) : Prop := ∃ r outs, cal f args = .ok r outs ∧ (∀ i, r ≠ .bo i) ∧ Q r outs
/-- an operation on values -/
@[irreducible] def wO (f : Op) (ts : List T) (Q : R → Prop) : Prop := ∃ r, opF f ts = some r ∧ Q r
theorem Fl.sat_mono {D D' : En} {f : Fl} (h : f.sat D) (h1 : ∀ m, D.nx m → D'.nx m) (h2 : ∀ r m, D.rt r m → D'.rt r m) (h3 : ∀ m, D.bk m → D'.bk m) (h4 : ∀ m, D.ct m → D'.ct m) : f.sat D' := by
  cases f with
  | nx m => exact h1 _ h
  | rt r m => exact h2 _ _ h
  | bk m => exact h3 _ h
  | ct m => exact h4 _ h
  | ex x m => exact h
  | no => exact h
section
variable {cal : Nat → List Slot → CRes} {L : Nat} {m : List Slot} {Q : R → List Slot → Prop} {D : En}
theorem wE.mono {e : E} {Q' : R → List Slot → Prop} (h : wE cal e m Q) (k : ∀ r m, Q r m → Q' r m) : wE cal e m Q' := by
  (try unfold wE at *); (try unfold wD at *); (try unfold wS at *); (try unfold wA at *); (try unfold wT at *); (try unfold wB at *); (try unfold wC at *); (try unfold wO at *); (try unfold wJ at *); (try unfold wX at *)
  obtain ⟨r, m', e1, q⟩ := h
  exact ⟨r, m', e1, k _ _ q⟩
theorem wE.of {e : E} {r : R} {m' : List Slot} (h : evE cal e m = .ok r m') (q : Q r m') : wE cal e m Q := by (try unfold wE at *); (try unfold wD at *); (try unfold wS at *); (try unfold wA at *); (try unfold wT at *); (try unfold wB at *); (try unfold wC at *); (try unfold wO at *); (try unfold wJ at *); (try unfold wX at *); exact ⟨r, m', h, q⟩
theorem wC.of {f : Nat} {args outs : List Slot} {r : R} (h : cal f args = .ok r outs) (nb : ∀ i, r ≠ .bo i) (q : Q r outs) : wC cal f args Q := by (try unfold wE at *); (try unfold wD at *); (try unfold wS at *); (try unfold wA at *); (try unfold wT at *); (try unfold wB at *); (try unfold wC at *); (try unfold wO at *); (try unfold wJ at *); (try unfold wX at *); exact ⟨r, outs, h, nb, q⟩
theorem wC.fz {f : Nat} {args outs : List Slot} {t : T} (h : cal f args = .ok (.fz t) outs) (q : Q (.fz t) outs) : wC cal f args Q := by (try unfold wE at *); (try unfold wD at *); (try unfold wS at *); (try unfold wA at *); (try unfold wT at *); (try unfold wB at *); (try unfold wC at *); (try unfold wO at *); (try unfold wJ at *); (try unfold wX at *); exact ⟨_, outs, h, (fun _ z => nomatch z), q⟩
theorem wC.ow {f : Nat} {args outs : List Slot} {o : O} (h : cal f args = .ok (.ow o) outs) (q : Q (.ow o) outs) : wC cal f args Q := by (try unfold wE at *); (try unfold wD at *); (try unfold wS at *); (try unfold wA at *); (try unfold wT at *); (try unfold wB at *); (try unfold wC at *); (try unfold wO at *); (try unfold wJ at *); (try unfold wX at *); exact ⟨_, outs, h, (fun _ z => nomatch z), q⟩
theorem wC.mono {f : Nat} {args : List Slot} {Q' : R → List Slot → Prop} (h : wC cal f args Q) (k : ∀ r m, Q r m → Q' r m) : wC cal f args Q' := by
  (try unfold wE at *); (try unfold wD at *); (try unfold wS at *); (try unfold wA at *); (try unfold wT at *); (try unfold wB at *); (try unfold wC at *); (try unfold wO at *); (try unfold wJ at *); (try unfold wX at *)
  obtain ⟨r, m', e1, n, q⟩ := h
  exact ⟨r, m', e1, n, k _ _ q⟩
/-- told by an equation -/
theorem wC.eq_fz {f : Nat} {args : List Slot} {t : T} {outs : List Slot} (h : wC cal f args fun r o => r = .fz t ∧ o = outs) : cal f args = .ok (.fz t) outs := by
  (try unfold wE at *); (try unfold wD at *); (try unfold wS at *); (try unfold wA at *); (try unfold wT at *); (try unfold wB at *); (try unfold wC at *); (try unfold wO at *); (try unfold wJ at *); (try unfold wX at *)
  obtain ⟨r, o, e, _, rfl, rfl⟩ := h
  exact e
theorem wC.eq_ow {f : Nat} {args : List Slot} {t : O} {outs : List Slot} (h : wC cal f args fun r o => r = .ow t ∧ o = outs) : cal f args = .ok (.ow t) outs := by
  (try unfold wE at *); (try unfold wD at *); (try unfold wS at *); (try unfold wA at *); (try unfold wT at *); (try unfold wB at *); (try unfold wC at *); (try unfold wO at *); (try unfold wJ at *); (try unfold wX at *)
  obtain ⟨r, o, e, _, rfl, rfl⟩ := h
  exact e
theorem wO.of {f : Op} {ts : List T} {P : R → Prop} {r : R} (h : opF f ts = some r) (q : P r) : wO f ts P := by (try unfold wE at *); (try unfold wD at *); (try unfold wS at *); (try unfold wA at *); (try unfold wT at *); (try unfold wB at *); (try unfold wC at *); (try unfold wO at *); (try unfold wJ at *); (try unfold wX at *); exact ⟨r, h, q⟩
theorem wif0 {k : Bool} {A B : Prop} (h : k = false) (b : B) : (k = true → A) ∧ (k = false → B) := ⟨fun z => (by rw [h] at z; cases z), fun _ => b⟩
theorem wif1 {k : Bool} {A B : Prop} (h : k = true) (a : A) : (k = true → A) ∧ (k = false → B) := ⟨fun _ => a, fun z => (by rw [h] at z; cases z)⟩
/-! expressions -/
theorem wp_c {t : T} (q : Q (.fz t) m) : wE cal (.c t) m Q := by (try unfold wE at *); (try unfold wD at *); (try unfold wS at *); (try unfold wA at *); (try unfold wT at *); (try unfold wB at *); (try unfold wC at *); (try unfold wO at *); (try unfold wJ at *); (try unfold wX at *); exact ⟨_, _, ev_c, q⟩
theorem wp_var {i : Nat} {t : T} (h : m[i]? = some (.fz t)) (q : Q (.fz t) m) : wE cal (.var i) m Q := by (try unfold wE at *); (try unfold wD at *); (try unfold wS at *); (try unfold wA at *); (try unfold wT at *); (try unfold wB at *); (try unfold wC at *); (try unfold wO at *); (try unfold wJ at *); (try unfold wX at *); exact ⟨_, _, ev_var h, q⟩
theorem wp_bo {i : Nat} {o : O} (h : m[i]? = some (.ow o)) (q : Q (.bo i) m) : wE cal (.var i) m Q := by (try unfold wE at *); (try unfold wD at *); (try unfold wS at *); (try unfold wA at *); (try unfold wT at *); (try unfold wB at *); (try unfold wC at *); (try unfold wO at *); (try unfold wJ at *); (try unfold wX at *); exact ⟨_, _, (by rw [evE, h]), q⟩
theorem dp_nil {Q : List Opd → List Slot → Prop} (q : Q [] m) : wD cal .nil m Q := by (try unfold wE at *); (try unfold wD at *); (try unfold wS at *); (try unfold wA at *); (try unfold wT at *); (try unfold wB at *); (try unfold wC at *); (try unfold wO at *); (try unfold wJ at *); (try unfold wX at *); exact ⟨_, _, ds_nil, q⟩
theorem dp_cons {e : E} {r : Es} {Q : List Opd → List Slot → Prop} (h : wE cal e m fun x m1 => wD cal r m1 fun xs m2 => Q (x.opd :: xs) m2) : wD cal (.cons e r) m Q := by
  (try unfold wE at *); (try unfold wD at *); (try unfold wS at *); (try unfold wA at *); (try unfold wT at *); (try unfold wB at *); (try unfold wC at *); (try unfold wO at *); (try unfold wJ at *); (try unfold wX at *)
  obtain ⟨x, m1, h1, xs, m2, h2, q⟩ := h
  exact ⟨_, _, (by rw [evDs, h1]; simp only [Res.bind, h2]), q⟩
theorem wp_op {f : Op} {es : Es} (h : wD cal es m fun ds m1 => ∃ ts, ders m1 ds = some ts ∧ wO f ts fun r => Q r m1) : wE cal (.op f es) m Q := by
  (try unfold wE at *); (try unfold wD at *); (try unfold wS at *); (try unfold wA at *); (try unfold wT at *); (try unfold wB at *); (try unfold wC at *); (try unfold wO at *); (try unfold wJ at *); (try unfold wX at *)
  obtain ⟨ds, m1, h1, ts, h2, r, h3, q⟩ := h
  exact ⟨_, _, (by rw [evE, h1]; simp only [Res.bind, opR, h2, h3]), q⟩
theorem wp_lst {es : Es} (h : wD cal es m fun ds m1 => ∃ ts m2, escs m1 ds = some (ts, m2) ∧ Nat.ble ts.length sizeLine = true ∧ Q (.ow (.lst ts)) m2) : wE cal (.lst es) m Q := by
  (try unfold wE at *); (try unfold wD at *); (try unfold wS at *); (try unfold wA at *); (try unfold wT at *); (try unfold wB at *); (try unfold wC at *); (try unfold wO at *); (try unfold wJ at *); (try unfold wX at *)
  obtain ⟨ds, m1, h1, ts, m2, h2, h3, q⟩ := h
  exact ⟨_, _, (by rw [evE, h1]; simp only [Res.bind, h2, if_pos (Nat.le_of_ble_eq_true h3)]), q⟩
theorem wp_tup {es : Es} (h : wD cal es m fun ds m1 => ∃ ts m2, escs m1 ds = some (ts, m2) ∧ Nat.ble ts.length sizeLine = true ∧ Q (.fz (.tup ts)) m2) : wE cal (.tup es) m Q := by
  (try unfold wE at *); (try unfold wD at *); (try unfold wS at *); (try unfold wA at *); (try unfold wT at *); (try unfold wB at *); (try unfold wC at *); (try unfold wO at *); (try unfold wJ at *); (try unfold wX at *)
  obtain ⟨ds, m1, h1, ts, m2, h2, h3, q⟩ := h
  exact ⟨_, _, (by rw [evE, h1]; simp only [Res.bind, h2, if_pos (Nat.le_of_ble_eq_true h3)]), q⟩
theorem wp_dsc {kvs : List (Key × T)} (h : (kvs.all fun kv => flatT kv.2) = true) (hl : Nat.ble kvs.length 15 = true) (q : Q (.ow (.dic (putsT [] kvs))) m) : wE cal (.dsc kvs) m Q := by
  unfold wE
  exact ⟨_, _, (by rw [evE, if_pos ⟨h, Nat.le_of_ble_eq_true hl⟩]), q⟩
/-- and, or: by the left one's outcome -/
theorem wp_an {a b : E} (h : wE cal a m fun r m1 => ∃ k, r = .fz (.bl k) ∧ (k = true → wE cal b m1 Q) ∧ (k = false → Q (.fz (.bl false)) m1)) : wE cal (.an a b) m Q := by
  (try unfold wE at *); (try unfold wD at *); (try unfold wS at *); (try unfold wA at *); (try unfold wT at *); (try unfold wB at *); (try unfold wC at *); (try unfold wO at *); (try unfold wJ at *); (try unfold wX at *)
  obtain ⟨r, m1, h1, k, rfl, q1, q2⟩ := h
  cases k with
  | true =>
    obtain ⟨r, m2, h2, q⟩ := q1 rfl
    exact ⟨_, _, (ev_an1 h1).trans h2, q⟩
  | false => exact ⟨_, _, ev_an0 h1, q2 rfl⟩
/-- both in one line: the right one is asked in any case -/
theorem wp_anP {a b : E} (h : wE cal a m fun r m1 => ∃ k, r = .fz (.bl k) ∧ wE cal b m1 fun r2 m2 => ∃ k2, r2 = .fz (.bl k2) ∧ m2 = m1 ∧ Q (.fz (.bl (k && k2))) m1) : wE cal (.an a b) m Q := by
  (try unfold wE at *); (try unfold wD at *); (try unfold wS at *); (try unfold wA at *); (try unfold wT at *); (try unfold wB at *); (try unfold wC at *); (try unfold wO at *); (try unfold wJ at *); (try unfold wX at *)
  obtain ⟨r, m1, h1, k, rfl, r2, m2, h2, k2, rfl, rfl, q⟩ := h
  cases k with
  | true => exact ⟨_, _, (ev_an1 h1).trans h2, by simpa using q⟩
  | false => exact ⟨_, _, ev_an0 h1, by simpa using q⟩
theorem wp_orP {a b : E} (h : wE cal a m fun r m1 => ∃ k, r = .fz (.bl k) ∧ wE cal b m1 fun r2 m2 => ∃ k2, r2 = .fz (.bl k2) ∧ m2 = m1 ∧ Q (.fz (.bl (k || k2))) m1) : wE cal (.or a b) m Q := by
  (try unfold wE at *); (try unfold wD at *); (try unfold wS at *); (try unfold wA at *); (try unfold wT at *); (try unfold wB at *); (try unfold wC at *); (try unfold wO at *); (try unfold wJ at *); (try unfold wX at *)
  obtain ⟨r, m1, h1, k, rfl, r2, m2, h2, k2, rfl, rfl, q⟩ := h
  cases k with
  | false => exact ⟨_, _, (ev_or0 h1).trans h2, by simpa using q⟩
  | true => exact ⟨_, _, ev_or1 h1, by simpa using q⟩
theorem wp_nt {a : E} (h : wE cal a m fun r m1 => ∃ k, r = .fz (.bl k) ∧ Q (.fz (.bl (!k))) m1) : wE cal (.nt a) m Q := by
  (try unfold wE at *); (try unfold wD at *); (try unfold wS at *); (try unfold wA at *); (try unfold wT at *); (try unfold wB at *); (try unfold wC at *); (try unfold wO at *); (try unfold wJ at *); (try unfold wX at *)
  obtain ⟨r, m1, h1, k, rfl, q⟩ := h
  exact ⟨_, _, ev_nt h1, q⟩
theorem wp_ite {c a b : E} (h : wE cal c m fun r m1 => ∃ k, r = .fz (.bl k) ∧ (k = true → wE cal a m1 Q) ∧ (k = false → wE cal b m1 Q)) : wE cal (.ite c a b) m Q := by
  (try unfold wE at *); (try unfold wD at *); (try unfold wS at *); (try unfold wA at *); (try unfold wT at *); (try unfold wB at *); (try unfold wC at *); (try unfold wO at *); (try unfold wJ at *); (try unfold wX at *)
  obtain ⟨r, m1, h1, k, rfl, q1, q2⟩ := h
  cases k with
  | true =>
    obtain ⟨r, m2, h2, q⟩ := q1 rfl
    exact ⟨_, _, (by rw [evE, h1]; exact h2), q⟩
  | false =>
    obtain ⟨r, m2, h2, q⟩ := q2 rfl
    exact ⟨_, _, (by rw [evE, h1]; exact h2), q⟩
theorem wp_fld {c : Nat} {e : E} {f : PySem.Str} (h : wE cal e m fun r m1 => ∃ fs t, der m1 r.opd = some (.ins c fs) ∧ fs.lookup f = some t ∧ Q (.fz t) m1) : wE cal (.fld c e f) m Q := by
  (try unfold wE at *); (try unfold wD at *); (try unfold wS at *); (try unfold wA at *); (try unfold wT at *); (try unfold wB at *); (try unfold wC at *); (try unfold wO at *); (try unfold wJ at *); (try unfold wX at *)
  obtain ⟨r, m1, h1, fs, t, h2, h3, q⟩ := h
  exact ⟨_, _, (by rw [evE, h1]; simp only [Res.bind, h2, if_true, h3]), q⟩
theorem callR_ok {f : Nat} {io : List Bool} {ds : List Opd} {args m2 outs m3 : List Slot} {r : R} (h2 : pass m io ds = some (args, m2)) (h3 : cal f args = .ok r outs) (nb : ∀ i, r ≠ .bo i) (h4 : back m2 io ds outs = some m3) : callR cal f io ds m = .ok r m3 := by
  unfold callR
  simp only [h2, h3]
  cases r with
  | bo i => exact absurd rfl (nb i)
  | fz t => simp only [h4]
  | ow t => simp only [h4]
/-- a call: arguments passed, what comes back -/
@[irreducible] def wK (cal : Nat → List Slot → CRes) (f : Nat) (io : List Bool) (ds : List Opd) (m : List Slot) (Q : R → List Slot → Prop) : Prop := ∃ args m2, pass m io ds = some (args, m2) ∧ wC cal f args fun r outs => ∃ m3, back m2 io ds outs = some m3 ∧ Q r m3
theorem wk_go {f : Nat} {io : List Bool} {ds : List Opd} {args m2 : List Slot} (h : pass m io ds = some (args, m2)) (q : wC cal f args fun r outs => ∃ m3, back m2 io ds outs = some m3 ∧ Q r m3) : wK cal f io ds m Q := by
  unfold wK; exact ⟨args, m2, h, q⟩
theorem wK.run {f : Nat} {io : List Bool} {ds : List Opd} (h : wK cal f io ds m Q) : ∃ r m', callR cal f io ds m = .ok r m' ∧ Q r m' := by
  unfold wK wC at h
  obtain ⟨args, m2, h2, r, outs, h3, nb, m3, h4, q⟩ := h
  exact ⟨_, _, callR_ok h2 h3 nb h4, q⟩
theorem wp_call {f : Nat} {io : List Bool} {es : Es} (h : wD cal es m fun ds m1 => wK cal f io ds m1 Q) : wE cal (.call f io es) m Q := by
  (try unfold wE at *); (try unfold wD at *); (try unfold wS at *); (try unfold wA at *); (try unfold wT at *); (try unfold wB at *); (try unfold wC at *); (try unfold wO at *); (try unfold wJ at *); (try unfold wX at *)
  obtain ⟨ds, m1, h1, h2⟩ := h
  obtain ⟨r, m', h3, q⟩ := h2.run
  exact ⟨_, _, (by rw [evE, h1]; exact h3), q⟩
theorem wp_prop {c f : Nat} {e : E} (h : wE cal e m fun r m1 => ∃ fs, der m1 r.opd = some (.ins c fs) ∧ wK cal f [false] [r.opd] m1 Q) : wE cal (.prop c f e) m Q := by
  (try unfold wE at *); (try unfold wD at *); (try unfold wS at *); (try unfold wA at *); (try unfold wT at *); (try unfold wB at *); (try unfold wC at *); (try unfold wO at *); (try unfold wJ at *); (try unfold wX at *)
  obtain ⟨r, m1, h1, fs, h2, h3⟩ := h
  obtain ⟨r', m', h4, q⟩ := h3.run
  exact ⟨_, _, (by rw [evE, h1]; simp only [Res.bind, h2, if_true, h4, Res.calm]), q⟩
theorem wp_meth {c f : Nat} {n : PySem.Str} {io : List Bool} {e : E} {es : Es} (h : wE cal e m fun r m1 => ∃ fs, der m1 r.opd = some (.ins c fs) ∧ fs.lookup n = none ∧ wD cal es m1 fun ds m2 => wK cal f (false :: io) (r.opd :: ds) m2 Q) : wE cal (.meth c f n io e es) m Q := by
  (try unfold wE at *); (try unfold wD at *); (try unfold wS at *); (try unfold wA at *); (try unfold wT at *); (try unfold wB at *); (try unfold wC at *); (try unfold wO at *); (try unfold wJ at *); (try unfold wX at *)
  obtain ⟨r, m1, h1, fs, h2, hn, ds, m2, h3, h4⟩ := h
  obtain ⟨r', m', h5, q⟩ := h4.run
  exact ⟨_, _, (by rw [evE, h1]; simp only [Res.bind, h2, hn, and_self, if_true, h3, h5, Res.calm]), q⟩
theorem wp_mk {c f : Nat} {pm : List Nat} {es : Es} (h : wD cal es m fun ds m1 => ∃ ts m2, escs m1 ds = some (ts, m2) ∧ wC cal f (.ow (.ins c []) :: (pmT pm ts).map .fz) fun r outs => r = .fz .non ∧ ∃ o outs', outs = .ow o :: outs' ∧ Q (.ow o) m2) : wE cal (.mk c f pm es) m Q := by
  (try unfold wE at *); (try unfold wD at *); (try unfold wS at *); (try unfold wA at *); (try unfold wT at *); (try unfold wB at *); (try unfold wC at *); (try unfold wO at *); (try unfold wJ at *); (try unfold wX at *)
  obtain ⟨ds, m1, h1, ts, m2, h2, r, outs, h3, nb, rfl, o, outs', rfl, q⟩ := h
  exact ⟨_, _, (by rw [evE, h1]; simp only [Res.bind, h2, h3]), q⟩
theorem wp_bop {c f : Nat} {a b : E} (h : wE cal a m fun ra m1 => wE cal b m1 fun rb m2 => ∃ fs gs, der m2 ra.opd = some (.ins c fs) ∧ der m2 rb.opd = some (.ins c gs) ∧ wK cal f [false, false] [ra.opd, rb.opd] m2 Q) : wE cal (.bop c f a b) m Q := by
  (try unfold wE at *); (try unfold wD at *); (try unfold wS at *); (try unfold wA at *); (try unfold wT at *); (try unfold wB at *); (try unfold wC at *); (try unfold wO at *); (try unfold wJ at *); (try unfold wX at *)
  obtain ⟨ra, m1, h1, rb, m2, h2, fs, gs, h3, h4, h5⟩ := h
  obtain ⟨r', m', h6, q⟩ := h5.run
  exact ⟨_, _, (by rw [evE, h1]; simp only [Res.bind]; rw [h2]; simp only [h3, h4, and_self, if_true, h6, Res.calm]), q⟩
theorem wp_uop {c f : Nat} {a : E} (h : wE cal a m fun ra m1 => ∃ fs, der m1 ra.opd = some (.ins c fs) ∧ wK cal f [false] [ra.opd] m1 Q) : wE cal (.uop c f a) m Q := by
  (try unfold wE at *); (try unfold wD at *); (try unfold wS at *); (try unfold wA at *); (try unfold wT at *); (try unfold wB at *); (try unfold wC at *); (try unfold wO at *); (try unfold wJ at *); (try unfold wX at *)
  obtain ⟨ra, m1, h1, fs, h3, h5⟩ := h
  obtain ⟨r', m', h6, q⟩ := h5.run
  exact ⟨_, _, (by rw [evE, h1]; simp only [Res.bind, h3, if_true, h6, Res.calm]), q⟩
theorem wp_inn {neg : Bool} {c f : Nat} {a b : E} (h : wE cal a m fun ra m1 => wE cal b m1 fun rb m2 => ∃ fs, der m2 rb.opd = some (.ins c fs) ∧ wK cal f [false, false] [rb.opd, ra.opd] m2 fun r m3 => ∃ k, r = .fz (.bl k) ∧ Q (.fz (.bl (if neg = true then !k else k))) m3) : wE cal (.inn neg c f a b) m Q := by
  (try unfold wE at *); (try unfold wD at *); (try unfold wS at *); (try unfold wA at *); (try unfold wT at *); (try unfold wB at *); (try unfold wC at *); (try unfold wO at *); (try unfold wJ at *); (try unfold wX at *)
  obtain ⟨ra, m1, h1, rb, m2, h2, fs, h3, h5⟩ := h
  obtain ⟨r', m', h6, k, rfl, q⟩ := h5.run
  exact ⟨_, _, (by rw [evE, h1]; simp only [Res.bind]; rw [h2]; simp only [h3, if_true, h6, Res.calm]), q⟩
theorem wp_spc {s : Bool} {c f : Nat} {a : E} (h : wE cal a m fun ra m1 => ∃ fs, der m1 ra.opd = some (.ins c fs) ∧ wK cal f [false] [ra.opd] m1 fun r m2 => (match s with | true => ∃ z, r = .fz (.str z) | false => ∃ z, r = .fz (.bl z)) ∧ Q r m2) : wE cal (.spc s c f a) m Q := by
  (try unfold wE at *); (try unfold wD at *); (try unfold wS at *); (try unfold wA at *); (try unfold wT at *); (try unfold wB at *); (try unfold wC at *); (try unfold wO at *); (try unfold wJ at *); (try unfold wX at *)
  obtain ⟨ra, m1, h1, fs, h3, h5⟩ := h
  obtain ⟨r', m', h6, hz, q⟩ := h5.run
  refine ⟨r', m', ?_, q⟩
  rw [evE, h1]
  simp only [Res.bind, h3, if_true, h6, Res.calm]
  cases s with
  | true => obtain ⟨z, rfl⟩ := hz; rfl
  | false => obtain ⟨z, rfl⟩ := hz; rfl
/-- == of own instances -/
theorem wp_ceq {neg : Bool} {c f : Nat} {a b : E} (h : wE cal a m fun ra m1 => wE cal b m1 fun rb m2 => ∃ fs, der m2 ra.opd = some (.ins c fs) ∧ besideT c (der m2 rb.opd) = true ∧ wK cal f [false, false] [ra.opd, rb.opd] m2 fun r m3 => ∃ k, r = .fz (.bl k) ∧ Q (.fz (.bl (if neg = true then !k else k))) m3) : wE cal (.ceq neg c f a b) m Q := by
  (try unfold wE at *); (try unfold wD at *); (try unfold wS at *); (try unfold wA at *); (try unfold wT at *); (try unfold wB at *); (try unfold wC at *); (try unfold wO at *); (try unfold wJ at *); (try unfold wX at *)
  obtain ⟨ra, m1, h1, rb, m2, h2, fs, h3, h4, h5⟩ := h
  obtain ⟨r', m', h6, k, rfl, q⟩ := h5.run
  exact ⟨_, _, (by rw [evE, h1]; simp only [Res.bind]; rw [h2]; simp only [h3, h4, and_self, if_true, h6, Res.calm]), q⟩
theorem wp_isc {cs ns : List Nat} {e : E} (h : wE cal e m fun r m1 => ∃ k, (match der m1 r.opd with | some (.ins c _) => if c ∈ cs then some true else if c ∈ ns then some false else none | some _ => some false | none => none) = some k ∧ Q (.fz (.bl k)) m1) : wE cal (.isc cs ns e) m Q := by
  (try unfold wE at *); (try unfold wD at *); (try unfold wS at *); (try unfold wA at *); (try unfold wT at *); (try unfold wB at *); (try unfold wC at *); (try unfold wO at *); (try unfold wJ at *); (try unfold wX at *)
  obtain ⟨r, m1, h1, k, h2, q⟩ := h
  refine ⟨_, _, ?_, q⟩
  rw [evE, h1]
  simp only [Res.bind]
  split at h2
  · rename_i c fs hd
    (try rw [hd])
    (try simp only)
    split at h2
    · rename_i hc; cases h2; rw [if_pos hc]
    · rename_i hc
      rw [if_neg hc]
      split at h2
      · rename_i hc2; cases h2; rw [if_pos hc2]
      · cases h2
  · rename_i t hn hd
    (try rw [hd])
    cases h2
    cases t <;> first | rfl | exact (hn _ _ rfl).elim
  · cases h2
theorem wp_lr {s : Src} (h : wS cal s m fun xs m1 => xs.length ≤ sizeLine ∧ Q (.ow (.lst xs)) m1) : wE cal (.lr s) m Q := by
  (try unfold wE at *); (try unfold wD at *); (try unfold wS at *); (try unfold wA at *); (try unfold wT at *); (try unfold wB at *); (try unfold wC at *); (try unfold wO at *); (try unfold wJ at *); (try unfold wX at *)
  obtain ⟨xs, m1, h1, h2, q⟩ := h
  exact ⟨_, _, (by rw [evE, h1]; simp only [Res.bind, if_pos h2]), q⟩
/-- texts one behind the other -/
@[irreducible] def wJ (cal : Nat → List Slot → CRes) (es : Es) (acc : PySem.Str) (m : List Slot) (Q : PySem.Str → List Slot → Prop) : Prop := ∃ z m', evJs cal es acc m = .ok z m' ∧ Q z m'
theorem jp_nil {acc : PySem.Str} {Q : PySem.Str → List Slot → Prop} (q : Q acc m) : wJ cal .nil acc m Q := by (try unfold wE at *); (try unfold wD at *); (try unfold wS at *); (try unfold wA at *); (try unfold wT at *); (try unfold wB at *); (try unfold wC at *); (try unfold wO at *); (try unfold wJ at *); (try unfold wX at *); exact ⟨_, _, (by rw [evJs]), q⟩
theorem jp_cons {e : E} {r : Es} {acc : PySem.Str} {Q : PySem.Str → List Slot → Prop} (h : wE cal e m fun x m1 => ∃ y, x = .fz (.str y) ∧ (acc ++ y).length ≤ sizeLine ∧ wJ cal r (acc ++ y) m1 Q) : wJ cal (.cons e r) acc m Q := by
  (try unfold wE at *); (try unfold wD at *); (try unfold wS at *); (try unfold wA at *); (try unfold wT at *); (try unfold wB at *); (try unfold wC at *); (try unfold wO at *); (try unfold wJ at *); (try unfold wX at *)
  obtain ⟨x, m1, h1, y, rfl, hl, z, m', h2, q⟩ := h
  exact ⟨_, _, (by rw [evJs, h1]; simp only [Res.bind, if_pos hl, h2]), q⟩
theorem wp_fst {es : Es} (h : wJ cal es Str.empty m fun z m1 => Q (.fz (.str z)) m1) : wE cal (.fst es) m Q := by
  (try unfold wE at *); (try unfold wD at *); (try unfold wS at *); (try unfold wA at *); (try unfold wT at *); (try unfold wB at *); (try unfold wC at *); (try unfold wO at *); (try unfold wJ at *); (try unfold wX at *)
  obtain ⟨z, m1, h1, q⟩ := h
  exact ⟨_, _, (by rw [evE, h1]; rfl), q⟩
/-- displays with stars -/
@[irreducible] def wX (cal : Nat → List Slot → CRes) (es : Es) (bs : List Bool) (m : List Slot) (Q : List Opd → List Slot → Prop) : Prop := ∃ ds m', evDx cal es bs m = .ok ds m' ∧ Q ds m'
/-! sources -/
theorem sp_it {e : E} {Q : List T → List Slot → Prop} (h : wE cal e m fun r m1 => ∃ t m2 xs, esc m1 r.opd = some (t, m2) ∧ itemsT t = some xs ∧ Q xs m2) : wS cal (.it e) m Q := by
  (try unfold wE at *); (try unfold wD at *); (try unfold wS at *); (try unfold wA at *); (try unfold wT at *); (try unfold wB at *); (try unfold wC at *); (try unfold wO at *); (try unfold wJ at *); (try unfold wX at *)
  obtain ⟨r, m1, h1, t, m2, xs, h2, h3, q⟩ := h
  exact ⟨_, _, src_it h1 h2 h3, q⟩
theorem sp_rng1 {e : E} {Q : List T → List Slot → Prop} (h : wE cal e m fun r m1 => ∃ j, der m1 r.opd = some (.int j) ∧ (-(2 ^ 62) ≤ j ∧ j < 2 ^ 62) ∧ Q (tI (rngI 0 j)) m1) : wS cal (.rng1 e) m Q := by
  (try unfold wE at *); (try unfold wD at *); (try unfold wS at *); (try unfold wA at *); (try unfold wT at *); (try unfold wB at *); (try unfold wC at *); (try unfold wO at *); (try unfold wJ at *); (try unfold wX at *)
  obtain ⟨r, m1, h1, j, h2, h3, q⟩ := h
  refine ⟨_, _, ?_, q⟩
  rw [evSrc, h1]
  simp only [Res.bind, h2, wideI, decide_eq_true h3, if_true, rangeT_eq]
theorem sp_enum {e : E} {Q : List T → List Slot → Prop} (h : wE cal e m fun r m1 => ∃ t m2 xs, esc m1 r.opd = some (t, m2) ∧ loE t = some xs ∧ Q (enumT 0 xs) m2) : wS cal (.enum e) m Q := by
  (try unfold wE at *); (try unfold wD at *); (try unfold wS at *); (try unfold wA at *); (try unfold wT at *); (try unfold wB at *); (try unfold wC at *); (try unfold wO at *); (try unfold wJ at *); (try unfold wX at *)
  obtain ⟨r, m1, h1, t, m2, xs, h2, h3, q⟩ := h
  exact ⟨_, _, (by rw [evSrc, h1]; simp only [Res.bind, h2, h3]), q⟩
/-! comprehensions -/
/-- that only looks, over things of any kind -/
theorem wp_comp {α : Type} {own : List Nat} {p : Pt} {s : Src} {cs : Es} {e : E} (h : wS cal s m fun xs m1 => ∃ (as : List α) (f : α → T) (P : α → Bool) (g : α → T), xs = as.map f ∧ noOw m1 own = true ∧ wipeM (wipeM m1 own) own = wipeM m1 own ∧
    (∀ x ∈ as, ∃ m2, bindP (wipeM m1 own) p (f x) = some m2 ∧ wipeM m2 own = wipeM m1 own ∧ (wA cal cs m2 fun r m3 => r = .fz (.bl (P x)) ∧ m3 = m2) ∧ (P x = true → wE cal e m2 fun r m3 => m3 = m2 ∧ esc m2 r.opd = some (g x, m2))) ∧
    as.length ≤ sizeLine ∧ Q (.ow (.lst ((as.filter P).map g))) m1) : wE cal (.comp own p s cs e) m Q := by
  unfold wS at h; unfold wE
  obtain ⟨xs, m1, h1, as, f, P, g, rfl, hn, hw, hx, hl, q⟩ := h
  refine ⟨_, _, ?_, q⟩
  have key : ∀ (as : List α) (acc : List T), (∀ x ∈ as, ∃ m2, bindP (wipeM (wipeM m1 own) own) p (f x) = some m2 ∧ wipeM m2 own = wipeM m1 own ∧ (wA cal cs m2 fun r m3 => r = .fz (.bl (P x)) ∧ m3 = m2) ∧ (P x = true → wE cal e m2 fun r m3 => m3 = m2 ∧ esc m2 r.opd = some (g x, m2))) → acc.length + as.length ≤ sizeLine →
      compGo own p (fun m => evAll cal cs m) (fun m => evE cal e m) (as.map f) acc (wipeM m1 own) = .ok (acc ++ (as.filter P).map g) (wipeM m1 own) := by
    intro as
    induction as with
    | nil => intro acc _ _; rw [List.map_nil, compGo]; simp
    | cons a r ih =>
      intro acc h hl
      (try unfold wE at *); (try unfold wD at *); (try unfold wS at *); (try unfold wA at *); (try unfold wT at *); (try unfold wB at *); (try unfold wC at *); (try unfold wO at *); (try unfold wJ at *); (try unfold wX at *)
      obtain ⟨m2, b1, b2, ⟨r1, m3, b3, rfl, rfl⟩, b4⟩ := h a List.mem_cons_self
      simp only [List.length_cons] at hl
      rw [List.map_cons]
      unfold compGo
      cases hp : P a with
      | true =>
        obtain ⟨r2, m4, b5, rfl, b6⟩ := b4 hp
        rw [hp] at b3
        simp only [b1, b3, Res.bind, b5, b6, b2]
        rw [if_pos (by omega), ih (acc ++ [g a]) (fun y hy => h y (List.mem_cons_of_mem _ hy)) (by simp; omega), List.filter_cons, hp]
        simp
      | false =>
        rw [hp] at b3
        simp only [b1, b3, Res.bind, b2]
        rw [ih acc (fun y hy => h y (List.mem_cons_of_mem _ hy)) (by omega), List.filter_cons, hp]
        simp
  have hc := key as [] (by rw [hw]; exact hx) (by simpa using hl)
  rw [evE, h1]
  simp only [Res.bind, if_pos hn, hc, Res.calm, rest_wipe hn, List.nil_append]
/-- with an invariant of what is left, what is made and the slots -/
theorem wp_compI {own : List Nat} {p : Pt} {s : Src} {cs : Es} {e : E} (h : wS cal s m fun xs m1 => ∃ I : List T → List T → List Slot → Prop, noOw m1 own = true ∧ I xs [] (wipeM m1 own) ∧
    (∀ x xs acc m2, I (x :: xs) acc m2 → ∃ m3, bindP (wipeM m2 own) p x = some m3 ∧ wA cal cs m3 fun r m4 => ∃ k, r = .fz (.bl k) ∧ (k = true → wE cal e m4 fun r m5 => ∃ t m6, esc m5 r.opd = some (t, m6) ∧ acc.length < sizeLine ∧ I xs (acc ++ [t]) (wipeM m6 own)) ∧ (k = false → I xs acc (wipeM m4 own))) ∧
    (∀ acc m2, I [] acc m2 → Q (.ow (.lst acc)) (restM m1 m2 own))) : wE cal (.comp own p s cs e) m Q := by
  (try unfold wE at *); (try unfold wD at *); (try unfold wS at *); (try unfold wA at *); (try unfold wT at *); (try unfold wB at *); (try unfold wC at *); (try unfold wO at *); (try unfold wJ at *); (try unfold wX at *)
  obtain ⟨xs, m1, h1, I, hn, h0, hs, hd⟩ := h
  have key : ∀ (xs acc : List T) (m2 : List Slot), I xs acc m2 → ∃ acc' m3, compGo own p (fun m => evAll cal cs m) (fun m => evE cal e m) xs acc m2 = .ok acc' m3 ∧ I [] acc' m3 := by
    intro xs
    induction xs with
    | nil => intro acc m2 i; exact ⟨acc, m2, by rw [compGo], i⟩
    | cons x r ih =>
      intro acc m2 i
      obtain ⟨m3, b1, r1, m4, b2, k, rfl, b3, b4⟩ := hs x r acc m2 i
      cases k with
      | true =>
        obtain ⟨r2, m5, b5, t, m6, b6, b7, b8⟩ := b3 rfl
        obtain ⟨acc', m7, b9, b10⟩ := ih _ _ b8
        refine ⟨acc', m7, ?_, b10⟩
        unfold compGo
        simp only [b1, b2, Res.bind, b5, b6, if_pos b7]
        exact b9
      | false =>
        obtain ⟨acc', m7, b9, b10⟩ := ih _ _ (b4 rfl)
        refine ⟨acc', m7, ?_, b10⟩
        unfold compGo
        simp only [b1, b2, Res.bind]
        exact b9
  obtain ⟨acc', m3, b1, b2⟩ := key xs [] _ h0
  refine ⟨_, _, ?_, hd _ _ b2⟩
  rw [evE, h1]
  simp only [Res.bind, if_pos hn, b1, Res.calm]
theorem ap_nil (q : Q (.fz (.bl true)) m) : wA cal .nil m Q := by (try unfold wE at *); (try unfold wD at *); (try unfold wS at *); (try unfold wA at *); (try unfold wT at *); (try unfold wB at *); (try unfold wC at *); (try unfold wO at *); (try unfold wJ at *); (try unfold wX at *); exact ⟨_, _, (by rw [evAll]), q⟩
theorem ap_one {e : E} (h : wE cal e m fun r m1 => ∃ k, r = .fz (.bl k) ∧ Q (.fz (.bl k)) m1) : wA cal (.cons e .nil) m Q := by
  (try unfold wE at *); (try unfold wD at *); (try unfold wS at *); (try unfold wA at *); (try unfold wT at *); (try unfold wB at *); (try unfold wC at *); (try unfold wO at *); (try unfold wJ at *); (try unfold wX at *)
  obtain ⟨r, m1, h1, k, rfl, q⟩ := h
  cases k with
  | true => exact ⟨_, _, (by rw [evAll, h1]; simp only [Res.bind, evAll]), q⟩
  | false => exact ⟨_, _, (by rw [evAll, h1]; rfl), q⟩
/-! statements -/
theorem bp_nil (q : D.nx m) : wB cal L .nil m D := by (try unfold wE at *); (try unfold wD at *); (try unfold wS at *); (try unfold wA at *); (try unfold wT at *); (try unfold wB at *); (try unfold wC at *); (try unfold wO at *); (try unfold wJ at *); (try unfold wX at *); rw [evSs]; exact q
theorem bp_cons {s : S} {r : Ss} (h : wT cal L s m (D.seq fun m1 => wB cal L r m1 D)) : wB cal L (.cons s r) m D := by
  (try unfold wE at *); (try unfold wD at *); (try unfold wS at *); (try unfold wA at *); (try unfold wT at *); (try unfold wB at *); (try unfold wC at *); (try unfold wO at *); (try unfold wJ at *); (try unfold wX at *)
  try unfold wB
  try unfold wT at h
  rw [evSs]
  cases e : evS cal L s m with
  | nx m1 => rw [e] at h; exact h
  | rt r m1 => rw [e] at h; exact h
  | bk m1 => rw [e] at h; exact h
  | ct m1 => rw [e] at h; exact h
  | ex x m1 => rw [e] at h; exact h.elim
  | no => rw [e] at h; exact h.elim
theorem wp_set {i : Nat} {e : E} (h : wE cal e m fun r m1 => ∃ m2, putR i r m1 = .nx m2 ∧ D.nx m2) : wT cal L (.set i e) m D := by
  (try unfold wE at *); (try unfold wD at *); (try unfold wS at *); (try unfold wA at *); (try unfold wT at *); (try unfold wB at *); (try unfold wC at *); (try unfold wO at *); (try unfold wJ at *); (try unfold wX at *)
  obtain ⟨r, m1, h1, m2, h2, q⟩ := h
  try unfold wT
  rw [evS, h1]
  simp only [ofR, h2]
  exact q
theorem wp_par {i j : Nat} {a b : E} (h : wE cal a m fun ra m1 => wE cal b m1 fun rb m2 => ∃ t u m3, escs m2 [ra.opd, rb.opd] = some ([t, u], m3) ∧ (Nat.blt i m3.length && Nat.blt j m3.length) = true ∧ D.nx ((m3.set i (.fz t)).set j (.fz u))) : wT cal L (.par i j a b) m D := by
  (try unfold wE at *); (try unfold wD at *); (try unfold wS at *); (try unfold wA at *); (try unfold wT at *); (try unfold wB at *); (try unfold wC at *); (try unfold wO at *); (try unfold wJ at *); (try unfold wX at *)
  obtain ⟨ra, m1, h1, rb, m2, h2, t, u, m3, h3, h4, q⟩ := h
  rw [Bool.and_eq_true] at h4
  have l1 : i < m3.length := Nat.le_of_ble_eq_true h4.1
  have l2 : j < m3.length := Nat.le_of_ble_eq_true h4.2
  try unfold wT
  rw [evS, h1]
  simp only [ofR]
  rw [h2]
  simp only [h3, if_pos (And.intro l1 l2)]
  exact q
theorem wp_ex {e : E} (h : wE cal e m fun _ m1 => D.nx m1) : wT cal L (.ex e) m D := by
  (try unfold wE at *); (try unfold wD at *); (try unfold wS at *); (try unfold wA at *); (try unfold wT at *); (try unfold wB at *); (try unfold wC at *); (try unfold wO at *); (try unfold wJ at *); (try unfold wX at *)
  obtain ⟨r, m1, h1, q⟩ := h
  try unfold wT
  rw [evS, h1]
  exact q
theorem wp_ret {e : E} (h : wE cal e m fun r m1 => ∃ r' m2, outR r m1 = some (r', m2) ∧ D.rt r' m2) : wT cal L (.ret e) m D := by
  (try unfold wE at *); (try unfold wD at *); (try unfold wS at *); (try unfold wA at *); (try unfold wT at *); (try unfold wB at *); (try unfold wC at *); (try unfold wO at *); (try unfold wJ at *); (try unfold wX at *)
  obtain ⟨r, m1, h1, r', m2, h2, q⟩ := h
  try unfold wT
  rw [evS, h1]
  simp only [ofR, h2]
  exact q
theorem wp_ife {c : E} {a b : Ss} (h : wE cal c m fun r m1 => ∃ k, r = .fz (.bl k) ∧ (k = true → wB cal L a m1 D) ∧ (k = false → wB cal L b m1 D)) : wT cal L (.ife c a b) m D := by
  (try unfold wE at *); (try unfold wD at *); (try unfold wS at *); (try unfold wA at *); (try unfold wT at *); (try unfold wB at *); (try unfold wC at *); (try unfold wO at *); (try unfold wJ at *); (try unfold wX at *)
  obtain ⟨r, m1, h1, k, rfl, q1, q2⟩ := h
  try unfold wT
  cases k with
  | true => rw [st_if1 h1]; exact q1 rfl
  | false => rw [st_if0 h1]; exact q2 rfl
theorem wp_app {i : Nat} {e : E} (h : ∃ ys, m[i]? = some (.ow (.lst ys)) ∧ wE cal e m fun r m1 => ∃ t m2 xs, esc m1 r.opd = some (t, m2) ∧ m2[i]? = some (.ow (.lst xs)) ∧ xs.length < sizeLine ∧ D.nx (m2.set i (.ow (.lst (xs ++ [t]))))) : wT cal L (.app i e) m D := by
  (try unfold wE at *); (try unfold wD at *); (try unfold wS at *); (try unfold wA at *); (try unfold wT at *); (try unfold wB at *); (try unfold wC at *); (try unfold wO at *); (try unfold wJ at *); (try unfold wX at *)
  obtain ⟨ys, h0, r, m1, h1, t, m2, xs, h2, h3, h4, q⟩ := h
  try unfold wT
  rw [evS, h0]
  simp only
  rw [h1]
  simp only [ofR, h2, h3, if_pos h4]
  exact q
theorem wp_stf {i c : Nat} {f : PySem.Str} {e : E} (h : wE cal e m fun r m1 => ∃ t m2 fs, esc m1 r.opd = some (t, m2) ∧ m2[i]? = some (.ow (.ins c fs)) ∧ Nat.blt fs.length 1000 = true ∧ D.nx (m2.set i (.ow (.ins c (putS f t fs))))) : wT cal L (.stf i c f e) m D := by
  (try unfold wE at *); (try unfold wD at *); (try unfold wS at *); (try unfold wA at *); (try unfold wT at *); (try unfold wB at *); (try unfold wC at *); (try unfold wO at *); (try unfold wJ at *); (try unfold wX at *)
  obtain ⟨r, m1, h1, t, m2, fs, h2, h3, h4, q⟩ := h
  have l1 : fs.length < 1000 := Nat.le_of_ble_eq_true h4
  try unfold wT
  rw [evS, h1]
  simp only [ofR, h2, h3, if_pos (And.intro trivial l1)]
  exact q
/-- for: an invariant of the items left and the slots -/
theorem wp_fr {p : Pt} {s : Src} {b : Ss} (h : wS cal s m fun xs m1 => ∃ I : List T → List Slot → Prop, I xs m1 ∧
    (∀ x xs m2, I (x :: xs) m2 → ∃ m3, bindP m2 p x = some m3 ∧ wB cal L b m3 { nx := I xs, ct := I xs, bk := D.nx, rt := D.rt }) ∧ (∀ m2, I [] m2 → D.nx m2)) : wT cal L (.fr p s b) m D := by
  (try unfold wE at *); (try unfold wD at *); (try unfold wS at *); (try unfold wA at *); (try unfold wT at *); (try unfold wB at *); (try unfold wC at *); (try unfold wO at *); (try unfold wJ at *); (try unfold wX at *)
  obtain ⟨xs, m1, h1, I, h0, hs, hd⟩ := h
  try unfold wT
  rw [evS, h1]
  simp only
  clear h1
  revert m1
  induction xs with
  | nil => intro m1 i; rw [forGo]; exact hd _ i
  | cons x r ih =>
    intro m1 i
    obtain ⟨m3, b1, b2⟩ := hs _ _ _ i
    unfold forGo
    simp only [b1]
    try unfold wB at b2
    cases e : evSs cal L b m3 with
    | nx m4 => rw [e] at b2; exact ih _ b2
    | ct m4 => rw [e] at b2; exact ih _ b2
    | bk m4 => rw [e] at b2; exact b2
    | rt r m4 => rw [e] at b2; exact b2
    | ex x m4 => rw [e] at b2; exact b2.elim
    | no => rw [e] at b2; exact b2.elim
/-- for, turn by turn -/
@[irreducible] def wF (cal : Nat → List Slot → CRes) (L : Nat) (p : Pt) (b : Ss) (xs : List T) (m : List Slot) (D : En) : Prop := (forGo p (fun m => evSs cal L b m) xs m).sat D
theorem wf_nil {p : Pt} {b : Ss} (q : D.nx m) : wF cal L p b [] m D := by unfold wF; rw [forGo]; exact q
theorem wf_cons {p : Pt} {b : Ss} {x : T} {xs : List T} {m1 : List Slot} (h : bindP m p x = some m1) (q : wB cal L b m1 ⟨fun m2 => wF cal L p b xs m2 D, D.rt, D.nx, fun m2 => wF cal L p b xs m2 D⟩) : wF cal L p b (x :: xs) m D := by
  unfold wB wF at q
  unfold wF forGo
  simp only [h]
  cases e : evSs cal L b m1 with
  | nx m4 => rw [e] at q; exact q
  | ct m4 => rw [e] at q; exact q
  | bk m4 => rw [e] at q; exact q
  | rt r m4 => rw [e] at q; exact q
  | ex x m4 => rw [e] at q; exact q.elim
  | no => rw [e] at q; exact q.elim
theorem wp_frU {p : Pt} {s : Src} {b : Ss} (h : wS cal s m fun xs m1 => wF cal L p b xs m1 D) : wT cal L (.fr p s b) m D := by
  unfold wS wF at h
  obtain ⟨xs, m1, h1, q⟩ := h
  unfold wT
  rw [evS, h1]
  exact q
end
/-- a call, by its body's run -/
theorem wp_run {Γ : Nat → Option Def} {L k f : Nat} {d : Def} {args : List Slot} {Q : R → List Slot → Prop} (hf : Γ f = some d) (hl : args.length = d.np)
    (h : wB (callF Γ L k) L d.body (args ++ List.replicate (d.ns - d.np) .no) { nx := fun m => Q (.fz .non) (outsM d.io m), rt := fun r m => (∀ i, r ≠ .bo i) ∧ Q r (outsM d.io m), bk := fun _ => False, ct := fun _ => False }) : wC (callF Γ L (k + 1)) f args Q := by
  (try unfold wE at *); (try unfold wD at *); (try unfold wS at *); (try unfold wA at *); (try unfold wT at *); (try unfold wB at *); (try unfold wC at *); (try unfold wO at *); (try unfold wJ at *); (try unfold wX at *)
  try unfold wB at h
  have e0 : callF Γ L (k + 1) f args = runD (callF Γ L k) L d args := by
    show (match Γ f with | some d => runD (callF Γ L k) L d args | none => .no) = _
    rw [hf]
  rw [e0]
  unfold runD
  rw [if_pos hl]
  cases e : evSs (callF Γ L k) L d.body (args ++ List.replicate (d.ns - d.np) .no) with
  | nx m4 => rw [e] at h; exact ⟨_, _, rfl, (fun _ z => nomatch z), h⟩
  | ct m4 => rw [e] at h; exact h.elim
  | bk m4 => rw [e] at h; exact h.elim
  | rt r m4 =>
    rw [e] at h
    cases r with
    | bo i => exact absurd rfl (h.1 i)
    | fz t => exact ⟨_, _, rfl, (fun _ z => nomatch z), h.2⟩
    | ow t => exact ⟨_, _, rfl, (fun _ z => nomatch z), h.2⟩
  | ex x m4 => rw [e] at h; exact h.elim
  | no => rw [e] at h; exact h.elim
end Mi
set_option maxHeartbeats 1000000
namespace Mi
open PySem PySem.Spec PyProof.Rows L2

section
variable {G : Gm}
/-! ### dict(..) -/
noncomputable def rDictM (K : PySem.W.Frag) : List V → Hp → VK → Prop := fun xs H Q => (∃ (a : Addr) (ps : List Addr) (kvs : List (Key × V)), xs = [.ref a] ∧ SqL K H a (ps.map V.ref) ∧ Paired (fun p kv => SqT K H p [kV kv.1, kv.2]) ps kvs ∧ ∀ p, H p = none → Q (.ref p) (upd H p (.dK (mergeK [] kvs)))) ∨
  ∃ (a : Addr) (kvs : List (Key × V)), xs = [.ref a] ∧ Rd H a (.dK kvs) ∧ ∀ p, H p = none → Q (.ref p) (upd H p (.dK kvs))
theorem cr_dictM {X : Cx} (hcalm : X.calm = true) : CallR X (.type "dict") (rDictM X.K) := by
  intro pins s σ H xs us Q I r q
  rcases q with q | q
  · exact call_dictP hcalm pins s σ H xs us Q I r q
  · exact call_dictD pins s σ H xs us Q I r q
theorem RFk.puts {w : Wd} {more : List (Key × T)} {ms : List (Key × V)} (q : RFk G w more ms) : ∀ {kvs : List (Key × T)} {ks : List (Key × V)}, RFk G w kvs ks → RFk G w (putsT kvs more) (mergeK ks ms) := by
  induction more generalizing ms with
  | nil => cases q; exact fun r => r
  | cons p r ih =>
    cases q with
    | cons a b => exact fun r0 => ih b (r0.put a)
/-- pairs of a list -/
theorem pairs_v {w : Wd} : ∀ {xs : List T} {vs : List V} {kvs : List (Key × T)}, RFs G w xs vs → pairsT xs = some kvs → ∃ (ps : List Addr) (ks : List (Key × V)), vs = ps.map V.ref ∧ Paired (fun p kv => SqT G.K w.H p [kV kv.1, kv.2]) ps ks ∧ RFk G w kvs ks
  | [], _, kvs, .nil, h => by
    cases h
    exact ⟨[], [], rfl, .nil, .nil⟩
  | x :: r, _, kvs, .cons a b, h => by
    unfold pairsT at h
    cases e : pairT x with
    | none => rw [e] at h; cases h
    | some p =>
      rw [e] at h
      have h : (pairsT r).map (fun l => p :: l) = some kvs := h
      cases e2 : pairsT r with
      | none => rw [e2] at h; cases h
      | some l =>
        rw [e2] at h
        cases h
        obtain ⟨ps, ks, rfl, h2, h3⟩ := pairs_v b e2
        unfold pairT at e
        split at e
        · rename_i k v
          cases hk : keyT k with
          | none => rw [hk] at e; cases e
          | some q =>
            rw [hk] at e
            cases e
            cases a with
            | @tup _ ad _ ha rs =>
              cases rs with
              | @cons _ vk _ _ rk rs =>
                cases rs with
                | @cons _ vv _ _ rv rs =>
                  cases rs
                  have ek := key_v hk (.fz rk)
                  subst ek
                  refine ⟨ad :: ps, (q, vv) :: ks, rfl, .cons ?_ h2, .cons rv h3⟩
                  rcases ha with ⟨_, ha⟩ | ha
                  · exact .inl (.inl ha)
                  · exact .inr ha
        · cases e
theorem okDict : OpOk1 G .dict (fun x H Q => rDictM G.K [x] H Q) := fun w m σ t1 v1 res Q S a h k => by
  replace h : dictF t1 = some res := h
  cases t1 <;> try (cases h; done)
  case lst xs =>
    obtain ⟨p, vs, rfl, h1, r⟩ := a.lst
    have h : (pairsT xs).map (fun kvs => R.ow (.dic (putsT [] kvs))) = some res := h
    cases e : pairsT xs with
    | none => rw [e] at h; cases h
    | some kvs =>
      rw [e] at h
      cases h
      obtain ⟨ps, ks, rfl, h2, h3⟩ := pairs_v r e
      exact .inl ⟨p, ps, ks, rfl, .inl (.inl h1), h2, fun p hp => k.new S hp (.dic upd_same (RFk.mono (Mo.new S.trk hp) (RFk.puts h3 .nil)))⟩
  case dic kvs =>
    obtain ⟨p, ks, rfl, h1, r⟩ := a.dic
    cases h
    exact .inr ⟨p, ks, rfl, h1, fun p hp => k.new S hp (.dic upd_same (RFk.mono (Mo.new S.trk hp) r))⟩
end
section
variable {C : Ct} {X : Cx} {k : Nat} {cal : Nat → List Slot → CRes} {pos apos p1 p2 : Pos}
theorem x_dict (c : XC C X k) {a : Expr} {ea : E} (hm : Fr X "dict") (ha : PE X a (rdE C (evE cal ea))) (hg : Gl X "dict" := by rfl) (hs : starEach [a] X.env = (false, eval a X.env) :: starEach [] X.env := by rfl) : PE X (.Call (.Name "dict" p1) [a] [] pos) (rdE C (evE cal (.op .dict (.cons ea .nil)))) :=
  x_ty (r := rDictM C.G.K) (by rw [c.K]; exact cr_dictM c.calm) (by rfl) okDict hm hg (by decide) (by decide) hs ha
/-! ### a display of constants -/
theorem rf_flat {G : Gm} {w : Wd} {t : T} (h : flatT t = true) : RF G w t (vT t) := by
  cases t <;> first | (cases h; done) | exact .non | exact .bl _ | exact .int _ | exact .str _
noncomputable def cTrs (kvs : List (Key × T)) : List (TE × TE) := kvs.map fun kv => (tC (kV kv.1), tC (vT kv.2))
theorem cTrs_run {σ : St} {H : Hp} : ∀ {kvs : List (Key × T)} {Q : List (V × V) → Hp → Prop}, Q (kvs.map fun kv => (kV kv.1, vT kv.2)) H → tPairs (cTrs kvs) σ H Q
  | [], _, q => q
  | _ :: r, _, q => cTrs_run (kvs := r) q
theorem x_dsc {keys : List (Option Expr)} {values : List Expr} {kvs : List (Key × T)} (h : PPs X pos keys values (cTrs kvs)) (hall : keys.all (·.isSome) = true := by rfl) (hl : keys.length = values.length := by rfl) (h0 : keys ≠ [] := by intro h; cases h)
    (h15 : keys.length ≤ 15 := by decide) : PE X (.Dict keys values pos) (rdE C (evE cal (.dsc kvs))) :=
  PE.imp (pe_disp h hall hl h0 h15) fun σ H Q ⟨w, m, e, P, q⟩ p hp => by
  rw [evE] at q
  split at q
  · rename_i hf
    refine cTrs_run ⟨upd_same, kvs.map fun kv => (kv.1, vT kv.2), by rw [List.map_map]; rfl, by rw [List.length_map]; exact hf.2, ?_⟩
    subst e
    have rk : ∀ {l : List (Key × T)}, l.all (fun kv => flatT kv.2) = true → ∀ {w : Wd}, RFk C.G w l (l.map fun kv => (kv.1, vT kv.2)) := by
      intro l
      induction l with
      | nil => intro _ w; exact .nil
      | cons a r ih =>
        intro h w
        rw [List.all_cons, Bool.and_eq_true] at h
        exact .cons (rf_flat h.1) (ih h.2)
    have := After.new (o := .dic (putsT [] kvs)) (G := C.G) (m := m) (σ := σ) (fun w' v S' x' r' => q w' v S' x' r') P.sr hp (.dic upd_same (RFk.puts (rk hf.1) .nil))
    rwa [upd_upd]
  · exact q.elim
/-! ### d.get(k, x) -/
end
end Mi
set_option maxHeartbeats 1000000
namespace Mi
open PySem PySem.Spec PyProof.Rows L2
section
variable {P : R → Prop}
theorem wo_mod {a b : Int} (h : 0 < b) (q : P (.fz (.int (a % b)))) : wO .mod [.int a, .int b] P := .of (if_pos h) q
theorem wo_inI {x : Int} {xs : List Int} (q : P (.fz (.bl (decide (x ∈ xs))))) : wO .isin [.int x, .lst (tI xs)] P := .of (in_tI id x xs) q
theorem wo_notinI {x : Int} {xs : List Int} (q : P (.fz (.bl (!decide (x ∈ xs))))) : wO .notin [.int x, .lst (tI xs)] P := .of (in_tI not x xs) q
theorem wo_inD {x : Int} {xs : List Int} (q : P (.fz (.bl (decide (x ∈ xs))))) : wO .isin [.int x, .dic (dI xs)] P := .of (in_dI id x xs) q
theorem wo_eqN {xs : List Int} (q : P (.fz (.bl (decide (xs = []))))) : wO .eq [.lst (tI xs), .lst []] P := .of (eq_tI id xs []) q
theorem wo_neN {xs : List Int} (q : P (.fz (.bl (!decide (xs = []))))) : wO .ne [.lst (tI xs), .lst []] P := .of (eq_tI not xs []) q
theorem wo_addS {x y : PySem.Str} (h : x.length + y.length ≤ sizeLine) (q : P (.fz (.str (x ++ y)))) : wO .add [.str x, .str y] P := .of (if_pos h) q
theorem wo_addL {x y : List T} (h : x.length + y.length ≤ sizeLine) (q : P (.ow (.lst (x ++ y)))) : wO .add [.lst x, .lst y] P := .of (if_pos h) q
theorem wo_idxI {x : Int} {xs : List Int} (h0 : 0 ≤ x) (h1 : x < xs.length) (q : P (.fz (.int (xs.getD x.toNat 0)))) : wO .idx [.lst (tI xs), .int x] P := .of (by
  show (atI (tI xs) x).map R.fz = _
  have lt : x.toNat < xs.length := by omega
  rw [atI_nat (x := .int (xs.getD x.toNat 0)) (n := x.toNat) (by omega) (by rw [List.getElem?_map, List.getElem?_eq_getElem lt, List.getD_eq_getElem?_getD, List.getElem?_eq_getElem lt]; rfl)]
  rfl) q
theorem ints_tI' : ∀ l : List Int, intsT (tI l) = some l
  | [] => rfl
  | a :: l => by show (intsT (tI l)).map _ = _; rw [ints_tI' l]; rfl
theorem wo_srtI {xs : List Int} (q : P (.ow (.lst (tI (sortS xs))))) : wO .srt [.lst (tI xs)] P := .of (by
  show (intsT (tI xs)).bind _ = _
  rw [ints_tI']; rfl) q
end
/-! dicts of whole numbers by whole numbers -/
noncomputable abbrev dI2 (kvs : List (Int × Int)) : List (Key × T) := kvs.map fun q => (.inl q.1, .int q.2)
theorem dI2_cons {q : Int × Int} {r : List (Int × Int)} : dI2 (q :: r) = (.inl q.1, .int q.2) :: dI2 r := rfl
noncomputable def putP (kvs : List (Int × Int)) (a b : Int) : List (Int × Int) := if a ∈ kvs.map (·.1) then kvs.map fun q => if q.1 = a then (q.1, b) else q else kvs ++ [(a, b)]
theorem putT_dI2 (kvs : List (Int × Int)) (a b : Int) : putT (dI2 kvs) (.inl a) (.int b) = dI2 (putP kvs a b) := by
  unfold putT putP
  have e : ((dI2 kvs).any fun kv => decide (kv.1 = .inl a)) = decide (a ∈ kvs.map (·.1)) := by
    induction kvs with
    | nil => rfl
    | cons q r ih =>
      rw [dI2_cons, List.any_cons, ih, List.map_cons]
      by_cases h : q.1 = a
      · simp [h]
      · have : decide ((Sum.inl q.1 : Key) = .inl a) = false := by simpa using h
        rw [this, Bool.false_or]
        simp [List.mem_cons, Ne.symm h]
  rw [e]
  by_cases h : a ∈ kvs.map (·.1)
  · rw [if_pos (decide_eq_true h), if_pos h, List.map_map]
    show _ = (kvs.map fun q => if q.1 = a then (q.1, b) else q).map (fun q => ((.inl q.1 : Key), T.int q.2))
    rw [List.map_map]
    apply List.map_congr_left
    intro q _
    by_cases hq : q.1 = a
    · simp [hq]
    · simp [hq]
  · rw [if_neg (by simpa using h), if_neg h]
    simp
theorem putP_keys (kvs : List (Int × Int)) (a b : Int) (h : (kvs.map (·.1)).Nodup) : ((putP kvs a b).map (·.1)).Nodup := by
  unfold putP
  split
  · have : (kvs.map fun q => if q.1 = a then (q.1, b) else q).map (·.1) = kvs.map (·.1) := by
      rw [List.map_map]
      apply List.map_congr_left
      intro q _
      show (if q.1 = a then (q.1, b) else q).1 = q.1
      split <;> rfl
    rw [this]; exact h
  · rename_i hn
    rw [List.map_append, List.nodup_append]
    refine ⟨h, by simp, fun x hx y hy e => ?_⟩
    simp at hy
    subst hy
    subst e
    exact hn hx
theorem putP_mem {kvs : List (Int × Int)} {a b : Int} {q : Int × Int} (h : q ∈ putP kvs a b) : q ∈ kvs ∨ q = (a, b) := by
  unfold putP at h
  split at h
  · obtain ⟨p, hp, rfl⟩ := List.mem_map.mp h
    split
    · rename_i e; right; rw [← e]
    · exact .inl hp
  · rcases List.mem_append.mp h with h | h
    · exact .inl h
    · simp at h; exact .inr h
theorem putP_len (kvs : List (Int × Int)) (a b : Int) : (putP kvs a b).length ≤ kvs.length + 1 := by
  unfold putP
  split
  · rw [List.length_map]; omega
  · simp
theorem putsT_dI2 : ∀ (l kvs : List (Int × Int)), ∃ r, putsT (dI2 kvs) (dI2 l) = dI2 r ∧ ((kvs.map (·.1)).Nodup → (r.map (·.1)).Nodup) ∧ (∀ q ∈ r, q ∈ kvs ∨ q ∈ l) ∧ r.length ≤ kvs.length + l.length
  | [], kvs => ⟨kvs, rfl, id, fun _ h => .inl h, by simp⟩
  | q :: l, kvs => by
    obtain ⟨r, h1, h2, h3, h4⟩ := putsT_dI2 l (putP kvs q.1 q.2)
    refine ⟨r, ?_, fun h => h2 (putP_keys _ _ _ h), fun x hx => ?_, ?_⟩
    · rw [← h1, ← putT_dI2]; rfl
    · rcases h3 x hx with h | h
      · rcases putP_mem h with h | h
        · exact .inl h
        · exact .inr (by rw [h]; exact List.mem_cons_self)
      · exact .inr (List.mem_cons_of_mem _ h)
    · have := putP_len kvs q.1 q.2
      simp only [List.length_cons]
      omega
noncomputable abbrev tP (l : List (Int × Int)) : List T := l.map fun q => .tup [.int q.1, .int q.2]
theorem pairsT_tP : ∀ l : List (Int × Int), pairsT (tP l) = some (dI2 l)
  | [] => rfl
  | q :: r => by
    show (pairT (.tup [.int q.1, .int q.2])).bind (fun p => (pairsT (tP r)).map fun l => p :: l) = _
    rw [pairsT_tP r]; rfl
/-- what a key holds -/
noncomputable def valP (kvs : List (Int × Int)) (a : Int) : Int := ((kvs.find? fun q => decide (q.1 = a)).map (·.2)).getD 0
theorem valT_dI2 {kvs : List (Int × Int)} {a : Int} (h : a ∈ kvs.map (·.1)) : valT (dI2 kvs) (.inl a) = some (.int (valP kvs a)) := by
  unfold valT valP
  induction kvs with
  | nil => simp at h
  | cons q r ih =>
    rw [dI2_cons, List.find?_cons, List.find?_cons]
    by_cases e : q.1 = a
    · simp [e]
    · have e1 : decide ((Sum.inl q.1 : Key) = .inl a) = false := by simpa using e
      have e2 : decide (q.1 = a) = false := by simpa using e
      simp only [e1, e2]
      refine ih ?_
      simp only [List.map_cons, List.mem_cons] at h
      exact h.resolve_left (Ne.symm e)
section
variable {P : R → Prop}
theorem wo_idxD {x : Int} {kvs : List (Int × Int)} (h : x ∈ kvs.map (·.1)) (q : P (.fz (.int (valP kvs x)))) : wO .idx [.dic (dI2 kvs), .int x] P := .of (by
  show (some (Sum.inl x : Key)).bind (fun q => (valT (dI2 kvs) q).map R.fz) = _
  show (valT (dI2 kvs) (.inl x)).map R.fz = _
  rw [valT_dI2 h]; rfl) q
theorem wo_listD {kvs : List (Int × Int)} (q : P (.ow (.lst (tI (kvs.map (·.1)))))) : wO .list [.dic (dI2 kvs)] P := .of (by
  show some (R.ow (.lst ((dI2 kvs).map fun kv => unkey kv.1))) = _
  rw [List.map_map]
  show _ = some (R.ow (.lst ((kvs.map (·.1)).map T.int)))
  rw [List.map_map]; rfl) q
theorem wo_dict {l : List (Int × Int)} (q : ∀ r : List (Int × Int), (r.map (·.1)).Nodup → (∀ x ∈ r, x ∈ l) → r.length ≤ l.length → P (.ow (.dic (dI2 r)))) : wO .dict [.lst (tP l)] P := by
  obtain ⟨r, h1, h2, h3, h4⟩ := putsT_dI2 l []
  refine .of (r := .ow (.dic (dI2 r))) ?_ (q r (h2 (by simp)) (fun x hx => (h3 x hx).resolve_left (by simp)) (by simpa using h4))
  show (pairsT (tP l)).map (fun kvs => R.ow (.dic (putsT [] kvs))) = _
  rw [pairsT_tP]
  show some (R.ow (.dic (putsT (dI2 []) (dI2 l)))) = _
  rw [h1]
end
/-! sorted -/
theorem insS_mem (a x : Int) : ∀ l : List Int, x ∈ insS a l ↔ x = a ∨ x ∈ l
  | [] => by simp [insS]
  | b :: r => by
    unfold insS
    split
    · simp
    · rw [List.mem_cons, insS_mem a x r, List.mem_cons]
      constructor
      · rintro (h | h | h)
        · exact .inr (.inl h)
        · exact .inl h
        · exact .inr (.inr h)
      · rintro (h | h | h)
        · exact .inr (.inl h)
        · exact .inl h
        · exact .inr (.inr h)
theorem sortS_mem (x : Int) : ∀ l : List Int, x ∈ sortS l ↔ x ∈ l
  | [] => by simp [sortS]
  | a :: r => by rw [sortS, insS_mem, sortS_mem x r, List.mem_cons]
theorem insS_len (a : Int) : ∀ l : List Int, (insS a l).length = l.length + 1
  | [] => rfl
  | b :: r => by
    unfold insS
    split
    · rfl
    · rw [List.length_cons, insS_len a r]; rfl
theorem sortS_len : ∀ l : List Int, (sortS l).length = l.length
  | [] => rfl
  | a :: r => by rw [sortS, insS_len, sortS_len r]; rfl
theorem insS_asc {a : Int} : ∀ {l : List Int}, l.Pairwise (· < ·) → a ∉ l → (insS a l).Pairwise (· < ·)
  | [], _, _ => by simp [insS]
  | b :: r, h, hn => by
    rw [List.pairwise_cons] at h
    unfold insS
    split
    · rename_i hab
      have : a ≠ b := fun e => hn (by rw [e]; exact List.mem_cons_self)
      refine List.pairwise_cons.mpr ⟨fun x hx => ?_, List.pairwise_cons.mpr h⟩
      rcases List.mem_cons.mp hx with e | e
      · omega
      · have := h.1 x e; omega
    · rename_i hab
      refine List.pairwise_cons.mpr ⟨fun x hx => ?_, insS_asc h.2 fun z => hn (List.mem_cons_of_mem _ z)⟩
      rcases (insS_mem a x r).mp hx with e | e
      · omega
      · exact h.1 x e
theorem sortS_asc : ∀ {l : List Int}, l.Nodup → (sortS l).Pairwise (· < ·)
  | [], _ => by simp [sortS]
  | a :: r, h => by
    rw [List.nodup_cons] at h
    rw [sortS]
    exact insS_asc (sortS_asc h.2) fun z => h.1 ((sortS_mem a r).mp z)
end Mi
set_option maxHeartbeats 1000000
namespace Mi
open PySem PySem.Spec PyProof.Rows L2
/-! ### the law's draws, forward -/
/-- a bag with at least so many draws left -/
noncomputable def Bg (b : Nat) (o : O) : Prop := ∃ c, Bag c (.ow o) ∧ c + b < 2 ^ 39
theorem Bg.mono {b b' : Nat} {o : O} (h : Bg b o) (l : b' ≤ b) : Bg b' o := by
  obtain ⟨c, h1, h2⟩ := h
  exact ⟨c, h1, by omega⟩
structure Draws (cal : Nat → List Slot → CRes) (t f : Nat) : Prop where
  take : ∀ {o : O} {b : Nat} {many : Int}, Bg (b + 1) o → 0 < many → many < 2 ^ 64 → ∃ d o', cal t [.ow o, .fz (.int many)] = .ok (.fz (.int d)) [.ow o', .no] ∧ 0 ≤ d ∧ d < many ∧ Bg b o'
  of : ∀ {o : O} {b : Nat} {xs : T} {n : Nat}, Bg (b + 1) o → lenF xs = fI n → 0 < n → n < 2 ^ 63 → (∀ d : Nat, d < n → ∃ y, idxF xs (.int d) = some (.fz y)) → ∃ (d : Nat) (y : T) (o' : O), cal f [.ow o, .fz xs] = .ok (.fz y) [.ow o', .no] ∧ d < n ∧ idxF xs (.int (d : Nat)) = some (.fz y) ∧ Bg b o'
theorem draws_ok {Γ : Nat → Option Def} {L k t f : Nat} (ht : Γ t = some dTake) (hf : Γ f = some (dOf t)) : Draws (callF Γ L (k + 2)) t f where
  take := fun {o b many} ⟨c, B, hc⟩ h0 h1 => by
    obtain ⟨d, s', e, g0, g1, B'⟩ := take_ok (Γ := Γ) (L := L) (k := k + 1) ht B (by omega) h0 h1
    obtain ⟨o', rfl⟩ := B'.ow
    exact ⟨d, o', e, g0, g1, c + 1, B', by omega⟩
  of := fun {o b xs n} ⟨c, B, hc⟩ hx h0 h1 hi => by
    obtain ⟨d, y, s', e, g0, g1, B'⟩ := of_ok (Γ := Γ) (L := L) (k := k) hf ht B (by omega) hx h0 h1 hi
    obtain ⟨o', rfl⟩ := B'.ow
    exact ⟨d, y, o', e, g0, g1, c + 1, B', by omega⟩
section
variable {cal : Nat → List Slot → CRes} {t f : Nat} {Q : R → List Slot → Prop} {o : O} {b : Nat}
theorem wc_take (D : Draws cal t f) {many : Int} (B : Bg b o) (hb : 0 < b) (h0 : 0 < many) (h1 : many < 2 ^ 64) (q : ∀ d o', 0 ≤ d → d < many → Bg (b - 1) o' → Q (.fz (.int d)) [.ow o', .no]) : wC cal t [.ow o, .fz (.int many)] Q := by
  obtain ⟨d, o', e, g0, g1, B'⟩ := D.take (b := b - 1) (B.mono (by omega)) h0 h1
  exact wC.fz e (q d o' g0 g1 B')
theorem wc_of (D : Draws cal t f) {xs : List T} (B : Bg b o) (hb : 0 < b) (h0 : Nat.blt 0 xs.length = true) (h1 : Nat.blt xs.length 100000 = true) (q : ∀ y o', y ∈ xs → Bg (b - 1) o' → Q (.fz y) [.ow o', .no]) : wC cal f [.ow o, .fz (.lst xs)] Q := by
  have l0 : 0 < xs.length := Nat.le_of_ble_eq_true h0
  have l1 : xs.length < 100000 := Nat.le_of_ble_eq_true h1
  obtain ⟨d, y, o', e, g0, g1, B'⟩ := D.of (b := b - 1) (xs := .lst xs) (n := xs.length) (B.mono (by omega)) rfl l0 (by omega) fun d hd => idx_lst hd
  exact wC.fz e (q y o' (idx_lst_mem g0 g1) B')
end
/-- the bag is made -/
theorem bag_mk {Γ : Nat → Option Def} {L k f : Nat} (hf : Γ f = some dBag) {ns : List Int} : ∃ o, callF Γ L (k + 1) f [.fz (.scr ns)] = .ok (.ow o) [.no] ∧ Bg (2 ^ 38) o := by
  obtain ⟨o, e, B⟩ := bag_ok (Γ := Γ) (L := L) (k := k) hf (ns := ns)
  exact ⟨o, e, 0, B, by decide⟩
end Mi
set_option maxHeartbeats 1000000
namespace Mi
open PySem PySem.Spec PyProof.Rows L2
/-! ### plain things equal themselves -/
noncomputable def okT : T → Bool
  | .non => true
  | .bl _ => true
  | .int _ => true
  | .str s => PyData.canLay0 (.str s)
  | _ => false
/-- nested lists of flat things, their texts laid well -/
inductive Po : Nat → T → Prop
  | flat {n : Nat} {t : T} : okT t = true → Po n t
  | lst {n : Nat} {xs : List T} : (∀ x ∈ xs, Po n x) → Po (n + 1) (.lst xs)
theorem pl_py : ∀ {n : Nat} {t : T}, Po n t → ∃ d, pyT t = some d ∧ PyData.canLay0 d = true ∧ PyData.depth d ≤ n ∧ PyData.eqv d d = true
  | n, _, .flat (t := t) h => by
    cases t <;> first | (cases h; done) | skip
    · exact ⟨.none, rfl, rfl, Nat.zero_le _, rfl⟩
    · exact ⟨.bool _, rfl, rfl, Nat.zero_le _, by simp [PyData.eqv]⟩
    · exact ⟨.int _, rfl, rfl, Nat.zero_le _, by simp [PyData.eqv]⟩
    · exact ⟨.str _, rfl, h, Nat.zero_le _, by simp [PyData.eqv]⟩
  | n + 1, _, .lst (xs := xs) h => by
    have key : ∀ xs : List T, (∀ x ∈ xs, Po n x) → ∃ ds, pyTs xs = some ds ∧ PyData.canLayAll0 ds = true ∧ PyData.depthAll ds ≤ n ∧ PyData.eqvAll ds ds = true := by
      intro xs
      induction xs with
      | nil => intro _; exact ⟨[], rfl, rfl, Nat.zero_le _, rfl⟩
      | cons a r ih =>
        intro h
        obtain ⟨d, e1, e2, e3, e4⟩ := pl_py (h a List.mem_cons_self)
        obtain ⟨ds, f1, f2, f3, f4⟩ := ih fun x hx => h x (List.mem_cons_of_mem _ hx)
        refine ⟨d :: ds, by rw [pyTs, e1, f1], by rw [PyData.canLayAll0, e2, f2]; rfl, ?_, by rw [PyData.eqvAll, e4, f4]; rfl⟩
        rw [PyData.depthAll]
        omega
    obtain ⟨ds, f1, f2, f3, f4⟩ := key xs h
    exact ⟨.list ds, by rw [pyT, f1]; rfl, by rw [PyData.canLay0]; exact f2, by rw [PyData.depth]; omega, by rw [PyData.eqv]; exact f4⟩
theorem eq_pl {n : Nat} {xs : List T} (h : Po n (.lst xs)) (hn : n ≤ 60) (k : Bool → Bool) : eqF (.lst xs) (.lst xs) k = fB (k true) := by
  obtain ⟨d, e1, e2, e3, e4⟩ := pl_py h
  show (match pyT (.lst xs), pyT (.lst xs) with
    | some d, some e => if SeqAt.shaped d = true ∧ SeqAt.shaped e = true then fB (k (PyData.eqv d e)) else none
    | _, _ => _) = _
  have s : SeqAt.shaped d = true := by
    show (PyData.canLay0 d && decide (PyData.depth d ≤ 64)) = true
    rw [e2, Bool.true_and, decide_eq_true_eq]
    omega
  rw [e1]
  simp only
  rw [if_pos ⟨s, s⟩, e4]
section
variable {P : R → Prop}
theorem wo_nePl {n : Nat} {xs ys : List T} (e : xs = ys) (h : Po n (.lst xs)) (hn : n ≤ 60) (q : P (.fz (.bl false))) : wO .ne [.lst xs, .lst ys] P := by
  subst e; exact .of (eq_pl h hn not) q
end
theorem po_flats {n : Nat} {xs : List T} (h : xs.all okT = true) : Po (n + 1) (.lst xs) := .lst fun x hx => .flat (List.all_eq_true.mp h x hx)
end Mi
set_option maxHeartbeats 1000000
namespace Mi
open PySem PySem.Spec PyProof.Rows L2
/-- what the facts see, off a tree that is made of the heap -/
noncomputable def obsT (n : Nat) (fx : List Fx) (fn : List He5.DefA) (gk : List (Str × T)) (s : Shared) : Option AlQ := match HandSHeadRun.treeOf s with
  | some x => HandSHeadRun.frS x fun x => some (obsQG n fx fn gk (HandSHeadRun.getT x))
  | none => none
theorem obsT_ok {n : Nat} {fx : List Fx} {fn : List He5.DefA} {gk : List (Str × T)} {s : Shared} {v : AlQ} (h : obsT n fx fn gk s = some v) : obsQG n fx fn gk s.heap.get? = v := by
  unfold obsT at h
  cases e : HandSHeadRun.treeOf s with
  | none => rw [e] at h; cases h
  | some x =>
    rw [e] at h
    simp only [HandSHeadRun.frS_eq] at h
    obtain ⟨h1, _⟩ := HandSHeadRun.treeOf_eq e
    have : HandSHeadRun.getT x = s.heap.get? := funext fun a => by rw [HandSHeadRun.getT_eq, h1]
    rw [this] at h
    exact Option.some.inj h
noncomputable def hookT (n : Nat) (fx : List Fx) (fn : List He5.DefA) (gk : List (Str × T)) : PySem.W.Hook where
  α := Option AlQ
  obs := obsT n fx fn gk
  val := fun _ => some (valQ fn)
  says := (hookQ n fx fn gk).says
  of := fun w s e => (hookQ n fx fn gk).of w s (obsT_ok e)
  keeps := (hookQ n fx fn gk).keeps
end Mi
set_option maxHeartbeats 0
namespace MiDR
open PySem PySem.Spec Mi
/-! _law_bag ['_law_script', '_law_mixed', '_law_cell'] -/
noncomputable def l2_0 : Ss := (.cons (.set 1 (.op .mod (.cons (.op .int (.cons (.op .add (.cons (.op .add (.cons (.op .mul (.cons (.var 1) (.cons (.c (.int 46337)) .nil))) (.cons (.op .mul (.cons (.op .mod (.cons (.op .int (.cons (.var 2) .nil)) (.cons (.c (.int 1000211)) .nil))) (.cons (.c (.int 919)) .nil))) .nil))) (.cons (.c (.int 41)) .nil))) .nil)) (.cons (.c (.int 2147483563)) .nil))))
  .nil)
noncomputable def t2_0 : S := (.set 1 (.c (.int 12006)))
noncomputable def t2_1 : S := (.fr (.nm 2) (.it (.op (.sl false true) (.cons (.var 0) (.cons (.c (.int 63)) .nil)))) l2_0)
noncomputable def t2_2 : S := (.ret (.lst (.cons (.op .list (.cons (.op (.sl false true) (.cons (.var 0) (.cons (.c (.int 63)) .nil))) .nil)) (.cons (.c (.int 0)) (.cons (.c (.int 0)) (.cons (.var 1) (.cons (.c (.int 0)) .nil)))))))
noncomputable def d2 : Def := ⟨1, 3, [false],
  (.cons t2_0 (.cons t2_1 (.cons t2_2 .nil)))⟩
/-! _law_some_rounds ['_law_bag_here', '_law_most', '_law_period_z', '_law_share', '_law_far', '_law_classes_z', '_law_at', '_law_odd_z', '_law_k'] -/
noncomputable def e3_0 : E := (.var 6)
noncomputable def e3_1 : E := (.call 15 [true, false] (.cons (.var 0) (.cons (.var 4) .nil)))
noncomputable def t3_0 : S := (.set 2 (.op .add (.cons (.c (.int 1)) (.cons (.call 15 [true, false] (.cons (.var 0) (.cons (.call 17 [true, false] (.cons (.var 0) (.cons (.lst (.cons (.c (.int 1)) (.cons (.c (.int 4)) (.cons (.c (.int 12)) (.cons (.var 1) .nil))))) .nil))) .nil))) .nil))))
noncomputable def t3_1 : S := (.unp (.tup (.cons (.nm 3) (.cons (.nm 4) .nil))) (.tup (.cons (.call 17 [true, false] (.cons (.var 0) (.cons (.lst (.cons (.c (.int 2)) (.cons (.c (.int 2)) (.cons (.c (.int 3)) (.cons (.c (.int 9)) .nil))))) .nil))) (.cons (.call 17 [true, false] (.cons (.var 0) (.cons (.lst (.cons (.c (.int 4)) (.cons (.c (.int 20)) (.cons (.c (.int 90)) .nil)))) .nil))) .nil))))
noncomputable def t3_2 : S := (.set 5 (.comp [6] (.nm 6) (.rng1 (.var 2)) (.cons (.op .eq (.cons (.call 15 [true, false] (.cons (.var 0) (.cons (.var 3) .nil))) (.cons (.c (.int 0)) .nil))) .nil) e3_0))
noncomputable def t3_3 : S := (.set 7 (.op .uniq (.cons (.comp [8] (.nm 8) (.rng1 (.call 15 [true, false] (.cons (.var 0) (.cons (.c (.int 5)) .nil)))) .nil e3_1) .nil)))
noncomputable def t3_4 : S := (.ret (.lst (.cons (.var 2) (.cons (.var 5) (.cons (.var 7) .nil)))))
noncomputable def d3 : Def := ⟨2, 9, [true, false],
  (.cons t3_0 (.cons t3_1 (.cons t3_2 (.cons t3_3 (.cons t3_4 .nil)))))⟩
/-! Rounds.__init__ ['self', 'period', 'classes', 'odd', 'at'] -/
noncomputable def t4_0 : S := (.ife (.nt (.call 18 [false, false, false] (.cons (.var 1) (.cons (.c (.int 1)) (.cons (.c (.int 5040)) .nil))))) (.cons .nev
  .nil) .nil)
noncomputable def t4_1 : S := (.ife (.nt (.lend [2] (.call 19 [false] (.cons (.var 2) .nil)))) (.cons .nev
  .nil) .nil)
noncomputable def t4_2 : S := (.ife (.op .notn (.cons (.lend [2] (.call 20 [false, false, false] (.cons (.var 2) (.cons (.c (.int 0)) (.cons (.op .sub (.cons (.var 1) (.cons (.c (.int 1)) .nil))) .nil))))) (.cons (.c .non) .nil))) (.cons .nev
  .nil) .nil)
noncomputable def t4_3 : S := (.ife (.nt (.lend [3] (.call 19 [false] (.cons (.var 3) .nil)))) (.cons .nev
  .nil) .nil)
noncomputable def t4_4 : S := (.ife (.op .notn (.cons (.lend [3] (.call 20 [false, false, false] (.cons (.var 3) (.cons (.c (.int 0)) (.cons (.c .non) .nil))))) (.cons (.c .non) .nil))) (.cons .nev
  .nil) .nil)
noncomputable def t4_5 : S := (.stp 0 0 ["own_period", "own_classes"] (.call 21 [false, false] (.cons (.var 1) (.cons (.op .list (.cons (.var 2) .nil)) .nil))))
noncomputable def t4_6 : S := (.stf 0 0 "own_odd" (.lend [3] (.dcm [4] (.nm 4) (.it (.var 3)) .nil (.var 4) (.c (.bl true)))))
noncomputable def d4 : Def := ⟨4, 5, [true, false, true, true],
  (.cons t4_0 (.cons t4_1 (.cons t4_2 (.cons t4_3 (.cons t4_4 (.cons t4_5 (.cons t4_6 .nil)))))))⟩
/-! _law_least_spec ['_law_spec', '_law_late', '_law_at'] -/
noncomputable def e5_0 : E := (.op .eq (.cons (.op .isin (.cons (.op .mod (.cons (.op .int (.cons (.var 2) .nil)) (.cons (.var 1) .nil))) (.cons (.op .idx (.cons (.var 0) (.cons (.c (.int 1)) .nil))) .nil))) (.cons (.op .isin (.cons (.var 2) (.cons (.op .idx (.cons (.var 0) (.cons (.c (.int 1)) .nil))) .nil))) .nil)))
noncomputable def e5_1 : E := (.var 2)
noncomputable def l5_0 : Ss := (.cons (.ife (.an (.op .eq (.cons (.op .mod (.cons (.op .idx (.cons (.var 0) (.cons (.c (.int 0)) .nil))) (.cons (.var 1) .nil))) (.cons (.c (.int 0)) .nil))) (.op .all (.cons (.comp [2] (.nm 2) (.rng1 (.op .idx (.cons (.var 0) (.cons (.c (.int 0)) .nil)))) .nil e5_0) .nil))) (.cons (.ret (.lst (.cons (.var 1) (.cons (.comp [2] (.nm 2) (.it (.op .idx (.cons (.var 0) (.cons (.c (.int 1)) .nil)))) (.cons (.op .lt (.cons (.var 2) (.cons (.var 1) .nil))) .nil) e5_1) (.cons (.op .idx (.cons (.var 0) (.cons (.c (.int 2)) .nil))) .nil)))))
  .nil) .nil)
  .nil)
noncomputable def t5_0 : S := (.fr (.nm 1) (.rng2 (.c (.int 1)) (.op .add (.cons (.op .idx (.cons (.var 0) (.cons (.c (.int 0)) .nil))) (.cons (.c (.int 1)) .nil)))) l5_0)
noncomputable def t5_1 : S := (.ret (.var 0))
noncomputable def d5 : Def := ⟨1, 3, [false],
  (.cons t5_0 (.cons t5_1 .nil))⟩
/-! Rounds.classes ['self'] -/
noncomputable def t6_0 : S := (.ret (.op .list (.cons (.fld 0 (.var 0) "own_classes") .nil)))
noncomputable def d6 : Def := ⟨1, 1, [false],
  (.cons t6_0 .nil)⟩
/-! Rounds.odd ['self'] -/
noncomputable def t7_0 : S := (.ret (.op .list (.cons (.fld 0 (.var 0) "own_odd") .nil)))
noncomputable def d7 : Def := ⟨1, 1, [false],
  (.cons t7_0 .nil)⟩
/-! _law_rounds_text ['_law_spec', '_law_words', '_law_at'] -/
noncomputable def e8_0 : E := (.op .str (.cons (.var 2) .nil))
noncomputable def e8_1 : E := (.op .str (.cons (.var 2) .nil))
noncomputable def t8_0 : S := (.set 1 (.ite (.op .ne (.cons (.op .idx (.cons (.var 0) (.cons (.c (.int 1)) .nil))) (.cons (.lst .nil) .nil))) (.comp [2] (.nm 2) (.it (.op .idx (.cons (.var 0) (.cons (.c (.int 1)) .nil)))) .nil e8_0) (.lst (.cons (.c (.str "none")) .nil))))
noncomputable def t8_1 : S := (.set 1 (.op .add (.cons (.var 1) (.cons (.lst (.cons (.c (.str "of")) (.cons (.op .str (.cons (.op .idx (.cons (.var 0) (.cons (.c (.int 0)) .nil))) .nil)) .nil))) .nil))))
noncomputable def t8_2 : S := (.ret (.jn (.c (.str " ")) (.op .add (.cons (.var 1) (.cons (.ite (.op .ne (.cons (.op .idx (.cons (.var 0) (.cons (.c (.int 2)) .nil))) (.cons (.lst .nil) .nil))) (.op .add (.cons (.lst (.cons (.c (.str "odd")) .nil)) (.cons (.comp [2] (.nm 2) (.it (.op .idx (.cons (.var 0) (.cons (.c (.int 2)) .nil)))) .nil e8_1) .nil))) (.lst .nil)) .nil)))))
noncomputable def d8 : Def := ⟨1, 3, [false],
  (.cons t8_0 (.cons t8_1 (.cons t8_2 .nil)))⟩
/-! Rounds.period ['self'] -/
noncomputable def t9_0 : S := (.ret (.fld 0 (.var 0) "own_period"))
noncomputable def d9 : Def := ⟨1, 1, [false],
  (.cons t9_0 .nil)⟩
/-! Rounds.text ['self', 'words', 'one', 'at'] -/
noncomputable def e10_0 : E := (.op .str (.cons (.var 2) .nil))
noncomputable def e10_1 : E := (.op .str (.cons (.var 3) .nil))
noncomputable def t10_0 : S := (.set 1 (.ite (.op .ne (.cons (.fld 0 (.var 0) "own_classes") (.cons (.lst .nil) .nil))) (.comp [2] (.nm 2) (.it (.fld 0 (.var 0) "own_classes")) .nil e10_0) (.lst (.cons (.c (.str "none")) .nil))))
noncomputable def t10_1 : S := (.set 1 (.lsx [true, false, false] (.cons (.var 1) (.cons (.c (.str "of")) (.cons (.op .str (.cons (.fld 0 (.var 0) "own_period") .nil)) .nil)))))
noncomputable def t10_2 : S := (.ife (.op .ne (.cons (.fld 0 (.var 0) "own_odd") (.cons .dic0 .nil))) (.cons (.set 1 (.lsx [true, false, true] (.cons (.var 1) (.cons (.c (.str "odd")) (.cons (.comp [3] (.nm 3) (.it (.fld 0 (.var 0) "own_odd")) .nil e10_1) .nil)))))
  .nil) .nil)
noncomputable def t10_3 : S := (.ret (.jn (.c (.str " ")) (.var 1)))
noncomputable def d10 : Def := ⟨1, 4, [false],
  (.cons t10_0 (.cons t10_1 (.cons t10_2 (.cons t10_3 .nil))))⟩
/-! Rounds.__repr__ ['self'] -/
noncomputable def t11_0 : S := (.ret (.fst (.cons (.c (.str "Rounds(")) (.cons (.meth 0 10 "text" [] (.var 0) .nil) (.cons (.c (.str ")")) .nil)))))
noncomputable def d11 : Def := ⟨1, 1, [false],
  (.cons t11_0 .nil)⟩
/-! Rounds.__bool__ ['self'] -/
noncomputable def t12_0 : S := (.ret (.or (.op .gt (.cons (.op .len (.cons (.fld 0 (.var 0) "own_classes") .nil)) (.cons (.c (.int 0)) .nil))) (.op .gt (.cons (.op .len (.cons (.fld 0 (.var 0) "own_odd") .nil)) (.cons (.c (.int 0)) .nil)))))
noncomputable def d12 : Def := ⟨1, 1, [false],
  (.cons t12_0 .nil)⟩
/-! _law_same ['_law_found', '_law_due', '_law_key', '_law_a', '_law_b'] -/
noncomputable def e13_0 : E := (.call 13 [false, false] (.cons (.op .idx (.cons (.var 0) (.cons (.var 2) .nil))) (.cons (.op .idx (.cons (.var 1) (.cons (.var 2) .nil))) .nil)))
noncomputable def e13_1 : E := (.call 13 [false, false] (.cons (.var 3) (.cons (.var 4) .nil)))
noncomputable def t13_0 : S := (.ife (.or (.op .isn (.cons (.var 1) (.cons (.c .non) .nil))) (.op .isn (.cons (.var 0) (.cons (.c .non) .nil)))) (.cons (.ret (.an (.op .isn (.cons (.var 1) (.cons (.c .non) .nil))) (.op .isn (.cons (.var 0) (.cons (.c .non) .nil)))))
  .nil) .nil)
noncomputable def t13_1 : S := (.ife (.op (.isi1 .dict) (.cons (.var 1) .nil)) (.cons (.ife (.or (.nt (.op (.isi1 .dict) (.cons (.var 0) .nil))) (.op .ne (.cons (.op .list (.cons (.var 0) .nil)) (.cons (.op .list (.cons (.var 1) .nil)) .nil)))) (.cons (.ret (.c (.bl false)))
  .nil) .nil)
  (.cons (.ret (.op .all (.cons (.comp [2] (.nm 2) (.it (.var 1)) .nil e13_0) .nil)))
  .nil)) .nil)
noncomputable def t13_2 : S := (.ife (.op (.isi [.list, .tuple]) (.cons (.var 1) .nil)) (.cons (.ife (.op .ne (.cons (.op (.isi1 .list) (.cons (.var 0) .nil)) (.cons (.op (.isi1 .list) (.cons (.var 1) .nil)) .nil))) (.cons (.ret (.c (.bl false)))
  .nil) .nil)
  (.cons (.ife (.or (.op .ne (.cons (.op (.isi1 .tuple) (.cons (.var 0) .nil)) (.cons (.op (.isi1 .tuple) (.cons (.var 1) .nil)) .nil))) (.op .ne (.cons (.op .len (.cons (.var 0) .nil)) (.cons (.op .len (.cons (.var 1) .nil)) .nil)))) (.cons (.ret (.c (.bl false)))
  .nil) .nil)
  (.cons (.ret (.op .all (.cons (.comp [3, 4] (.tup (.cons (.nm 3) (.cons (.nm 4) .nil))) (.zip (.var 0) (.var 1)) .nil e13_1) .nil)))
  .nil))) .nil)
noncomputable def t13_3 : S := (.ife (.op (.isi [.list, .tuple, .dict]) (.cons (.var 0) .nil)) (.cons (.ret (.c (.bl false)))
  .nil) .nil)
noncomputable def t13_4 : S := (.ife (.op .ne (.cons (.op (.isi1 .bool) (.cons (.var 0) .nil)) (.cons (.op (.isi1 .bool) (.cons (.var 1) .nil)) .nil))) (.cons (.ret (.c (.bl false)))
  .nil) .nil)
noncomputable def t13_5 : S := (.ife (.op .ne (.cons (.op (.isi1 .int) (.cons (.var 0) .nil)) (.cons (.op (.isi1 .int) (.cons (.var 1) .nil)) .nil))) (.cons (.ret (.c (.bl false)))
  .nil) .nil)
noncomputable def t13_6 : S := (.ret (.an (.op .eq (.cons (.op (.isi1 .str) (.cons (.var 0) .nil)) (.cons (.op (.isi1 .str) (.cons (.var 1) .nil)) .nil))) (.op .eq (.cons (.var 0) (.cons (.var 1) .nil)))))
noncomputable def d13 : Def := ⟨2, 5, [false, false],
  (.cons t13_0 (.cons t13_1 (.cons t13_2 (.cons t13_3 (.cons t13_4 (.cons t13_5 (.cons t13_6 .nil)))))))⟩
/-! _law_widened ['_law_spec', '_law_times', '_law_at'] -/
noncomputable def e14_0 : E := (.var 2)
noncomputable def t14_0 : S := (.ret (.lst (.cons (.op .mul (.cons (.op .idx (.cons (.var 0) (.cons (.c (.int 0)) .nil))) (.cons (.var 1) .nil))) (.cons (.comp [2] (.nm 2) (.rng1 (.op .mul (.cons (.op .idx (.cons (.var 0) (.cons (.c (.int 0)) .nil))) (.cons (.var 1) .nil)))) (.cons (.op .isin (.cons (.op .mod (.cons (.op .int (.cons (.var 2) .nil)) (.cons (.op .idx (.cons (.var 0) (.cons (.c (.int 0)) .nil))) .nil))) (.cons (.op .idx (.cons (.var 0) (.cons (.c (.int 1)) .nil))) .nil))) .nil) e14_0) (.cons (.op .idx (.cons (.var 0) (.cons (.c (.int 2)) .nil))) .nil)))))
noncomputable def d14 : Def := ⟨2, 3, [false, false],
  (.cons t14_0 .nil)⟩
/-! _law_take ['_law_bag_here', '_law_many', '_law_cell', '_law_digit', '_law_twice'] -/
noncomputable def t15_0 : S := (.sto 0 (.c (.int 4)) (.op .add (.cons (.op .idx (.cons (.var 0) (.cons (.c (.int 4)) .nil))) (.cons (.c (.int 1)) .nil))))
noncomputable def t15_1 : S := (.ife (.an (.op .eq (.cons (.op .idx (.cons (.var 0) (.cons (.c (.int 2)) .nil))) (.cons (.c (.int 0)) .nil))) (.op .lt (.cons (.op .idx (.cons (.var 0) (.cons (.c (.int 1)) .nil))) (.cons (.op .len (.cons (.op .idx (.cons (.var 0) (.cons (.c (.int 0)) .nil))) .nil)) .nil)))) (.cons (.set 2 (.op .idx (.cons (.op .idx (.cons (.var 0) (.cons (.c (.int 0)) .nil))) (.cons (.op .idx (.cons (.var 0) (.cons (.c (.int 1)) .nil))) .nil))))
  (.cons (.sto 0 (.c (.int 1)) (.op .add (.cons (.op .idx (.cons (.var 0) (.cons (.c (.int 1)) .nil))) (.cons (.c (.int 1)) .nil))))
  (.cons (.ife (.op .ge (.cons (.op .abs (.cons (.var 2) .nil)) (.cons (.op .pow (.cons (.c (.int 10)) (.cons (.c (.int 18)) .nil))) .nil))) (.cons (.sto 0 (.c (.int 2)) (.op .abs (.cons (.var 2) .nil)))
  .nil) (.cons (.sto 0 (.c (.int 3)) (.op .mod (.cons (.op .int (.cons (.op .add (.cons (.op .add (.cons (.op .mul (.cons (.op .idx (.cons (.var 0) (.cons (.c (.int 3)) .nil))) (.cons (.c (.int 47303)) .nil))) (.cons (.op .mul (.cons (.op .mod (.cons (.op .int (.cons (.var 2) .nil)) (.cons (.c (.int 1000211)) .nil))) (.cons (.c (.int 733)) .nil))) .nil))) (.cons (.c (.int 59)) .nil))) .nil)) (.cons (.c (.int 2147483579)) .nil))))
  .nil))
  .nil))) .nil)
noncomputable def t15_2 : S := (.ife (.op .gt (.cons (.op .idx (.cons (.var 0) (.cons (.c (.int 2)) .nil))) (.cons (.c (.int 0)) .nil))) (.cons (.set 3 (.op .mod (.cons (.op .int (.cons (.op .idx (.cons (.var 0) (.cons (.c (.int 2)) .nil))) .nil)) (.cons (.var 1) .nil))))
  (.cons (.sto 0 (.c (.int 2)) (.op .fdiv (.cons (.op .idx (.cons (.var 0) (.cons (.c (.int 2)) .nil))) (.cons (.var 1) .nil))))
  (.cons (.ret (.var 3))
  .nil))) .nil)
noncomputable def t15_3 : S := (.set 4 (.op .mod (.cons (.op .int (.cons (.op .add (.cons (.op .mul (.cons (.op .idx (.cons (.var 0) (.cons (.c (.int 3)) .nil))) (.cons (.op .idx (.cons (.var 0) (.cons (.c (.int 3)) .nil))) .nil))) (.cons (.op .mul (.cons (.op .idx (.cons (.var 0) (.cons (.c (.int 4)) .nil))) (.cons (.c (.int 8191)) .nil))) .nil))) .nil)) (.cons (.c (.int 2147483647)) .nil))))
noncomputable def t15_4 : S := (.sto 0 (.c (.int 3)) (.op .mod (.cons (.op .int (.cons (.op .add (.cons (.op .add (.cons (.op .mul (.cons (.var 4) (.cons (.c (.int 16981)) .nil))) (.cons (.op .mul (.cons (.op .idx (.cons (.var 0) (.cons (.c (.int 3)) .nil))) (.cons (.c (.int 47969)) .nil))) .nil))) (.cons (.c (.int 70019)) .nil))) .nil)) (.cons (.c (.int 2147483579)) .nil))))
noncomputable def t15_5 : S := (.ret (.op .mod (.cons (.op .int (.cons (.op .fdiv (.cons (.op .idx (.cons (.var 0) (.cons (.c (.int 3)) .nil))) (.cons (.c (.int 67)) .nil))) .nil)) (.cons (.var 1) .nil))))
noncomputable def d15 : Def := ⟨2, 5, [true, false],
  (.cons t15_0 (.cons t15_1 (.cons t15_2 (.cons t15_3 (.cons t15_4 (.cons t15_5 .nil))))))⟩
/-! Rounds.__eq__ ['self', 'other'] -/
noncomputable def t16_0 : S := (.ife (.or (.nt (.isc [0] [] (.var 1))) (.op .ne (.cons (.fld 0 (.var 0) "own_period") (.cons (.fld 0 (.var 1) "own_period") .nil)))) (.cons (.ret (.c (.bl false)))
  .nil) .nil)
noncomputable def t16_1 : S := (.ret (.an (.op .eq (.cons (.fld 0 (.var 0) "own_classes") (.cons (.fld 0 (.var 1) "own_classes") .nil))) (.op .eq (.cons (.fld 0 (.var 0) "own_odd") (.cons (.fld 0 (.var 1) "own_odd") .nil)))))
noncomputable def d16 : Def := ⟨2, 2, [false, false],
  (.cons t16_0 (.cons t16_1 .nil))⟩
/-! _law_of ['_law_bag_here', '_law_things'] -/
noncomputable def t17_0 : S := (.ret (.op .idx (.cons (.var 1) (.cons (.call 15 [true, false] (.cons (.var 0) (.cons (.op .len (.cons (.var 1) .nil)) .nil))) .nil))))
noncomputable def d17 : Def := ⟨2, 2, [true, false],
  (.cons t17_0 .nil)⟩
/-! is_number ['value', 'least', 'most'] -/
noncomputable def t18_0 : S := (.ret (.an (.call 22 [false] (.cons (.var 0) .nil)) (.ch .le .le (.var 1) (.var 0) (.var 2))))
noncomputable def d18 : Def := ⟨3, 3, [false, false, false],
  (.cons t18_0 .nil)⟩
/-! is_list ['value'] -/
noncomputable def t19_0 : S := (.ret (.op (.isi [.list, .tuple]) (.cons (.var 0) .nil)))
noncomputable def d19 : Def := ⟨1, 1, [false],
  (.cons t19_0 .nil)⟩
/-! first_fault ['rows', 'least', 'most', 'at', 'item'] -/
noncomputable def l20_0 : Ss := (.cons (.ife (.or (.nt (.call 22 [false] (.cons (.var 4) .nil))) (.or (.op .lt (.cons (.var 4) (.cons (.var 1) .nil))) (.or (.an (.op .notn (.cons (.var 2) (.cons (.c .non) .nil))) (.op .gt (.cons (.var 4) (.cons (.var 2) .nil)))) (.an (.op .gt (.cons (.var 3) (.cons (.c (.int 0)) .nil))) (.op .le (.cons (.var 4) (.cons (.op .idx (.cons (.var 0) (.cons (.op .sub (.cons (.var 3) (.cons (.c (.int 1)) .nil))) .nil))) .nil))))))) (.cons (.ret (.var 3))
  .nil) .nil)
  .nil)
noncomputable def t20_0 : S := (.fr (.tup (.cons (.nm 3) (.cons (.nm 4) .nil))) (.enum (.var 0)) l20_0)
noncomputable def t20_1 : S := (.ret (.c .non))
noncomputable def d20 : Def := ⟨3, 5, [false, false, false],
  (.cons t20_0 (.cons t20_1 .nil))⟩
/-! least_pattern ['period', 'classes', 'known', 'one', 'late', 'short'] -/
noncomputable def e21_0 : E := (.var 3)
noncomputable def e21_1 : E := (.op .isin (.cons (.op .mod (.cons (.var 3) (.cons (.var 4) .nil))) (.cons (.var 2) .nil)))
noncomputable def l21_0 : Ss := (.cons (.ife (.op .eq (.cons (.op .mod (.cons (.var 0) (.cons (.var 4) .nil))) (.cons (.c (.int 0)) .nil))) (.cons (.set 5 (.comp [3] (.nm 3) (.it (.var 1)) (.cons (.op .lt (.cons (.var 3) (.cons (.var 4) .nil))) .nil) e21_0))
  (.cons (.ife (.an (.op .eq (.cons (.op .mul (.cons (.op .len (.cons (.var 5) .nil)) (.cons (.op .fdiv (.cons (.var 0) (.cons (.var 4) .nil))) .nil))) (.cons (.op .len (.cons (.var 1) .nil)) .nil))) (.op .all (.cons (.comp [3] (.nm 3) (.it (.var 1)) .nil e21_1) .nil))) (.cons (.ret (.tup (.cons (.var 4) (.cons (.var 5) .nil))))
  .nil) .nil)
  .nil)) .nil)
  .nil)
noncomputable def t21_0 : S := (.set 2 (.dcm [3] (.nm 3) (.it (.var 1)) .nil (.var 3) (.c (.bl true))))
noncomputable def t21_1 : S := (.fr (.nm 4) (.rng2 (.c (.int 1)) (.var 0)) l21_0)
noncomputable def t21_2 : S := (.ret (.tup (.cons (.var 0) (.cons (.op .list (.cons (.var 1) .nil)) .nil))))
noncomputable def d21 : Def := ⟨2, 6, [false, false],
  (.cons t21_0 (.cons t21_1 (.cons t21_2 .nil)))⟩
/-! is_whole ['value'] -/
noncomputable def t22_0 : S := (.ret (.an (.op (.isi1 .int) (.cons (.var 0) .nil)) (.nt (.op (.isi1 .bool) (.cons (.var 0) .nil)))))
noncomputable def d22 : Def := ⟨1, 1, [false],
  (.cons t22_0 .nil)⟩
/-! _law_rounds ['_law_spec'] -/
noncomputable def t24_0 : S := (.ret (.mk 0 4 [] (.cons (.op .idx (.cons (.var 0) (.cons (.c (.int 0)) .nil))) (.cons (.op .idx (.cons (.var 0) (.cons (.c (.int 1)) .nil))) (.cons (.op .idx (.cons (.var 0) (.cons (.c (.int 2)) .nil))) .nil)))))
noncomputable def d24 : Def := ⟨1, 1, [false],
  (.cons t24_0 .nil)⟩
/-! Rounds.__and__ ['self', 'other'] -/
noncomputable def t40_0 : S := (.ret (.call 46 [false, false, false] (.cons (.var 0) (.cons (.var 1) (.cons (.tup (.cons (.c (.bl false)) (.cons (.c (.bl false)) (.cons (.c (.bl false)) (.cons (.c (.bl true)) .nil))))) .nil)))))
noncomputable def d40 : Def := ⟨2, 2, [false, false],
  (.cons t40_0 .nil)⟩
/-! Rounds.__or__ ['self', 'other'] -/
noncomputable def t98_0 : S := (.ret (.call 46 [false, false, false] (.cons (.var 0) (.cons (.var 1) (.cons (.tup (.cons (.c (.bl false)) (.cons (.c (.bl true)) (.cons (.c (.bl true)) (.cons (.c (.bl true)) .nil))))) .nil)))))
noncomputable def d98 : Def := ⟨2, 2, [false, false],
  (.cons t98_0 .nil)⟩
/-! Rounds.__xor__ ['self', 'other'] -/
noncomputable def t42_0 : S := (.ret (.call 46 [false, false, false] (.cons (.var 0) (.cons (.var 1) (.cons (.tup (.cons (.c (.bl false)) (.cons (.c (.bl true)) (.cons (.c (.bl true)) (.cons (.c (.bl false)) .nil))))) .nil)))))
noncomputable def d42 : Def := ⟨2, 2, [false, false],
  (.cons t42_0 .nil)⟩
/-! Rounds.__sub__ ['self', 'other'] -/
noncomputable def t41_0 : S := (.ret (.call 46 [false, false, false] (.cons (.var 0) (.cons (.var 1) (.cons (.tup (.cons (.c (.bl false)) (.cons (.c (.bl false)) (.cons (.c (.bl true)) (.cons (.c (.bl false)) .nil))))) .nil)))))
noncomputable def d41 : Def := ⟨2, 2, [false, false],
  (.cons t41_0 .nil)⟩
/-! Rounds.__invert__ ['self', 'left', 'at'] -/
noncomputable def e43_0 : E := (.var 2)
noncomputable def t43_0 : S := (.set 1 (.comp [2] (.nm 2) (.rng1 (.fld 0 (.var 0) "own_period")) (.cons (.op .notin (.cons (.var 2) (.cons (.fld 0 (.var 0) "own_classes") .nil))) .nil) e43_0))
noncomputable def t43_1 : S := (.ret (.call 47 [false, false, false] (.cons (.fld 0 (.var 0) "own_period") (.cons (.var 1) (.cons (.op .list (.cons (.fld 0 (.var 0) "own_odd") .nil)) .nil)))))
noncomputable def d43 : Def := ⟨1, 3, [false],
  (.cons t43_0 (.cons t43_1 .nil))⟩
/-! _law_has ['_law_spec', '_law_at'] -/
noncomputable def t39_0 : S := (.ret (.op .ne (.cons (.op .isin (.cons (.op .mod (.cons (.op .int (.cons (.var 1) .nil)) (.cons (.op .idx (.cons (.var 0) (.cons (.c (.int 0)) .nil))) .nil))) (.cons (.op .idx (.cons (.var 0) (.cons (.c (.int 1)) .nil))) .nil))) (.cons (.op .isin (.cons (.var 1) (.cons (.op .idx (.cons (.var 0) (.cons (.c (.int 2)) .nil))) .nil))) .nil))))
noncomputable def d39 : Def := ⟨2, 2, [false, false],
  (.cons t39_0 .nil)⟩
/-! Rounds.__contains__ ['self', 'value'] -/
noncomputable def t99_0 : S := (.ret (.an (.call 22 [false] (.cons (.var 1) .nil)) (.an (.op .ge (.cons (.var 1) (.cons (.c (.int 0)) .nil))) (.meth 0 100 "has" [false] (.var 0) (.cons (.var 1) .nil)))))
noncomputable def d99 : Def := ⟨2, 2, [false, false],
  (.cons t99_0 .nil)⟩
/-! Rounds.every ['cls'] -/
noncomputable def t101_0 : S := (.ret (.mk 0 4 [] (.cons (.c (.int 1)) (.cons (.lst (.cons (.c (.int 0)) .nil)) (.cons (.c (.tup [])) .nil)))))
noncomputable def d101 : Def := ⟨1, 1, [true],
  (.cons t101_0 .nil)⟩
/-! Rounds.within ['self', 'other'] -/
noncomputable def t102_0 : S := (.ret (.nt (.spc false 0 12 (.bop 0 41 (.var 0) (.var 1)))))
noncomputable def d102 : Def := ⟨2, 2, [false, false],
  (.cons t102_0 .nil)⟩
/-! combined ['one', 'other', 'keep', 'period', 'first', 'at', 'second', 'classes', 'kept', 'both', 'odd'] -/
noncomputable def e46_0 : E := (.var 5)
noncomputable def e46_1 : E := (.var 5)
noncomputable def t46_0 : S := (.set 3 (.op .lcm (.cons (.prop 0 9 (.var 0)) (.cons (.prop 0 9 (.var 1)) .nil))))
noncomputable def t46_1 : S := (.ife (.op .gt (.cons (.var 3) (.cons (.c (.int 5040)) .nil))) (.cons .nev
  .nil) .nil)
noncomputable def t46_2 : S := (.set 4 (.dcm [5] (.nm 5) (.it (.meth 0 6 "classes" [] (.var 0) .nil)) .nil (.var 5) (.c (.bl true))))
noncomputable def t46_3 : S := (.set 6 (.dcm [5] (.nm 5) (.it (.meth 0 6 "classes" [] (.var 1) .nil)) .nil (.var 5) (.c (.bl true))))
noncomputable def t46_4 : S := (.set 7 (.comp [5] (.nm 5) (.rng1 (.var 3)) (.cons (.op .idx (.cons (.var 2) (.cons (.op .add (.cons (.op .mul (.cons (.c (.int 2)) (.cons (.op .int (.cons (.op .isin (.cons (.op .mod (.cons (.var 5) (.cons (.prop 0 9 (.var 0)) .nil))) (.cons (.var 4) .nil))) .nil)) .nil))) (.cons (.op .int (.cons (.op .isin (.cons (.op .mod (.cons (.var 5) (.cons (.prop 0 9 (.var 1)) .nil))) (.cons (.var 6) .nil))) .nil)) .nil))) .nil))) .nil) e46_0))
noncomputable def t46_5 : S := (.set 8 (.dcm [5] (.nm 5) (.it (.var 7)) .nil (.var 5) (.c (.bl true))))
noncomputable def t46_6 : S := (.set 9 (.op .uniq (.cons (.op .add (.cons (.meth 0 7 "odd" [] (.var 0) .nil) (.cons (.meth 0 7 "odd" [] (.var 1) .nil) .nil))) .nil)))
noncomputable def t46_7 : S := (.set 10 (.comp [5] (.nm 5) (.it (.var 9)) (.cons (.op .ne (.cons (.op .idx (.cons (.var 2) (.cons (.op .add (.cons (.op .mul (.cons (.c (.int 2)) (.cons (.op .int (.cons (.meth 0 100 "has" [false] (.var 0) (.cons (.var 5) .nil)) .nil)) .nil))) (.cons (.op .int (.cons (.meth 0 100 "has" [false] (.var 1) (.cons (.var 5) .nil)) .nil)) .nil))) .nil))) (.cons (.op .isin (.cons (.op .mod (.cons (.var 5) (.cons (.var 3) .nil))) (.cons (.var 8) .nil))) .nil))) .nil) e46_1))
noncomputable def t46_8 : S := (.ret (.call 47 [false, false, false] (.cons (.var 3) (.cons (.var 7) (.cons (.var 10) .nil)))))
noncomputable def d46 : Def := ⟨3, 11, [false, false, false],
  (.cons t46_0 (.cons t46_1 (.cons t46_2 (.cons t46_3 (.cons t46_4 (.cons t46_5 (.cons t46_6 (.cons t46_7 (.cons t46_8 .nil)))))))))⟩
/-! rounds_of ['period', 'classes', 'odd'] -/
noncomputable def t47_0 : S := (.ret (.mk 0 4 [] (.cons (.var 0) (.cons (.var 1) (.cons (.op .srt (.cons (.var 2) .nil)) .nil)))))
noncomputable def d47 : Def := ⟨3, 3, [false, false, false],
  (.cons t47_0 .nil)⟩
/-! Rounds.has ['self', 'at'] -/
noncomputable def t100_0 : S := (.ret (.op .ne (.cons (.op .isin (.cons (.op .mod (.cons (.var 1) (.cons (.fld 0 (.var 0) "own_period") .nil))) (.cons (.fld 0 (.var 0) "own_classes") .nil))) (.cons (.op .isin (.cons (.var 1) (.cons (.fld 0 (.var 0) "own_odd") .nil))) .nil))))
noncomputable def d100 : Def := ⟨2, 2, [false, false],
  (.cons t100_0 .nil)⟩
/-! _law_some_answer ['_law_bag_here', '_law_period', '_law_marks', '_law_k', '_law_turned', '_law_specs', '_law_mark', '_law_classes', '_law_at', '_law_odd'] -/
noncomputable def e32_0 : E := (.call 15 [true, false] (.cons (.var 0) (.cons (.c (.int 3)) .nil)))
noncomputable def e32_1 : E := (.tup (.cons (.call 15 [true, false] (.cons (.var 0) (.cons (.call 17 [true, false] (.cons (.var 0) (.cons (.lst (.cons (.c (.int 5)) (.cons (.c (.int 40)) .nil))) .nil))) .nil))) (.cons (.call 15 [true, false] (.cons (.var 0) (.cons (.c (.int 3)) .nil))) .nil)))
noncomputable def e32_2 : E := (.var 8)
noncomputable def e32_3 : E := (.var 8)
noncomputable def l32_0 : Ss := (.cons (.set 7 (.comp [8] (.nm 8) (.rng1 (.var 1)) (.cons (.op .eq (.cons (.op .idx (.cons (.var 2) (.cons (.var 8) .nil))) (.cons (.var 6) .nil))) .nil) e32_2))
  (.cons (.set 9 (.comp [8] (.nm 8) (.it (.op .srt (.cons (.op .list (.cons (.var 4) .nil)) .nil))) (.cons (.op .ne (.cons (.op .eq (.cons (.op .idx (.cons (.var 2) (.cons (.op .mod (.cons (.op .int (.cons (.var 8) .nil)) (.cons (.var 1) .nil))) .nil))) (.cons (.var 6) .nil))) (.cons (.op .eq (.cons (.op .idx (.cons (.var 4) (.cons (.var 8) .nil))) (.cons (.var 6) .nil))) .nil))) .nil) e32_3))
  (.cons (.app 5 (.lst (.cons (.var 1) (.cons (.var 7) (.cons (.var 9) .nil)))))
  .nil)))
noncomputable def t32_0 : S := (.set 1 (.op .add (.cons (.c (.int 1)) (.cons (.call 15 [true, false] (.cons (.var 0) (.cons (.call 17 [true, false] (.cons (.var 0) (.cons (.lst (.cons (.c (.int 1)) (.cons (.c (.int 3)) (.cons (.c (.int 12)) .nil)))) .nil))) .nil))) .nil))))
noncomputable def t32_1 : S := (.set 2 (.comp [3] (.nm 3) (.rng1 (.var 1)) .nil e32_0))
noncomputable def t32_2 : S := (.set 4 (.op .dict (.cons (.comp [3] (.nm 3) (.rng1 (.call 15 [true, false] (.cons (.var 0) (.cons (.c (.int 5)) .nil)))) .nil e32_1) .nil)))
noncomputable def t32_3 : S := (.set 5 (.lst .nil))
noncomputable def t32_4 : S := (.fr (.nm 6) (.it (.lst (.cons (.c (.int 1)) (.cons (.c (.int 2)) .nil)))) l32_0)
noncomputable def t32_5 : S := (.ret (.var 5))
noncomputable def d32 : Def := ⟨1, 10, [true],
  (.cons t32_0 (.cons t32_1 (.cons t32_2 (.cons t32_3 (.cons t32_4 (.cons t32_5 .nil))))))⟩
/-! Answer.__init__ ['self', 'sure', 'unsure'] -/
noncomputable def t33_0 : S := (.ife (.spc false 0 12 (.bop 0 40 (.var 1) (.var 2))) (.cons .nev
  .nil) .nil)
noncomputable def t33_1 : S := (.stf 0 15 "sure" (.var 1))
noncomputable def t33_2 : S := (.stf 0 15 "unsure" (.var 2))
noncomputable def d33 : Def := ⟨3, 3, [true, false, false],
  (.cons t33_0 (.cons t33_1 (.cons t33_2 .nil)))⟩
/-! _law_answer_spec ['_law_answer', '_law_part'] -/
noncomputable def e34_0 : E := (.lst (.cons (.prop 0 9 (.var 1)) (.cons (.meth 0 6 "classes" [] (.var 1) .nil) (.cons (.meth 0 7 "odd" [] (.var 1) .nil) .nil))))
noncomputable def t34_0 : S := (.ret (.comp [1] (.nm 1) (.it (.lst (.cons (.fld 15 (.var 0) "sure") (.cons (.fld 15 (.var 0) "unsure") .nil)))) .nil e34_0))
noncomputable def d34 : Def := ⟨1, 2, [false],
  (.cons t34_0 .nil)⟩
/-! Answer.__and__ ['self', 'other', 'sure'] -/
noncomputable def t35_0 : S := (.set 2 (.bop 0 40 (.fld 15 (.var 0) "sure") (.fld 15 (.var 1) "sure")))
noncomputable def t35_1 : S := (.ret (.mk 15 33 [] (.cons (.var 2) (.cons (.bop 0 41 (.bop 0 40 (.bop 0 98 (.fld 15 (.var 0) "sure") (.fld 15 (.var 0) "unsure")) (.bop 0 98 (.fld 15 (.var 1) "sure") (.fld 15 (.var 1) "unsure"))) (.var 2)) .nil))))
noncomputable def d35 : Def := ⟨2, 3, [false, false],
  (.cons t35_0 (.cons t35_1 .nil))⟩
/-! Answer.__or__ ['self', 'other', 'sure'] -/
noncomputable def t36_0 : S := (.set 2 (.bop 0 98 (.fld 15 (.var 0) "sure") (.fld 15 (.var 1) "sure")))
noncomputable def t36_1 : S := (.ret (.mk 15 33 [] (.cons (.var 2) (.cons (.bop 0 41 (.bop 0 98 (.fld 15 (.var 0) "unsure") (.fld 15 (.var 1) "unsure")) (.var 2)) .nil))))
noncomputable def d36 : Def := ⟨2, 3, [false, false],
  (.cons t36_0 (.cons t36_1 .nil))⟩
/-! Answer.__invert__ ['self'] -/
noncomputable def t37_0 : S := (.ret (.mk 15 33 [] (.cons (.uop 0 43 (.bop 0 98 (.fld 15 (.var 0) "sure") (.fld 15 (.var 0) "unsure"))) (.cons (.fld 15 (.var 0) "unsure") .nil))))
noncomputable def d37 : Def := ⟨1, 1, [false],
  (.cons t37_0 .nil)⟩
/-! _law_word_at ['_law_specs', '_law_at'] -/
noncomputable def t103_0 : S := (.ife (.call 39 [false, false] (.cons (.op .idx (.cons (.var 0) (.cons (.c (.int 0)) .nil))) (.cons (.var 1) .nil))) (.cons (.ret (.c (.str "sure")))
  .nil) .nil)
noncomputable def t103_1 : S := (.ret (.ite (.call 39 [false, false] (.cons (.op .idx (.cons (.var 0) (.cons (.c (.int 1)) .nil))) (.cons (.var 1) .nil))) (.c (.str "unsure")) (.c (.str "out"))))
noncomputable def d103 : Def := ⟨2, 2, [false, false],
  (.cons t103_0 (.cons t103_1 .nil))⟩
/-! _law_both ['_law_word', '_law_late'] -/
noncomputable def t104_0 : S := (.ife (.or (.op .eq (.cons (.var 0) (.cons (.c (.str "out")) .nil))) (.op .eq (.cons (.var 1) (.cons (.c (.str "out")) .nil)))) (.cons (.ret (.c (.str "out")))
  .nil) .nil)
noncomputable def t104_1 : S := (.ret (.ite (.an (.op .eq (.cons (.var 0) (.cons (.c (.str "sure")) .nil))) (.op .eq (.cons (.var 1) (.cons (.c (.str "sure")) .nil)))) (.c (.str "sure")) (.c (.str "unsure"))))
noncomputable def d104 : Def := ⟨2, 2, [false, false],
  (.cons t104_0 (.cons t104_1 .nil))⟩
/-! _law_not ['_law_word'] -/
noncomputable def t105_0 : S := (.ret (.op .idx (.cons (.dsc [(.inr "sure", (.str "out")), (.inr "out", (.str "sure")), (.inr "unsure", (.str "unsure"))]) (.cons (.var 0) .nil))))
noncomputable def d105 : Def := ⟨1, 1, [false],
  (.cons t105_0 .nil)⟩
/-! Answer.out ['self'] -/
noncomputable def t106_0 : S := (.ret (.uop 0 43 (.bop 0 98 (.fld 15 (.var 0) "sure") (.fld 15 (.var 0) "unsure"))))
noncomputable def d106 : Def := ⟨1, 1, [false],
  (.cons t106_0 .nil)⟩
/-! Answer.__eq__ ['self', 'other'] -/
noncomputable def t107_0 : S := (.ret (.an (.isc [15] [0] (.var 1)) (.an (.ceq false 0 16 (.fld 15 (.var 0) "sure") (.fld 15 (.var 1) "sure")) (.ceq false 0 16 (.fld 15 (.var 0) "unsure") (.fld 15 (.var 1) "unsure")))))
noncomputable def d107 : Def := ⟨2, 2, [false, false],
  (.cons t107_0 .nil)⟩
/-! Answer.text ['self'] -/
noncomputable def t108_0 : S := (.ife (.nt (.spc false 0 12 (.fld 15 (.var 0) "unsure"))) (.cons (.ret (.meth 0 10 "text" [] (.fld 15 (.var 0) "sure") .nil))
  .nil) .nil)
noncomputable def t108_1 : S := (.ret (.fst (.cons (.meth 0 10 "text" [] (.fld 15 (.var 0) "sure") .nil) (.cons (.c (.str " open ")) (.cons (.meth 0 10 "text" [] (.fld 15 (.var 0) "unsure") .nil) .nil)))))
noncomputable def d108 : Def := ⟨1, 1, [false],
  (.cons t108_0 (.cons t108_1 .nil))⟩
/-! Answer.__repr__ ['self'] -/
noncomputable def t109_0 : S := (.ret (.fst (.cons (.c (.str "Answer(")) (.cons (.meth 15 108 "text" [] (.var 0) .nil) (.cons (.c (.str ")")) .nil)))))
noncomputable def d109 : Def := ⟨1, 1, [false],
  (.cons t109_0 .nil)⟩
/-! Answer.settled ['self'] -/
noncomputable def t110_0 : S := (.ret (.nt (.spc false 0 12 (.fld 15 (.var 0) "unsure"))))
noncomputable def d110 : Def := ⟨1, 1, [false],
  (.cons t110_0 .nil)⟩
noncomputable def pgL : List (Nat × Def) := [(2, d2), (3, d3), (4, d4), (5, d5), (6, d6), (7, d7), (8, d8), (9, d9), (10, d10), (11, d11), (12, d12), (13, d13), (14, d14), (15, d15), (16, d16), (17, d17), (18, d18), (19, d19), (20, d20), (21, d21), (22, d22), (24, d24), (32, d32), (33, d33), (34, d34), (35, d35), (36, d36), (37, d37), (39, d39), (40, d40), (41, d41), (42, d42), (43, d43), (46, d46), (47, d47), (98, d98), (99, d99), (100, d100), (101, d101), (102, d102), (103, d103), (104, d104), (105, d105), (106, d106), (107, d107), (108, d108), (109, d109), (110, d110)]
noncomputable def pg (f : Nat) : Option Def := pgL.lookup f
end MiDR
set_option maxHeartbeats 0
namespace K33
open PySem PySem.Spec PyProof.Rows L2 Mi MiDR
noncomputable def e31_0 : E := (.op .add (.cons (.op .pow (.cons (.c (.int 10)) (.cons (.c (.int 20)) .nil))) (.cons (.var 8) .nil)))
noncomputable def e31_1 : E := (.call 103 [false, false] (.cons (.var 12) (.cons (.var 7) .nil)))
noncomputable def l31_0 : Ss := (.cons (.par 9 10 (.call 103 [false, false] (.cons (.var 2) (.cons (.var 7) .nil))) (.call 103 [false, false] (.cons (.var 3) (.cons (.var 7) .nil))))
  (.cons (.set 11 (.lst (.cons (.call 104 [false, false] (.cons (.var 9) (.cons (.var 10) .nil))) (.cons (.call 105 [false] (.cons (.call 104 [false, false] (.cons (.call 105 [false] (.cons (.var 9) .nil)) (.cons (.call 105 [false] (.cons (.var 10) .nil)) .nil))) .nil)) (.cons (.call 105 [false] (.cons (.var 9) .nil)) (.cons (.call 105 [false] (.cons (.call 104 [false, false] (.cons (.var 9) (.cons (.call 105 [false] (.cons (.var 10) .nil)) .nil))) .nil)) .nil))))))
  (.cons (.ife (.or (.op .ne (.cons (.comp [12] (.nm 12) (.it (.var 6)) .nil e31_1) (.cons (.var 11) .nil))) (.op .ne (.cons (.inn false 0 99 (.var 7) (.prop 15 106 (.var 4))) (.cons (.op .eq (.cons (.var 9) (.cons (.c (.str "out")) .nil))) .nil)))) (.cons (.ret (.c (.bl false)))
  .nil) .nil)
  .nil)))
noncomputable def e31_2 : E := (.call 5 [false] (.cons (.var 12) .nil))
noncomputable def e31_3 : E := (.call 8 [false] (.cons (.var 12) .nil))
noncomputable def t31_0 : S := (.set 1 (.call 2 [false] (.cons (.var 0) .nil)))
noncomputable def t31_1 : S := (.par 2 3 (.call 32 [true] (.cons (.var 1) .nil)) (.call 32 [true] (.cons (.var 1) .nil)))
noncomputable def t31_2 : S := (.par 4 5 (.mk 15 33 [] (.cons (.call 24 [false] (.cons (.op .idx (.cons (.var 2) (.cons (.c (.int 0)) .nil))) .nil)) (.cons (.call 24 [false] (.cons (.op .idx (.cons (.var 2) (.cons (.c (.int 1)) .nil))) .nil)) .nil))) (.mk 15 33 [1, 0] (.cons (.call 24 [false] (.cons (.op .idx (.cons (.var 3) (.cons (.c (.int 1)) .nil))) .nil)) (.cons (.call 24 [false] (.cons (.op .idx (.cons (.var 3) (.cons (.c (.int 0)) .nil))) .nil)) .nil))))
noncomputable def t31_3 : S := (.set 6 (.lst (.cons (.call 34 [false] (.cons (.bop 15 35 (.var 4) (.var 5)) .nil)) (.cons (.call 34 [false] (.cons (.bop 15 36 (.var 4) (.var 5)) .nil)) (.cons (.call 34 [false] (.cons (.uop 15 37 (.var 4)) .nil)) (.cons (.call 34 [false] (.cons (.uop 15 37 (.bop 15 35 (.var 4) (.uop 15 37 (.var 5)))) .nil)) .nil))))))
noncomputable def t31_4 : S := (.fr (.nm 7) (.it (.op .add (.cons (.lr (.rng1 (.c (.int 200)))) (.cons (.comp [8] (.nm 8) (.rng1 (.c (.int 12))) .nil e31_0) .nil)))) l31_0)
noncomputable def t31_5 : S := (.ife (.or (.ceq true 15 107 (.uop 15 37 (.uop 15 37 (.var 4))) (.var 4)) (.or (.ceq true 15 107 (.bop 15 35 (.var 4) (.var 4)) (.var 4)) (.or (.ceq true 15 107 (.bop 15 36 (.var 4) (.var 4)) (.var 4)) (.or (.ceq true 15 107 (.uop 15 37 (.bop 15 35 (.var 4) (.var 5))) (.bop 15 36 (.uop 15 37 (.var 4)) (.uop 15 37 (.var 5)))) (.ceq true 15 107 (.bop 15 35 (.var 4) (.var 5)) (.bop 15 35 (.var 5) (.var 4))))))) (.cons (.ret (.c (.bl false)))
  .nil) .nil)
noncomputable def t31_6 : S := (.set 13 (.comp [12] (.nm 12) (.it (.var 2)) .nil e31_2))
noncomputable def t31_7 : S := (.set 14 (.comp [12] (.nm 12) (.it (.var 13)) .nil e31_3))
noncomputable def t31_8 : S := (.set 15 (.op .add (.cons (.op .idx (.cons (.var 14) (.cons (.c (.int 0)) .nil))) (.cons (.ite (.or (.op .ne (.cons (.op .idx (.cons (.op .idx (.cons (.var 13) (.cons (.c (.int 1)) .nil))) (.cons (.c (.int 1)) .nil))) (.cons (.lst .nil) .nil))) (.op .ne (.cons (.op .idx (.cons (.op .idx (.cons (.var 13) (.cons (.c (.int 1)) .nil))) (.cons (.c (.int 2)) .nil))) (.cons (.lst .nil) .nil)))) (.op .add (.cons (.c (.str " open ")) (.cons (.op .idx (.cons (.var 14) (.cons (.c (.int 1)) .nil))) .nil))) (.c (.str ""))) .nil))))
noncomputable def t31_9 : S := (.set 11 (.lst (.cons (.var 15) (.cons (.op .add (.cons (.op .add (.cons (.c (.str "Answer(")) (.cons (.var 15) .nil))) (.cons (.c (.str ")")) .nil))) (.cons (.an (.op .eq (.cons (.op .idx (.cons (.op .idx (.cons (.var 13) (.cons (.c (.int 1)) .nil))) (.cons (.c (.int 1)) .nil))) (.cons (.lst .nil) .nil))) (.op .eq (.cons (.op .idx (.cons (.op .idx (.cons (.var 13) (.cons (.c (.int 1)) .nil))) (.cons (.c (.int 2)) .nil))) (.cons (.lst .nil) .nil)))) (.cons (.op .idx (.cons (.var 14) (.cons (.c (.int 0)) .nil))) (.cons (.op .idx (.cons (.var 14) (.cons (.c (.int 1)) .nil))) .nil)))))))
noncomputable def t31_10 : S := (.ife (.nt (.call 13 [false, false] (.cons (.lst (.cons (.meth 15 108 "text" [] (.var 4) .nil) (.cons (.spc true 15 109 (.var 4)) (.cons (.prop 15 110 (.var 4)) (.cons (.meth 0 10 "text" [] (.fld 15 (.var 4) "sure") .nil) (.cons (.meth 0 10 "text" [] (.fld 15 (.var 4) "unsure") .nil) .nil)))))) (.cons (.var 11) .nil)))) (.cons (.ret (.c (.bl false)))
  .nil) .nil)
noncomputable def t31_11 : S := (.ret (.an (.ceq false 15 107 (.var 4) (.mk 15 33 [] (.cons (.call 24 [false] (.cons (.op .idx (.cons (.var 2) (.cons (.c (.int 0)) .nil))) .nil)) (.cons (.call 24 [false] (.cons (.op .idx (.cons (.var 2) (.cons (.c (.int 1)) .nil))) .nil)) .nil)))) (.an (.ceq true 15 107 (.var 4) (.var 15)) (.an (.nt (.ceq false 15 107 (.var 4) (.c .non))) (.call 13 [false, false] (.cons (.call 34 [false] (.cons (.var 4) .nil)) (.cons (.var 13) .nil)))))))
noncomputable def d31 : Def := ⟨1, 16, [false],
  (.cons t31_0 (.cons t31_1 (.cons t31_2 (.cons t31_3 (.cons t31_4 (.cons t31_5 (.cons t31_6 (.cons t31_7 (.cons t31_8 (.cons t31_9 (.cons t31_10 (.cons t31_11 .nil))))))))))))⟩
noncomputable def Γ (f : Nat) : Option Def := if f = 31 then some d31 else pg f
noncomputable def top (i : Nat) : Stmt := PySem.Challenge.pw_loneround_k33_whole_answers_combined.main.body.getD i (.Pass ⟨0, 0, 0, 0⟩)
noncomputable def inCls (s : Stmt) (j : Nat) : Stmt := match s with
  | .ClassDef _ _ _ b _ _ _ _ _ _ _ => b.getD j (.Pass ⟨0, 0, 0, 0⟩)
  | s => s
noncomputable abbrev s31 : Stmt := top 46
noncomputable abbrev n31 : List PySem.Str := ["_law_script", "_law_bag_here", "_law_one", "_law_other", "_law_a", "_law_b", "_law_found", "_law_at", "_law_k", "_law_x", "_law_y", "_law_due", "_law_part", "_law_least", "_law_texts", "_law_text"]
noncomputable abbrev p31 : List PySem.Str := ["_law_script"]
noncomputable def D31 : He5.DefA := ⟨fun K => He.ga K "law", "law", "law", defArgs s31, defBody s31, defScope s31, [], []⟩
noncomputable abbrev s2 : Stmt := top 33
noncomputable abbrev n2 : List PySem.Str := ["_law_script", "_law_mixed", "_law_cell"]
noncomputable abbrev p2 : List PySem.Str := ["_law_script"]
noncomputable def D2 : He5.DefA := ⟨fun K => He.ga K "_law_bag", "_law_bag", "_law_bag", defArgs s2, defBody s2, defScope s2, [], []⟩
noncomputable abbrev s32 : Stmt := top 43
noncomputable abbrev n32 : List PySem.Str := ["_law_bag_here", "_law_period", "_law_marks", "_law_k", "_law_turned", "_law_specs", "_law_mark", "_law_classes", "_law_at", "_law_odd"]
noncomputable abbrev p32 : List PySem.Str := ["_law_bag_here"]
noncomputable def D32 : He5.DefA := ⟨fun K => He.ga K "_law_some_answer", "_law_some_answer", "_law_some_answer", defArgs s32, defBody s32, defScope s32, [], []⟩
noncomputable abbrev s33 : Stmt := inCls (top 31) 0
noncomputable abbrev n33 : List PySem.Str := ["self", "sure", "unsure"]
noncomputable abbrev p33 : List PySem.Str := ["self", "sure", "unsure"]
noncomputable def D33 : He5.DefA := ⟨fun K => He.ma K (He.ga K "Answer") "__init__", "__init__", "Answer.__init__", defArgs s33, defBody s33, defScope s33, [], []⟩
noncomputable abbrev s24 : Stmt := top 39
noncomputable abbrev n24 : List PySem.Str := ["_law_spec"]
noncomputable abbrev p24 : List PySem.Str := ["_law_spec"]
noncomputable def D24 : He5.DefA := ⟨fun K => He.ga K "_law_rounds", "_law_rounds", "_law_rounds", defArgs s24, defBody s24, defScope s24, [], []⟩
noncomputable abbrev s34 : Stmt := top 41
noncomputable abbrev n34 : List PySem.Str := ["_law_answer", "_law_part"]
noncomputable abbrev p34 : List PySem.Str := ["_law_answer"]
noncomputable def D34 : He5.DefA := ⟨fun K => He.ga K "_law_answer_spec", "_law_answer_spec", "_law_answer_spec", defArgs s34, defBody s34, defScope s34, [], []⟩
noncomputable abbrev s35 : Stmt := inCls (top 31) 8
noncomputable abbrev n35 : List PySem.Str := ["self", "other", "sure"]
noncomputable abbrev p35 : List PySem.Str := ["self", "other"]
noncomputable def D35 : He5.DefA := ⟨fun K => He.ma K (He.ga K "Answer") "__and__", "__and__", "Answer.__and__", defArgs s35, defBody s35, defScope s35, [], []⟩
noncomputable abbrev s36 : Stmt := inCls (top 31) 9
noncomputable abbrev n36 : List PySem.Str := ["self", "other", "sure"]
noncomputable abbrev p36 : List PySem.Str := ["self", "other"]
noncomputable def D36 : He5.DefA := ⟨fun K => He.ma K (He.ga K "Answer") "__or__", "__or__", "Answer.__or__", defArgs s36, defBody s36, defScope s36, [], []⟩
noncomputable abbrev s37 : Stmt := inCls (top 31) 10
noncomputable abbrev n37 : List PySem.Str := ["self"]
noncomputable abbrev p37 : List PySem.Str := ["self"]
noncomputable def D37 : He5.DefA := ⟨fun K => He.ma K (He.ga K "Answer") "__invert__", "__invert__", "Answer.__invert__", defArgs s37, defBody s37, defScope s37, [], []⟩
noncomputable abbrev s103 : Stmt := top 42
noncomputable abbrev n103 : List PySem.Str := ["_law_specs", "_law_at"]
noncomputable abbrev p103 : List PySem.Str := ["_law_specs", "_law_at"]
noncomputable def D103 : He5.DefA := ⟨fun K => He.ga K "_law_word_at", "_law_word_at", "_law_word_at", defArgs s103, defBody s103, defScope s103, [], []⟩
noncomputable abbrev s104 : Stmt := top 44
noncomputable abbrev n104 : List PySem.Str := ["_law_word", "_law_late"]
noncomputable abbrev p104 : List PySem.Str := ["_law_word", "_law_late"]
noncomputable def D104 : He5.DefA := ⟨fun K => He.ga K "_law_both", "_law_both", "_law_both", defArgs s104, defBody s104, defScope s104, [], []⟩
noncomputable abbrev s105 : Stmt := top 45
noncomputable abbrev n105 : List PySem.Str := ["_law_word"]
noncomputable abbrev p105 : List PySem.Str := ["_law_word"]
noncomputable def D105 : He5.DefA := ⟨fun K => He.ga K "_law_not", "_law_not", "_law_not", defArgs s105, defBody s105, defScope s105, [], []⟩
noncomputable abbrev s99 : Stmt := inCls (top 25) 9
noncomputable abbrev n99 : List PySem.Str := ["self", "value"]
noncomputable abbrev p99 : List PySem.Str := ["self", "value"]
noncomputable def D99 : He5.DefA := ⟨fun K => He.ma K (He.ga K "Rounds") "__contains__", "__contains__", "Rounds.__contains__", defArgs s99, defBody s99, defScope s99, [], []⟩
noncomputable abbrev s106 : Stmt := inCls (top 31) 1
noncomputable abbrev n106 : List PySem.Str := ["self"]
noncomputable abbrev p106 : List PySem.Str := ["self"]
noncomputable def D106 : He5.DefA := ⟨fun K => He5.wf K (He.ga K "Answer") "property" "out", "out", "Answer.out", defArgs s106, defBody s106, defScope s106, [], []⟩
noncomputable abbrev s107 : Stmt := inCls (top 31) 11
noncomputable abbrev n107 : List PySem.Str := ["self", "other"]
noncomputable abbrev p107 : List PySem.Str := ["self", "other"]
noncomputable def D107 : He5.DefA := ⟨fun K => He.ma K (He.ga K "Answer") "__eq__", "__eq__", "Answer.__eq__", defArgs s107, defBody s107, defScope s107, [], []⟩
noncomputable abbrev s5 : Stmt := top 38
noncomputable abbrev n5 : List PySem.Str := ["_law_spec", "_law_late", "_law_at"]
noncomputable abbrev p5 : List PySem.Str := ["_law_spec"]
noncomputable def D5 : He5.DefA := ⟨fun K => He.ga K "_law_least_spec", "_law_least_spec", "_law_least_spec", defArgs s5, defBody s5, defScope s5, [], []⟩
noncomputable abbrev s8 : Stmt := top 40
noncomputable abbrev n8 : List PySem.Str := ["_law_spec", "_law_words", "_law_at"]
noncomputable abbrev p8 : List PySem.Str := ["_law_spec"]
noncomputable def D8 : He5.DefA := ⟨fun K => He.ga K "_law_rounds_text", "_law_rounds_text", "_law_rounds_text", defArgs s8, defBody s8, defScope s8, [], []⟩
noncomputable abbrev s13 : Stmt := top 36
noncomputable abbrev n13 : List PySem.Str := ["_law_found", "_law_due", "_law_key", "_law_a", "_law_b"]
noncomputable abbrev p13 : List PySem.Str := ["_law_found", "_law_due"]
noncomputable def D13 : He5.DefA := ⟨fun K => He.ga K "_law_same", "_law_same", "_law_same", defArgs s13, defBody s13, defScope s13, [], []⟩
noncomputable abbrev s108 : Stmt := inCls (top 31) 12
noncomputable abbrev n108 : List PySem.Str := ["self"]
noncomputable abbrev p108 : List PySem.Str := ["self"]
noncomputable def D108 : He5.DefA := ⟨fun K => He.ma K (He.ga K "Answer") "text", "text", "Answer.text", defArgs s108, defBody s108, defScope s108, [], []⟩
noncomputable abbrev s109 : Stmt := inCls (top 31) 13
noncomputable abbrev n109 : List PySem.Str := ["self"]
noncomputable abbrev p109 : List PySem.Str := ["self"]
noncomputable def D109 : He5.DefA := ⟨fun K => He.ma K (He.ga K "Answer") "__repr__", "__repr__", "Answer.__repr__", defArgs s109, defBody s109, defScope s109, [], []⟩
noncomputable abbrev s110 : Stmt := inCls (top 31) 2
noncomputable abbrev n110 : List PySem.Str := ["self"]
noncomputable abbrev p110 : List PySem.Str := ["self"]
noncomputable def D110 : He5.DefA := ⟨fun K => He5.wf K (He.ga K "Answer") "property" "settled", "settled", "Answer.settled", defArgs s110, defBody s110, defScope s110, [], []⟩
noncomputable abbrev s10 : Stmt := inCls (top 25) 28
noncomputable abbrev n10 : List PySem.Str := ["self", "words", "one", "at"]
noncomputable abbrev p10 : List PySem.Str := ["self"]
noncomputable def D10 : He5.DefA := ⟨fun K => He.ma K (He.ga K "Rounds") "text", "text", "Rounds.text", defArgs s10, defBody s10, defScope s10, [], []⟩
noncomputable abbrev s15 : Stmt := top 34
noncomputable abbrev n15 : List PySem.Str := ["_law_bag_here", "_law_many", "_law_cell", "_law_digit", "_law_twice"]
noncomputable abbrev p15 : List PySem.Str := ["_law_bag_here", "_law_many"]
noncomputable def D15 : He5.DefA := ⟨fun K => He.ga K "_law_take", "_law_take", "_law_take", defArgs s15, defBody s15, defScope s15, [], []⟩
noncomputable abbrev s17 : Stmt := top 35
noncomputable abbrev n17 : List PySem.Str := ["_law_bag_here", "_law_things"]
noncomputable abbrev p17 : List PySem.Str := ["_law_bag_here", "_law_things"]
noncomputable def D17 : He5.DefA := ⟨fun K => He.ga K "_law_of", "_law_of", "_law_of", defArgs s17, defBody s17, defScope s17, [], []⟩
noncomputable abbrev s12 : Stmt := inCls (top 25) 16
noncomputable abbrev n12 : List PySem.Str := ["self"]
noncomputable abbrev p12 : List PySem.Str := ["self"]
noncomputable def D12 : He5.DefA := ⟨fun K => He.ma K (He.ga K "Rounds") "__bool__", "__bool__", "Rounds.__bool__", defArgs s12, defBody s12, defScope s12, [], []⟩
noncomputable abbrev s40 : Stmt := inCls (top 25) 10
noncomputable abbrev n40 : List PySem.Str := ["self", "other"]
noncomputable abbrev p40 : List PySem.Str := ["self", "other"]
noncomputable def D40 : He5.DefA := ⟨fun K => He.ma K (He.ga K "Rounds") "__and__", "__and__", "Rounds.__and__", defArgs s40, defBody s40, defScope s40, [], []⟩
noncomputable abbrev s4 : Stmt := inCls (top 25) 1
noncomputable abbrev n4 : List PySem.Str := ["self", "period", "classes", "odd", "at"]
noncomputable abbrev p4 : List PySem.Str := ["self", "period", "classes", "odd"]
noncomputable def df4_0 (K : PySem.W.Frag) : Addr := match K.lookup ((fun K => He.ma K (He.ga K "Rounds") "__init__") K) with
  | some ⟨_, _, .func fd, _⟩ => (match fd.defaults with
    | .ref T => (match K.lookup T with
      | some ⟨_, _, .seq its _, _⟩ => (match its.toList[0]? with
        | some (PySem.Value.ref a) => a
        | _ => 0)
      | _ => 0)
    | _ => 0)
  | _ => 0
noncomputable def D4 : He5.DefA := ⟨fun K => He.ma K (He.ga K "Rounds") "__init__", "__init__", "Rounds.__init__", defArgs s4, defBody s4, defScope s4, [.adr df4_0], []⟩
noncomputable abbrev s9 : Stmt := inCls (top 25) 5
noncomputable abbrev n9 : List PySem.Str := ["self"]
noncomputable abbrev p9 : List PySem.Str := ["self"]
noncomputable def D9 : He5.DefA := ⟨fun K => He5.wf K (He.ga K "Rounds") "property" "period", "period", "Rounds.period", defArgs s9, defBody s9, defScope s9, [], []⟩
noncomputable abbrev s6 : Stmt := inCls (top 25) 6
noncomputable abbrev n6 : List PySem.Str := ["self"]
noncomputable abbrev p6 : List PySem.Str := ["self"]
noncomputable def D6 : He5.DefA := ⟨fun K => He.ma K (He.ga K "Rounds") "classes", "classes", "Rounds.classes", defArgs s6, defBody s6, defScope s6, [], []⟩
noncomputable abbrev s7 : Stmt := inCls (top 25) 7
noncomputable abbrev n7 : List PySem.Str := ["self"]
noncomputable abbrev p7 : List PySem.Str := ["self"]
noncomputable def D7 : He5.DefA := ⟨fun K => He.ma K (He.ga K "Rounds") "odd", "odd", "Rounds.odd", defArgs s7, defBody s7, defScope s7, [], []⟩
noncomputable abbrev s98 : Stmt := inCls (top 25) 11
noncomputable abbrev n98 : List PySem.Str := ["self", "other"]
noncomputable abbrev p98 : List PySem.Str := ["self", "other"]
noncomputable def D98 : He5.DefA := ⟨fun K => He.ma K (He.ga K "Rounds") "__or__", "__or__", "Rounds.__or__", defArgs s98, defBody s98, defScope s98, [], []⟩
noncomputable abbrev s41 : Stmt := inCls (top 25) 13
noncomputable abbrev n41 : List PySem.Str := ["self", "other"]
noncomputable abbrev p41 : List PySem.Str := ["self", "other"]
noncomputable def D41 : He5.DefA := ⟨fun K => He.ma K (He.ga K "Rounds") "__sub__", "__sub__", "Rounds.__sub__", defArgs s41, defBody s41, defScope s41, [], []⟩
noncomputable abbrev s43 : Stmt := inCls (top 25) 14
noncomputable abbrev n43 : List PySem.Str := ["self", "left", "at"]
noncomputable abbrev p43 : List PySem.Str := ["self"]
noncomputable def D43 : He5.DefA := ⟨fun K => He.ma K (He.ga K "Rounds") "__invert__", "__invert__", "Rounds.__invert__", defArgs s43, defBody s43, defScope s43, [], []⟩
noncomputable abbrev s39 : Stmt := top 37
noncomputable abbrev n39 : List PySem.Str := ["_law_spec", "_law_at"]
noncomputable abbrev p39 : List PySem.Str := ["_law_spec", "_law_at"]
noncomputable def D39 : He5.DefA := ⟨fun K => He.ga K "_law_has", "_law_has", "_law_has", defArgs s39, defBody s39, defScope s39, [], []⟩
noncomputable abbrev s22 : Stmt := top 18
noncomputable abbrev n22 : List PySem.Str := ["value"]
noncomputable abbrev p22 : List PySem.Str := ["value"]
noncomputable def D22 : He5.DefA := ⟨fun K => He.ga K "is_whole", "is_whole", "is_whole", defArgs s22, defBody s22, defScope s22, [], []⟩
noncomputable abbrev s100 : Stmt := inCls (top 25) 8
noncomputable abbrev n100 : List PySem.Str := ["self", "at"]
noncomputable abbrev p100 : List PySem.Str := ["self", "at"]
noncomputable def D100 : He5.DefA := ⟨fun K => He.ma K (He.ga K "Rounds") "has", "has", "Rounds.has", defArgs s100, defBody s100, defScope s100, [], []⟩
noncomputable abbrev s16 : Stmt := inCls (top 25) 15
noncomputable abbrev n16 : List PySem.Str := ["self", "other"]
noncomputable abbrev p16 : List PySem.Str := ["self", "other"]
noncomputable def D16 : He5.DefA := ⟨fun K => He.ma K (He.ga K "Rounds") "__eq__", "__eq__", "Rounds.__eq__", defArgs s16, defBody s16, defScope s16, [], []⟩
noncomputable abbrev s46 : Stmt := top 28
noncomputable abbrev n46 : List PySem.Str := ["one", "other", "keep", "period", "first", "at", "second", "classes", "kept", "both", "odd"]
noncomputable abbrev p46 : List PySem.Str := ["one", "other", "keep"]
noncomputable def D46 : He5.DefA := ⟨fun K => He.ga K "combined", "combined", "combined", defArgs s46, defBody s46, defScope s46, [], []⟩
noncomputable abbrev s18 : Stmt := top 19
noncomputable abbrev n18 : List PySem.Str := ["value", "least", "most"]
noncomputable abbrev p18 : List PySem.Str := ["value", "least", "most"]
noncomputable def D18 : He5.DefA := ⟨fun K => He.ga K "is_number", "is_number", "is_number", defArgs s18, defBody s18, defScope s18, [], []⟩
noncomputable abbrev s19 : Stmt := top 20
noncomputable abbrev n19 : List PySem.Str := ["value"]
noncomputable abbrev p19 : List PySem.Str := ["value"]
noncomputable def D19 : He5.DefA := ⟨fun K => He.ga K "is_list", "is_list", "is_list", defArgs s19, defBody s19, defScope s19, [], []⟩
noncomputable abbrev s20 : Stmt := top 22
noncomputable abbrev n20 : List PySem.Str := ["rows", "least", "most", "at", "item"]
noncomputable abbrev p20 : List PySem.Str := ["rows", "least", "most"]
noncomputable def D20 : He5.DefA := ⟨fun K => He.ga K "first_fault", "first_fault", "first_fault", defArgs s20, defBody s20, defScope s20, [], []⟩
noncomputable abbrev s21 : Stmt := top 26
noncomputable abbrev n21 : List PySem.Str := ["period", "classes", "known", "one", "late", "short"]
noncomputable abbrev p21 : List PySem.Str := ["period", "classes"]
noncomputable def D21 : He5.DefA := ⟨fun K => He.ga K "least_pattern", "least_pattern", "least_pattern", defArgs s21, defBody s21, defScope s21, [], []⟩
noncomputable abbrev s47 : Stmt := top 27
noncomputable abbrev n47 : List PySem.Str := ["period", "classes", "odd"]
noncomputable abbrev p47 : List PySem.Str := ["period", "classes", "odd"]
noncomputable def D47 : He5.DefA := ⟨fun K => He.ga K "rounds_of", "rounds_of", "rounds_of", defArgs s47, defBody s47, defScope s47, [], []⟩
noncomputable def tabL : List (Nat × (He5.DefA × List PySem.Str)) := [(31, (D31, p31)), (2, (D2, p2)), (32, (D32, p32)), (33, (D33, p33)), (24, (D24, p24)), (34, (D34, p34)), (35, (D35, p35)), (36, (D36, p36)), (37, (D37, p37)), (103, (D103, p103)), (104, (D104, p104)), (105, (D105, p105)), (99, (D99, p99)), (106, (D106, p106)), (107, (D107, p107)), (5, (D5, p5)), (8, (D8, p8)), (13, (D13, p13)), (108, (D108, p108)), (109, (D109, p109)), (110, (D110, p110)), (10, (D10, p10)), (15, (D15, p15)), (17, (D17, p17)), (12, (D12, p12)), (40, (D40, p40)), (4, (D4, p4)), (9, (D9, p9)), (6, (D6, p6)), (7, (D7, p7)), (98, (D98, p98)), (41, (D41, p41)), (43, (D43, p43)), (39, (D39, p39)), (22, (D22, p22)), (100, (D100, p100)), (16, (D16, p16)), (46, (D46, p46)), (18, (D18, p18)), (19, (D19, p19)), (20, (D20, p20)), (21, (D21, p21)), (47, (D47, p47))]
noncomputable def tab (f : Nat) : Option (He5.DefA × List PySem.Str) := tabL.lookup f
noncomputable def fx : List Fx := [.glo "_law_bag",
  .glo "_law_some_answer",
  .glo "Answer",
  .mkr "Answer",
  .glo "_law_rounds",
  .cls "Answer",
  .self1 "Answer",
  .meth "Answer" "__and__",
  .glo "_law_answer_spec",
  .meth "Answer" "__or__",
  .meth "Answer" "__invert__",
  .free "list",
  .free "range",
  .glo "_law_word_at",
  .glo "_law_both",
  .glo "_law_not",
  .prop "Answer" "out",
  .meth "Rounds" "__contains__",
  .cls "Rounds",
  .meth "Answer" "__eq__",
  .ne "Answer",
  .glo "_law_least_spec",
  .glo "_law_rounds_text",
  .meth "Answer" "text",
  .meth "Answer" "__repr__",
  .free "repr",
  .prop "Answer" "settled",
  .noat "Answer" "sure",
  .meth "Rounds" "text",
  .noat "Answer" "unsure",
  .glo "_law_same",
  .free "int",
  .glo "_law_of",
  .glo "_law_take",
  .free "dict",
  .free "sorted",
  .self1 "Rounds",
  .meth "Rounds" "__and__",
  .meth "Rounds" "__bool__",
  .glo "Rounds",
  .mkr "Rounds",
  .prop "Rounds" "period",
  .meth "Rounds" "classes",
  .meth "Rounds" "odd",
  .meth "Rounds" "__or__",
  .meth "Rounds" "__sub__",
  .meth "Rounds" "__invert__",
  .glo "_law_has",
  .glo "is_whole",
  .meth "Rounds" "has",
  .free "isinstance",
  .kty "Answer",
  .kown "Answer" "Answer" true,
  .kown "Rounds" "Answer" false,
  .meth "Rounds" "__eq__",
  .free "all",
  .free "str",
  .free "tuple",
  .free "len",
  .free "zip",
  .free "bool",
  .noat "Rounds" "own_classes",
  .noat "Rounds" "own_period",
  .noat "Rounds" "own_odd",
  .free "abs",
  .glo "combined",
  .glo "is_number",
  .glo "is_list",
  .glo "first_fault",
  .glo "least_pattern",
  .glo "rounds_of",
  .kty "Rounds",
  .kown "Rounds" "Rounds" true,
  .bfun "lcm" "math.lcm",
  .free "set",
  .free "enumerate",
  .glo "law",
  .val df4_0 (.tup [])]
noncomputable def gk : List (PySem.Str × T) := [("MOST_PERIOD", (.int 5040))]
noncomputable def cn0 : List PySem.Str := ["Rounds", "RoundError", "InvalidText", "InvalidPeriod", "InvalidClass", "InvalidOdd", "InvalidRound", "TooLong", "Missing", "UnknownRound", "Paper", "Whole", "Open", "Barred", "Lone", "Answer"]
noncomputable def cn1 : List PySem.Str := ["Loop", "InvalidNumber", "InvalidName", "InvalidPairs", "InvalidRow", "NoRow", "InvalidModulus", "InvalidPaper", "NotHeld", "InvalidAnswer", "InvalidStart", "InvalidPhase", "InvalidLoop", "InvalidBlock", "InvalidDeed", "InvalidPage"]
noncomputable def cn2 : List PySem.Str := ["DuplicateName", "DifferentNames", "Unsettled", "NeverTrue", "TooFar", "NothingLeft", "Equal", "At", "Not", "And", "Or", "Pair", "Book", "UnknownName", "Form", "Formula"]
noncomputable def cn3 : List PySem.Str := ["Draft"]
noncomputable def cn : List PySem.Str := cn0 ++ cn1 ++ cn2 ++ cn3
theorem bn2_1 : Bnd D2 p2 fx 1 [] := bnd_all rfl fun _ _ _ _ _ _ us hl => match us, hl with | [_], _ => rfl
theorem bn32_1 : Bnd D32 p32 fx 1 [] := bnd_all rfl fun _ _ _ _ _ _ us hl => match us, hl with | [_], _ => rfl
theorem bn24_1 : Bnd D24 p24 fx 1 [] := bnd_all rfl fun _ _ _ _ _ _ us hl => match us, hl with | [_], _ => rfl
theorem bn33_3 : Bnd D33 p33 fx 3 [] := bnd_all rfl fun _ _ _ _ _ _ us hl => match us, hl with | [_, _, _], _ => rfl
theorem bn35_2 : Bnd D35 p35 fx 2 [] := bnd_all rfl fun _ _ _ _ _ _ us hl => match us, hl with | [_, _], _ => rfl
theorem bn34_1 : Bnd D34 p34 fx 1 [] := bnd_all rfl fun _ _ _ _ _ _ us hl => match us, hl with | [_], _ => rfl
theorem bn36_2 : Bnd D36 p36 fx 2 [] := bnd_all rfl fun _ _ _ _ _ _ us hl => match us, hl with | [_, _], _ => rfl
theorem bn37_1 : Bnd D37 p37 fx 1 [] := bnd_all rfl fun _ _ _ _ _ _ us hl => match us, hl with | [_], _ => rfl
theorem bn103_2 : Bnd D103 p103 fx 2 [] := bnd_all rfl fun _ _ _ _ _ _ us hl => match us, hl with | [_, _], _ => rfl
theorem bn104_2 : Bnd D104 p104 fx 2 [] := bnd_all rfl fun _ _ _ _ _ _ us hl => match us, hl with | [_, _], _ => rfl
theorem bn105_1 : Bnd D105 p105 fx 1 [] := bnd_all rfl fun _ _ _ _ _ _ us hl => match us, hl with | [_], _ => rfl
theorem bn106_1 : Bnd D106 p106 fx 1 [] := bnd_all rfl fun _ _ _ _ _ _ us hl => match us, hl with | [_], _ => rfl
theorem bn99_2 : Bnd D99 p99 fx 2 [] := bnd_all rfl fun _ _ _ _ _ _ us hl => match us, hl with | [_, _], _ => rfl
theorem bn107_2 : Bnd D107 p107 fx 2 [] := bnd_all rfl fun _ _ _ _ _ _ us hl => match us, hl with | [_, _], _ => rfl
theorem bn5_1 : Bnd D5 p5 fx 1 [] := bnd_all rfl fun _ _ _ _ _ _ us hl => match us, hl with | [_], _ => rfl
theorem bn8_1 : Bnd D8 p8 fx 1 [] := bnd_all rfl fun _ _ _ _ _ _ us hl => match us, hl with | [_], _ => rfl
theorem bn108_1 : Bnd D108 p108 fx 1 [] := bnd_all rfl fun _ _ _ _ _ _ us hl => match us, hl with | [_], _ => rfl
theorem bn109_1 : Bnd D109 p109 fx 1 [] := bnd_all rfl fun _ _ _ _ _ _ us hl => match us, hl with | [_], _ => rfl
theorem bn110_1 : Bnd D110 p110 fx 1 [] := bnd_all rfl fun _ _ _ _ _ _ us hl => match us, hl with | [_], _ => rfl
theorem bn10_1 : Bnd D10 p10 fx 1 [] := bnd_all rfl fun _ _ _ _ _ _ us hl => match us, hl with | [_], _ => rfl
theorem bn13_2 : Bnd D13 p13 fx 2 [] := bnd_all rfl fun _ _ _ _ _ _ us hl => match us, hl with | [_, _], _ => rfl
theorem bn17_2 : Bnd D17 p17 fx 2 [] := bnd_all rfl fun _ _ _ _ _ _ us hl => match us, hl with | [_, _], _ => rfl
theorem bn15_2 : Bnd D15 p15 fx 2 [] := bnd_all rfl fun _ _ _ _ _ _ us hl => match us, hl with | [_, _], _ => rfl
theorem bn40_2 : Bnd D40 p40 fx 2 [] := bnd_all rfl fun _ _ _ _ _ _ us hl => match us, hl with | [_, _], _ => rfl
theorem bn12_1 : Bnd D12 p12 fx 1 [] := bnd_all rfl fun _ _ _ _ _ _ us hl => match us, hl with | [_], _ => rfl
theorem bn4_4 : Bnd D4 p4 fx 4 [] := bnd_dfl (j := 1) (by intro h; cases h) rfl (fun G hf w => .nil) fun T kV doc pm an cdv ct us its hu hi => match us, its, hu, hi with | [_, _, _, _], [_], _, _ => ⟨_, rfl, rfl⟩
theorem bn9_1 : Bnd D9 p9 fx 1 [] := bnd_all rfl fun _ _ _ _ _ _ us hl => match us, hl with | [_], _ => rfl
theorem bn6_1 : Bnd D6 p6 fx 1 [] := bnd_all rfl fun _ _ _ _ _ _ us hl => match us, hl with | [_], _ => rfl
theorem bn7_1 : Bnd D7 p7 fx 1 [] := bnd_all rfl fun _ _ _ _ _ _ us hl => match us, hl with | [_], _ => rfl
theorem bn98_2 : Bnd D98 p98 fx 2 [] := bnd_all rfl fun _ _ _ _ _ _ us hl => match us, hl with | [_, _], _ => rfl
theorem bn41_2 : Bnd D41 p41 fx 2 [] := bnd_all rfl fun _ _ _ _ _ _ us hl => match us, hl with | [_, _], _ => rfl
theorem bn43_1 : Bnd D43 p43 fx 1 [] := bnd_all rfl fun _ _ _ _ _ _ us hl => match us, hl with | [_], _ => rfl
theorem bn39_2 : Bnd D39 p39 fx 2 [] := bnd_all rfl fun _ _ _ _ _ _ us hl => match us, hl with | [_, _], _ => rfl
theorem bn22_1 : Bnd D22 p22 fx 1 [] := bnd_all rfl fun _ _ _ _ _ _ us hl => match us, hl with | [_], _ => rfl
theorem bn100_2 : Bnd D100 p100 fx 2 [] := bnd_all rfl fun _ _ _ _ _ _ us hl => match us, hl with | [_, _], _ => rfl
theorem bn16_2 : Bnd D16 p16 fx 2 [] := bnd_all rfl fun _ _ _ _ _ _ us hl => match us, hl with | [_, _], _ => rfl
theorem bn46_3 : Bnd D46 p46 fx 3 [] := bnd_all rfl fun _ _ _ _ _ _ us hl => match us, hl with | [_, _, _], _ => rfl
theorem bn18_3 : Bnd D18 p18 fx 3 [] := bnd_all rfl fun _ _ _ _ _ _ us hl => match us, hl with | [_, _, _], _ => rfl
theorem bn19_1 : Bnd D19 p19 fx 1 [] := bnd_all rfl fun _ _ _ _ _ _ us hl => match us, hl with | [_], _ => rfl
theorem bn20_3 : Bnd D20 p20 fx 3 [] := bnd_all rfl fun _ _ _ _ _ _ us hl => match us, hl with | [_, _, _], _ => rfl
theorem bn21_2 : Bnd D21 p21 fx 2 [] := bnd_all rfl fun _ _ _ _ _ _ us hl => match us, hl with | [_, _], _ => rfl
theorem bn47_3 : Bnd D47 p47 fx 3 [] := bnd_all rfl fun _ _ _ _ _ _ us hl => match us, hl with | [_, _, _], _ => rfl
theorem kb33_1_0 : KBnd D33 p33 ["unsure", "sure"] [1, 0] := ⟨rfl, fun F => ⟨_, _, kbindsN F 1 ["unsure", "sure"] (fun {_} us ws => match ws with | [a0, a1] => us ++ [a1, a0] | _ => us) (fun {vs zs us ws} r1 r3 => by
    match zs, ws, r3 with
    | [_, _], [_, _], .cons a0 (.cons a1 (.nil)) => exact r1.append (.cons a1 (.cons a0 (.nil)))
    | [], [], _ => exact r1
    | [_], [_], _ => exact r1
    | _ :: _ :: _ :: _, _ :: _ :: _ :: _, _ => exact r1)
    (fun kV doc pm an cdv ct us ws hu hw => match us, ws, hu, hw with | [_], [_, _], _, _ => by kernel_rfl), fun x zs hz => match zs, hz with | [_, _], _ => rfl⟩⟩
theorem ki15_0 : KitI fx cn 15 "Answer" [15] [0] := ⟨⟨51, rfl⟩,
  fun c h => by
    simp only [List.mem_cons, List.not_mem_nil, or_false] at h
    rcases h with rfl
    · exact ⟨"Answer", 52, 5, rfl, rfl, rfl⟩,
  fun c h => by
    simp only [List.mem_cons, List.not_mem_nil, or_false] at h
    rcases h with rfl
    · exact ⟨"Rounds", 53, 18, rfl, rfl, rfl⟩⟩
theorem ki0_ : KitI fx cn 0 "Rounds" [0] [] := ⟨⟨71, rfl⟩,
  fun c h => by
    simp only [List.mem_cons, List.not_mem_nil, or_false] at h
    rcases h with rfl
    · exact ⟨"Rounds", 72, 18, rfl, rfl, rfl⟩,
  fun _ h => absurd h (by simp)⟩
section
variable {P : Program} {w : World} {mg : PySem.Str → Option Value} {base : Heap} {k : Nat} {G : Gm} {cal : Nat → List Slot → CRes} {L : Nat} {fa : Addr}
theorem b31 (e : GQ tab fx gk cn P w G.K mg base k G cal) : BodyOk G P w G.K mg base n31 d31.io "law" (defScope s31) fa (defBody s31) k cal L d31.body := fun cdv A outer s H E C hG hfx c hp => by
  subst hG
  exact (st_cons (w_set c (nf hfx) (x_call c (q_fn e (f := 2) (i := 0) rfl rfl rfl bn2_1) (a_cons x_var a_nil)))
  (st_cons (w_par c ⟨nf hfx, nf hfx⟩ (a_cons (x_call c (q_fn e (f := 32) (i := 1) rfl rfl rfl bn32_1) (a_cons x_var a_nil)) (a_cons (x_call c (q_fn e (f := 32) (i := 1) rfl rfl rfl bn32_1) (a_cons x_var a_nil)) a_nil)))
  (st_cons (w_par c ⟨nf hfx, nf hfx⟩ (a_cons (q_mk c e (cl := 15) rfl (ig := 2) rfl (im := 3) rfl (f := 33) rfl rfl bn33_3 (a_cons (x_call c (q_fn e (f := 24) (i := 4) rfl rfl rfl bn24_1) (a_cons (x_idx c x_var x_int) a_nil)) (a_cons (x_call c (q_fn e (f := 24) (i := 4) rfl rfl rfl bn24_1) (a_cons (x_idx c x_var x_int) a_nil)) a_nil))) (a_cons (q_mkK c e (cl := 15) rfl (ig := 2) rfl (im := 3) rfl (f := 33) rfl rfl kb33_1_0 rfl (k_cons (x_call c (q_fn e (f := 24) (i := 4) rfl rfl rfl bn24_1) (a_cons (x_idx c x_var x_int) a_nil)) (k_cons (x_call c (q_fn e (f := 24) (i := 4) rfl rfl rfl bn24_1) (a_cons (x_idx c x_var x_int) a_nil)) k_nil))) a_nil)))
  (st_cons (w_set c (nf hfx) (x_lst (a_cons (x_call c (q_fn e (f := 34) (i := 8) rfl rfl rfl bn34_1) (a_cons (q_bop c e (m := "__and__") rfl (cl := 15) rfl (is := 6) rfl (im := 7) rfl (f := 35) rfl rfl bn35_2 x_var x_var) a_nil)) (a_cons (x_call c (q_fn e (f := 34) (i := 8) rfl rfl rfl bn34_1) (a_cons (q_bop c e (m := "__or__") rfl (cl := 15) rfl (is := 6) rfl (im := 9) rfl (f := 36) rfl rfl bn36_2 x_var x_var) a_nil)) (a_cons (x_call c (q_fn e (f := 34) (i := 8) rfl rfl rfl bn34_1) (a_cons (q_inv c e (cl := 15) rfl (im := 10) rfl (f := 37) rfl rfl bn37_1 x_var) a_nil)) (a_cons (x_call c (q_fn e (f := 34) (i := 8) rfl rfl rfl bn34_1) (a_cons (q_inv c e (cl := 15) rfl (im := 10) rfl (f := 37) rfl rfl bn37_1 (q_bop c e (m := "__and__") rfl (cl := 15) rfl (is := 6) rfl (im := 7) rfl (f := 35) rfl rfl bn35_2 x_var (q_inv c e (cl := 15) rfl (im := 10) rfl (f := 37) rfl rfl bn37_1 x_var))) a_nil)) a_nil))))))
  (st_cons (w_fr c hp gp_name (nfs hfx) (pg_name c.nd rfl (by first | exact Or.inl rfl | exact Or.inr rfl)) (i_any c (x_bin b_add (x_lr1 c (q_fr e 11 rfl) (q_fr e 12 rfl) x_int) (x_comp c gp_name (blkOk_by (own := [("_law_k", 8)]) (by rfl)) (i_rng1 c (q_fr e 12 rfl) x_int) (fun _ _ _ _ _ => (pg_name c.nd rfl (by first | exact Or.inl rfl | exact Or.inr rfl))) (fun _ _ _ _ _ c1 => f_nil) (fun _ _ _ _ _ c1 => (x_bin b_add (x_bin b_pow x_int x_int) x_var))))) (st_cons (w_par c ⟨nf hfx, nf hfx⟩ (a_cons (x_call c (q_fn e (f := 103) (i := 13) rfl rfl rfl bn103_2) (a_cons x_var (a_cons x_var a_nil))) (a_cons (x_call c (q_fn e (f := 103) (i := 13) rfl rfl rfl bn103_2) (a_cons x_var (a_cons x_var a_nil))) a_nil)))
  (st_cons (w_set c (nf hfx) (x_lst (a_cons (x_call c (q_fn e (f := 104) (i := 14) rfl rfl rfl bn104_2) (a_cons x_var (a_cons x_var a_nil))) (a_cons (x_call c (q_fn e (f := 105) (i := 15) rfl rfl rfl bn105_1) (a_cons (x_call c (q_fn e (f := 104) (i := 14) rfl rfl rfl bn104_2) (a_cons (x_call c (q_fn e (f := 105) (i := 15) rfl rfl rfl bn105_1) (a_cons x_var a_nil)) (a_cons (x_call c (q_fn e (f := 105) (i := 15) rfl rfl rfl bn105_1) (a_cons x_var a_nil)) a_nil))) a_nil)) (a_cons (x_call c (q_fn e (f := 105) (i := 15) rfl rfl rfl bn105_1) (a_cons x_var a_nil)) (a_cons (x_call c (q_fn e (f := 105) (i := 15) rfl rfl rfl bn105_1) (a_cons (x_call c (q_fn e (f := 104) (i := 14) rfl rfl rfl bn104_2) (a_cons x_var (a_cons (x_call c (q_fn e (f := 105) (i := 15) rfl rfl rfl bn105_1) (a_cons x_var a_nil)) a_nil))) a_nil)) a_nil))))))
  (st_cons (w_ife (PW.pt (z_or (y_cmp (c_ne c) (x_comp c gp_name (blkOk_by (own := [("_law_part", 12)]) (by rfl)) (i_any c x_var) (fun _ _ _ _ _ => (pg_name c.nd rfl (by first | exact Or.inl rfl | exact Or.inr rfl))) (fun _ _ _ _ _ c1 => f_nil) (fun _ _ _ _ _ c1 => (x_call c1 (q_fn e (f := 103) (i := 13) rfl rfl rfl bn103_2) (a_cons x_var (a_cons x_var a_nil))))) x_var) (z_or1 (y_cmp (c_ne c) (q_inn c e (cl := 0) rfl (im := 17) rfl (f := 99) rfl rfl bn99_2 x_var (q_prop c e (cl := 15) rfl (ic := 5) rfl (i := 16) rfl (f := 106) rfl rfl bn106_1 x_var)) (x_cmp (c_eq c) x_var x_str))))) (st_cons (w_ret x_bl)
  st_nil) st_nil)
  st_nil))))
  (st_cons (w_ife (PW.pt (z_or (q_cneT c e (cl := 15) rfl (ic := 5) rfl (im := 19) rfl (ine := 20) rfl (f := 107) rfl rfl bn107_2 (q_inv c e (cl := 15) rfl (im := 10) rfl (f := 37) rfl rfl bn37_1 (q_inv c e (cl := 15) rfl (im := 10) rfl (f := 37) rfl rfl bn37_1 x_var)) x_var) (z_or (q_cneT c e (cl := 15) rfl (ic := 5) rfl (im := 19) rfl (ine := 20) rfl (f := 107) rfl rfl bn107_2 (q_bop c e (m := "__and__") rfl (cl := 15) rfl (is := 6) rfl (im := 7) rfl (f := 35) rfl rfl bn35_2 x_var x_var) x_var) (z_or (q_cneT c e (cl := 15) rfl (ic := 5) rfl (im := 19) rfl (ine := 20) rfl (f := 107) rfl rfl bn107_2 (q_bop c e (m := "__or__") rfl (cl := 15) rfl (is := 6) rfl (im := 9) rfl (f := 36) rfl rfl bn36_2 x_var x_var) x_var) (z_or (q_cneT c e (cl := 15) rfl (ic := 5) rfl (im := 19) rfl (ine := 20) rfl (f := 107) rfl rfl bn107_2 (q_inv c e (cl := 15) rfl (im := 10) rfl (f := 37) rfl rfl bn37_1 (q_bop c e (m := "__and__") rfl (cl := 15) rfl (is := 6) rfl (im := 7) rfl (f := 35) rfl rfl bn35_2 x_var x_var)) (q_bop c e (m := "__or__") rfl (cl := 15) rfl (is := 6) rfl (im := 9) rfl (f := 36) rfl rfl bn36_2 (q_inv c e (cl := 15) rfl (im := 10) rfl (f := 37) rfl rfl bn37_1 x_var) (q_inv c e (cl := 15) rfl (im := 10) rfl (f := 37) rfl rfl bn37_1 x_var))) (z_or1 (q_cneT c e (cl := 15) rfl (ic := 5) rfl (im := 19) rfl (ine := 20) rfl (f := 107) rfl rfl bn107_2 (q_bop c e (m := "__and__") rfl (cl := 15) rfl (is := 6) rfl (im := 7) rfl (f := 35) rfl rfl bn35_2 x_var x_var) (q_bop c e (m := "__and__") rfl (cl := 15) rfl (is := 6) rfl (im := 7) rfl (f := 35) rfl rfl bn35_2 x_var x_var)))))))) (st_cons (w_ret x_bl)
  st_nil) st_nil)
  (st_cons (w_setc c (nf hfx) gp_name (blkOk_by (own := [("_law_part", 12)]) (by rfl)) (i_any c x_var) (fun _ _ _ _ _ => (pg_name c.nd rfl (by first | exact Or.inl rfl | exact Or.inr rfl))) (fun _ _ _ _ _ c1 => f_nil) (fun _ _ _ _ _ c1 => (x_call c1 (q_fn e (f := 5) (i := 21) rfl rfl rfl bn5_1) (a_cons x_var a_nil))))
  (st_cons (w_setc c (nf hfx) gp_name (blkOk_by (own := [("_law_part", 12)]) (by rfl)) (i_any c x_var) (fun _ _ _ _ _ => (pg_name c.nd rfl (by first | exact Or.inl rfl | exact Or.inr rfl))) (fun _ _ _ _ _ c1 => f_nil) (fun _ _ _ _ _ c1 => (x_call c1 (q_fn e (f := 8) (i := 22) rfl rfl rfl bn8_1) (a_cons x_var a_nil))))
  (st_cons (w_set c (nf hfx) (x_bin b_add (x_idx c x_var x_int) (x_ite (PW.pt (z_or (y_cmp (c_ne c) (x_idx c (x_idx c x_var x_int) x_int) (x_lst a_nil)) (z_or1 (y_cmp (c_ne c) (x_idx c (x_idx c x_var x_int) x_int) (x_lst a_nil))))) (x_bin b_add x_str (x_idx c x_var x_int)) x_str)))
  (st_cons (w_set c (nf hfx) (x_lst (a_cons x_var (a_cons (x_bin b_add (x_bin b_add x_str x_var) x_str) (a_cons (x_and (x_cmp (c_eq c) (x_idx c (x_idx c x_var x_int) x_int) (x_lst a_nil)) (x_one (x_cmp (c_eq c) (x_idx c (x_idx c x_var x_int) x_int) (x_lst a_nil)))) (a_cons (x_idx c x_var x_int) (a_cons (x_idx c x_var x_int) a_nil)))))))
  (st_cons (w_ife (y_not (y_val (x_call c (q_fn e (f := 13) (i := 30) rfl rfl rfl bn13_2) (a_cons (x_lst (a_cons (q_meth0 c e (cl := 15) rfl (ic := 5) rfl (im := 23) rfl (f := 108) rfl rfl bn108_1 x_var) (a_cons (q_rep c e (cl := 15) rfl (im := 24) rfl (ib := 25) rfl (f := 109) rfl rfl bn109_1 x_var) (a_cons (q_prop c e (cl := 15) rfl (ic := 5) rfl (i := 26) rfl (f := 110) rfl rfl bn110_1 x_var) (a_cons (q_meth0 c e (cl := 0) rfl (ic := 18) rfl (im := 28) rfl (f := 10) rfl rfl bn10_1 (q_fld c e (cl := 15) rfl (ic := 5) rfl (i := 27) rfl x_var)) (a_cons (q_meth0 c e (cl := 0) rfl (ic := 18) rfl (im := 28) rfl (f := 10) rfl rfl bn10_1 (q_fld c e (cl := 15) rfl (ic := 5) rfl (i := 29) rfl x_var)) a_nil)))))) (a_cons x_var a_nil))))) (st_cons (w_ret x_bl)
  st_nil) st_nil)
  (st_cons (w_ret (x_and (q_ceq c e (cl := 15) rfl (ic := 5) rfl (im := 19) rfl (f := 107) rfl rfl bn107_2 x_var (q_mk c e (cl := 15) rfl (ig := 2) rfl (im := 3) rfl (f := 33) rfl rfl bn33_3 (a_cons (x_call c (q_fn e (f := 24) (i := 4) rfl rfl rfl bn24_1) (a_cons (x_idx c x_var x_int) a_nil)) (a_cons (x_call c (q_fn e (f := 24) (i := 4) rfl rfl rfl bn24_1) (a_cons (x_idx c x_var x_int) a_nil)) a_nil)))) (x_and (q_cne c e (cl := 15) rfl (ic := 5) rfl (im := 19) rfl (ine := 20) rfl (f := 107) rfl rfl bn107_2 x_var x_var) (x_and (x_not (q_ceq c e (cl := 15) rfl (ic := 5) rfl (im := 19) rfl (f := 107) rfl rfl bn107_2 x_var x_non)) (x_one (x_call c (q_fn e (f := 13) (i := 30) rfl rfl rfl bn13_2) (a_cons (x_call c (q_fn e (f := 34) (i := 8) rfl rfl rfl bn34_1) (a_cons x_var a_nil)) (a_cons x_var a_nil))))))))
  st_nil))))))))))))
theorem b2 (e : GQ tab fx gk cn P w G.K mg base k G cal) : BodyOk G P w G.K mg base n2 d2.io "_law_bag" (defScope s2) fa (defBody s2) k cal L d2.body := fun cdv A outer s H E C hG hfx c hp => by
  subst hG
  exact (st_cons (w_set c (nf hfx) x_int)
  (st_cons (w_fr c hp gp_name (nfs hfx) (pg_name c.nd rfl (by first | exact Or.inl rfl | exact Or.inr rfl)) (i_any c (x_slHi c x_var x_int)) (st_cons (w_set c (nf hfx) (x_bin b_mod (x_toInt c (q_fr e 31 rfl) (x_bin b_add (x_bin b_add (x_bin b_mul x_var x_int) (x_bin b_mul (x_bin b_mod (x_toInt c (q_fr e 31 rfl) x_var) x_int) x_int)) x_int)) x_int))
  st_nil))
  (st_cons (w_ret (x_lst (a_cons (x_toList c (q_fr e 11 rfl) (x_slHi c x_var x_int)) (a_cons x_int (a_cons x_int (a_cons x_var (a_cons x_int a_nil)))))))
  st_nil)))
theorem b32 (e : GQ tab fx gk cn P w G.K mg base k G cal) : BodyOk G P w G.K mg base n32 d32.io "_law_some_answer" (defScope s32) fa (defBody s32) k cal L d32.body := fun cdv A outer s H E C hG hfx c hp => by
  subst hG
  exact (st_cons (w_set c (nf hfx) (x_bin b_add x_int (x_call c (q_fn e (f := 15) (i := 33) rfl rfl rfl bn15_2) (a_cons x_var (a_cons (x_call c (q_fn e (f := 17) (i := 32) rfl rfl rfl bn17_2) (a_cons x_var (a_cons (x_lst (a_cons x_int (a_cons x_int (a_cons x_int a_nil)))) a_nil))) a_nil)))))
  (st_cons (w_set c (nf hfx) (x_comp c gp_name (blkOk_by (own := [("_law_k", 3)]) (by rfl)) (i_rng1 c (q_fr e 12 rfl) x_var) (fun _ _ _ _ _ => (pg_name c.nd rfl (by first | exact Or.inl rfl | exact Or.inr rfl))) (fun _ _ _ _ _ c1 => f_nil) (fun _ _ _ _ _ c1 => (x_call c1 (q_fn e (f := 15) (i := 33) rfl rfl rfl bn15_2) (a_cons x_var (a_cons x_int a_nil))))))
  (st_cons (w_set c (nf hfx) (x_dict c (q_fr e 34 rfl) (x_comp c gp_name (blkOk_by (own := [("_law_k", 3)]) (by rfl)) (i_rng1 c (q_fr e 12 rfl) (x_call c (q_fn e (f := 15) (i := 33) rfl rfl rfl bn15_2) (a_cons x_var (a_cons x_int a_nil)))) (fun _ _ _ _ _ => (pg_name c.nd rfl (by first | exact Or.inl rfl | exact Or.inr rfl))) (fun _ _ _ _ _ c1 => f_nil) (fun _ _ _ _ _ c1 => (x_tup (a_cons (x_call c1 (q_fn e (f := 15) (i := 33) rfl rfl rfl bn15_2) (a_cons x_var (a_cons (x_call c1 (q_fn e (f := 17) (i := 32) rfl rfl rfl bn17_2) (a_cons x_var (a_cons (x_lst (a_cons x_int (a_cons x_int a_nil))) a_nil))) a_nil))) (a_cons (x_call c1 (q_fn e (f := 15) (i := 33) rfl rfl rfl bn15_2) (a_cons x_var (a_cons x_int a_nil))) a_nil)))))))
  (st_cons (w_set c (nf hfx) (x_lst a_nil))
  (st_cons (w_fr c hp gp_name (nfs hfx) (pg_name c.nd rfl (by first | exact Or.inl rfl | exact Or.inr rfl)) (i_any c (x_lst (a_cons x_int (a_cons x_int a_nil)))) (st_cons (w_setc c (nf hfx) gp_name (blkOk_by (own := [("_law_at", 8)]) (by rfl)) (i_rng1 c (q_fr e 12 rfl) x_var) (fun _ _ _ _ _ => (pg_name c.nd rfl (by first | exact Or.inl rfl | exact Or.inr rfl))) (fun _ _ _ _ _ c1 => (f_one (y_cmp (c_eq c1) (x_idx c1 x_var x_var) x_var))) (fun _ _ _ _ _ c1 => x_var))
  (st_cons (w_setc c (nf hfx) gp_name (blkOk_by (own := [("_law_at", 8)]) (by rfl)) (i_any c (x_sorted c (q_fr e 35 rfl) (x_toList c (q_fr e 11 rfl) x_var))) (fun _ _ _ _ _ => (pg_name c.nd rfl (by first | exact Or.inl rfl | exact Or.inr rfl))) (fun _ _ _ _ _ c1 => (f_one (y_cmp (c_ne c1) (x_cmp (c_eq c1) (x_idx c1 x_var (x_bin b_mod (x_toInt c1 (q_fr e 31 rfl) x_var) x_var)) x_var) (x_cmp (c_eq c1) (x_idx c1 x_var x_var) x_var)))) (fun _ _ _ _ _ c1 => x_var))
  (st_cons (w_app c (x_lst (a_cons x_var (a_cons x_var (a_cons x_var a_nil)))) (pv 5))
  st_nil))))
  (st_cons (w_ret x_var)
  st_nil))))))
theorem b33 (e : GQ tab fx gk cn P w G.K mg base k G cal) : BodyOk G P w G.K mg base n33 d33.io "Answer.__init__" (defScope s33) fa (defBody s33) k cal L d33.body := fun cdv A outer s H E C hG hfx c hp => by
  subst hG
  exact (st_cons (w_ife (q_truT c e (cl := 0) rfl (im := 38) rfl (f := 12) rfl rfl bn12_1 (q_bop c e (m := "__and__") rfl (cl := 0) rfl (is := 36) rfl (im := 37) rfl (f := 40) rfl rfl bn40_2 x_var x_var)) (st_cons st_nev
  st_nil) st_nil)
  (st_cons (q_stf c e (cl := 15) rfl (ic := 5) rfl (i := 27) rfl (pv 0) x_var)
  (st_cons (q_stf c e (cl := 15) rfl (ic := 5) rfl (i := 29) rfl (pv 0) x_var)
  st_nil)))
theorem b24 (e : GQ tab fx gk cn P w G.K mg base k G cal) : BodyOk G P w G.K mg base n24 d24.io "_law_rounds" (defScope s24) fa (defBody s24) k cal L d24.body := fun cdv A outer s H E C hG hfx c hp => by
  subst hG
  exact (st_cons (w_ret (q_mk c e (cl := 0) rfl (ig := 39) rfl (im := 40) rfl (f := 4) rfl rfl bn4_4 (a_cons (x_idx c x_var x_int) (a_cons (x_idx c x_var x_int) (a_cons (x_idx c x_var x_int) a_nil)))))
  st_nil)
theorem b34 (e : GQ tab fx gk cn P w G.K mg base k G cal) : BodyOk G P w G.K mg base n34 d34.io "_law_answer_spec" (defScope s34) fa (defBody s34) k cal L d34.body := fun cdv A outer s H E C hG hfx c hp => by
  subst hG
  exact (st_cons (w_ret (x_comp c gp_name (blkOk_by (own := [("_law_part", 1)]) (by rfl)) (i_any c (x_lst (a_cons (q_fld c e (cl := 15) rfl (ic := 5) rfl (i := 27) rfl x_var) (a_cons (q_fld c e (cl := 15) rfl (ic := 5) rfl (i := 29) rfl x_var) a_nil)))) (fun _ _ _ _ _ => (pg_name c.nd rfl (by first | exact Or.inl rfl | exact Or.inr rfl))) (fun _ _ _ _ _ c1 => f_nil) (fun _ _ _ _ _ c1 => (x_lst (a_cons (q_prop c1 e (cl := 0) rfl (ic := 18) rfl (i := 41) rfl (f := 9) rfl rfl bn9_1 x_var) (a_cons (q_meth0 c1 e (cl := 0) rfl (ic := 18) rfl (im := 42) rfl (f := 6) rfl rfl bn6_1 x_var) (a_cons (q_meth0 c1 e (cl := 0) rfl (ic := 18) rfl (im := 43) rfl (f := 7) rfl rfl bn7_1 x_var) a_nil)))))))
  st_nil)
theorem b35 (e : GQ tab fx gk cn P w G.K mg base k G cal) : BodyOk G P w G.K mg base n35 d35.io "Answer.__and__" (defScope s35) fa (defBody s35) k cal L d35.body := fun cdv A outer s H E C hG hfx c hp => by
  subst hG
  exact (st_cons (w_set c (nf hfx) (q_bop c e (m := "__and__") rfl (cl := 0) rfl (is := 36) rfl (im := 37) rfl (f := 40) rfl rfl bn40_2 (q_fld c e (cl := 15) rfl (ic := 5) rfl (i := 27) rfl x_var) (q_fld c e (cl := 15) rfl (ic := 5) rfl (i := 27) rfl x_var)))
  (st_cons (w_ret (q_mk c e (cl := 15) rfl (ig := 2) rfl (im := 3) rfl (f := 33) rfl rfl bn33_3 (a_cons x_var (a_cons (q_bop c e (m := "__sub__") rfl (cl := 0) rfl (is := 36) rfl (im := 45) rfl (f := 41) rfl rfl bn41_2 (q_bop c e (m := "__and__") rfl (cl := 0) rfl (is := 36) rfl (im := 37) rfl (f := 40) rfl rfl bn40_2 (q_bop c e (m := "__or__") rfl (cl := 0) rfl (is := 36) rfl (im := 44) rfl (f := 98) rfl rfl bn98_2 (q_fld c e (cl := 15) rfl (ic := 5) rfl (i := 27) rfl x_var) (q_fld c e (cl := 15) rfl (ic := 5) rfl (i := 29) rfl x_var)) (q_bop c e (m := "__or__") rfl (cl := 0) rfl (is := 36) rfl (im := 44) rfl (f := 98) rfl rfl bn98_2 (q_fld c e (cl := 15) rfl (ic := 5) rfl (i := 27) rfl x_var) (q_fld c e (cl := 15) rfl (ic := 5) rfl (i := 29) rfl x_var))) x_var) a_nil))))
  st_nil))
theorem b36 (e : GQ tab fx gk cn P w G.K mg base k G cal) : BodyOk G P w G.K mg base n36 d36.io "Answer.__or__" (defScope s36) fa (defBody s36) k cal L d36.body := fun cdv A outer s H E C hG hfx c hp => by
  subst hG
  exact (st_cons (w_set c (nf hfx) (q_bop c e (m := "__or__") rfl (cl := 0) rfl (is := 36) rfl (im := 44) rfl (f := 98) rfl rfl bn98_2 (q_fld c e (cl := 15) rfl (ic := 5) rfl (i := 27) rfl x_var) (q_fld c e (cl := 15) rfl (ic := 5) rfl (i := 27) rfl x_var)))
  (st_cons (w_ret (q_mk c e (cl := 15) rfl (ig := 2) rfl (im := 3) rfl (f := 33) rfl rfl bn33_3 (a_cons x_var (a_cons (q_bop c e (m := "__sub__") rfl (cl := 0) rfl (is := 36) rfl (im := 45) rfl (f := 41) rfl rfl bn41_2 (q_bop c e (m := "__or__") rfl (cl := 0) rfl (is := 36) rfl (im := 44) rfl (f := 98) rfl rfl bn98_2 (q_fld c e (cl := 15) rfl (ic := 5) rfl (i := 29) rfl x_var) (q_fld c e (cl := 15) rfl (ic := 5) rfl (i := 29) rfl x_var)) x_var) a_nil))))
  st_nil))
theorem b37 (e : GQ tab fx gk cn P w G.K mg base k G cal) : BodyOk G P w G.K mg base n37 d37.io "Answer.__invert__" (defScope s37) fa (defBody s37) k cal L d37.body := fun cdv A outer s H E C hG hfx c hp => by
  subst hG
  exact (st_cons (w_ret (q_mk c e (cl := 15) rfl (ig := 2) rfl (im := 3) rfl (f := 33) rfl rfl bn33_3 (a_cons (q_inv c e (cl := 0) rfl (im := 46) rfl (f := 43) rfl rfl bn43_1 (q_bop c e (m := "__or__") rfl (cl := 0) rfl (is := 36) rfl (im := 44) rfl (f := 98) rfl rfl bn98_2 (q_fld c e (cl := 15) rfl (ic := 5) rfl (i := 27) rfl x_var) (q_fld c e (cl := 15) rfl (ic := 5) rfl (i := 29) rfl x_var))) (a_cons (q_fld c e (cl := 15) rfl (ic := 5) rfl (i := 29) rfl x_var) a_nil))))
  st_nil)
theorem b103 (e : GQ tab fx gk cn P w G.K mg base k G cal) : BodyOk G P w G.K mg base n103 d103.io "_law_word_at" (defScope s103) fa (defBody s103) k cal L d103.body := fun cdv A outer s H E C hG hfx c hp => by
  subst hG
  exact (st_cons (w_ife (y_val (x_call c (q_fn e (f := 39) (i := 47) rfl rfl rfl bn39_2) (a_cons (x_idx c x_var x_int) (a_cons x_var a_nil)))) (st_cons (w_ret x_str)
  st_nil) st_nil)
  (st_cons (w_ret (x_ite (y_val (x_call c (q_fn e (f := 39) (i := 47) rfl rfl rfl bn39_2) (a_cons (x_idx c x_var x_int) (a_cons x_var a_nil)))) x_str x_str))
  st_nil))
theorem b104 (e : GQ tab fx gk cn P w G.K mg base k G cal) : BodyOk G P w G.K mg base n104 d104.io "_law_both" (defScope s104) fa (defBody s104) k cal L d104.body := fun cdv A outer s H E C hG hfx c hp => by
  subst hG
  exact (st_cons (w_ife (PW.pt (z_or (y_cmp (c_eq c) x_var x_str) (z_or1 (y_cmp (c_eq c) x_var x_str)))) (st_cons (w_ret x_str)
  st_nil) st_nil)
  (st_cons (w_ret (x_ite (PW.pt (z_and (y_cmp (c_eq c) x_var x_str) (z_and1 (y_cmp (c_eq c) x_var x_str)))) x_str x_str))
  st_nil))
theorem b105 (e : GQ tab fx gk cn P w G.K mg base k G cal) : BodyOk G P w G.K mg base n105 d105.io "_law_not" (defScope s105) fa (defBody s105) k cal L d105.body := fun cdv A outer s H E C hG hfx c hp => by
  subst hG
  exact (st_cons (w_ret (x_idx c (x_dsc (pps_cons pe_str pe_str (pps_cons pe_str pe_str (pps_cons pe_str pe_str pps_nil)))) x_var))
  st_nil)
theorem b99 (e : GQ tab fx gk cn P w G.K mg base k G cal) : BodyOk G P w G.K mg base n99 d99.io "Rounds.__contains__" (defScope s99) fa (defBody s99) k cal L d99.body := fun cdv A outer s H E C hG hfx c hp => by
  subst hG
  exact (st_cons (w_ret (x_and (x_call c (q_fn e (f := 22) (i := 48) rfl rfl rfl bn22_1) (a_cons x_var a_nil)) (x_and (x_cmp (c_ge c) x_var x_int) (x_one (q_meth c e (cl := 0) rfl (ic := 18) rfl (im := 49) rfl (f := 100) rfl rfl bn100_2 x_var (a_cons x_var a_nil))))))
  st_nil)
theorem b106 (e : GQ tab fx gk cn P w G.K mg base k G cal) : BodyOk G P w G.K mg base n106 d106.io "Answer.out" (defScope s106) fa (defBody s106) k cal L d106.body := fun cdv A outer s H E C hG hfx c hp => by
  subst hG
  exact (st_cons (w_ret (q_inv c e (cl := 0) rfl (im := 46) rfl (f := 43) rfl rfl bn43_1 (q_bop c e (m := "__or__") rfl (cl := 0) rfl (is := 36) rfl (im := 44) rfl (f := 98) rfl rfl bn98_2 (q_fld c e (cl := 15) rfl (ic := 5) rfl (i := 27) rfl x_var) (q_fld c e (cl := 15) rfl (ic := 5) rfl (i := 29) rfl x_var))))
  st_nil)
theorem b107 (e : GQ tab fx gk cn P w G.K mg base k G cal) : BodyOk G P w G.K mg base n107 d107.io "Answer.__eq__" (defScope s107) fa (defBody s107) k cal L d107.body := fun cdv A outer s H E C hG hfx c hp => by
  subst hG
  exact (st_cons (w_ret (x_and (q_isc c e (cl := 15) rfl (ig := 2) rfl (ib := 50) rfl ki15_0 x_var) (x_and (q_ceq c e (cl := 0) rfl (ic := 18) rfl (im := 54) rfl (f := 16) rfl rfl bn16_2 (q_fld c e (cl := 15) rfl (ic := 5) rfl (i := 27) rfl x_var) (q_fld c e (cl := 15) rfl (ic := 5) rfl (i := 27) rfl x_var)) (x_one (q_ceq c e (cl := 0) rfl (ic := 18) rfl (im := 54) rfl (f := 16) rfl rfl bn16_2 (q_fld c e (cl := 15) rfl (ic := 5) rfl (i := 29) rfl x_var) (q_fld c e (cl := 15) rfl (ic := 5) rfl (i := 29) rfl x_var))))))
  st_nil)
theorem b5 (e : GQ tab fx gk cn P w G.K mg base k G cal) : BodyOk G P w G.K mg base n5 d5.io "_law_least_spec" (defScope s5) fa (defBody s5) k cal L d5.body := fun cdv A outer s H E C hG hfx c hp => by
  subst hG
  exact (st_cons (w_fr c hp gp_name (nfs hfx) (pg_name c.nd rfl (by first | exact Or.inl rfl | exact Or.inr rfl)) (i_rng2 c (q_fr e 12 rfl) x_int (x_bin b_add (x_idx c x_var x_int) x_int)) (st_cons (w_ife (PW.pt (z_and (y_cmp (c_eq c) (x_bin b_mod (x_idx c x_var x_int) x_var) x_int) (z_and1 (y_val (x_all c (q_fr e 55 rfl) (x_comp c gp_name (blkOk_by (own := [("_law_at", 2)]) (by rfl)) (i_rng1 c (q_fr e 12 rfl) (x_idx c x_var x_int)) (fun _ _ _ _ _ => (pg_name c.nd rfl (by first | exact Or.inl rfl | exact Or.inr rfl))) (fun _ _ _ _ _ c1 => f_nil) (fun _ _ _ _ _ c1 => (x_cmp (c_eq c1) (x_cmp (c_in c1) (x_bin b_mod (x_toInt c1 (q_fr e 31 rfl) x_var) x_var) (x_idx c1 x_var x_int)) (x_cmp (c_in c1) x_var (x_idx c1 x_var x_int)))))))))) (st_cons (w_ret (x_lst (a_cons x_var (a_cons (x_comp c gp_name (blkOk_by (own := [("_law_at", 2)]) (by rfl)) (i_any c (x_idx c x_var x_int)) (fun _ _ _ _ _ => (pg_name c.nd rfl (by first | exact Or.inl rfl | exact Or.inr rfl))) (fun _ _ _ _ _ c1 => (f_one (y_cmp (c_lt c1) x_var x_var))) (fun _ _ _ _ _ c1 => x_var)) (a_cons (x_idx c x_var x_int) a_nil)))))
  st_nil) st_nil)
  st_nil))
  (st_cons (w_ret x_var)
  st_nil))
theorem b8 (e : GQ tab fx gk cn P w G.K mg base k G cal) : BodyOk G P w G.K mg base n8 d8.io "_law_rounds_text" (defScope s8) fa (defBody s8) k cal L d8.body := fun cdv A outer s H E C hG hfx c hp => by
  subst hG
  exact (st_cons (w_set c (nf hfx) (x_ite (y_cmp (c_ne c) (x_idx c x_var x_int) (x_lst a_nil)) (x_comp c gp_name (blkOk_by (own := [("_law_at", 2)]) (by rfl)) (i_any c (x_idx c x_var x_int)) (fun _ _ _ _ _ => (pg_name c.nd rfl (by first | exact Or.inl rfl | exact Or.inr rfl))) (fun _ _ _ _ _ c1 => f_nil) (fun _ _ _ _ _ c1 => (x_toStr c1 (q_fr e 56 rfl) x_var))) (x_lst (a_cons x_str a_nil))))
  (st_cons (w_set c (nf hfx) (x_bin b_add x_var (x_lst (a_cons x_str (a_cons (x_toStr c (q_fr e 56 rfl) (x_idx c x_var x_int)) a_nil)))))
  (st_cons (w_ret (x_join c x_str (x_bin b_add x_var (x_ite (y_cmp (c_ne c) (x_idx c x_var x_int) (x_lst a_nil)) (x_bin b_add (x_lst (a_cons x_str a_nil)) (x_comp c gp_name (blkOk_by (own := [("_law_at", 2)]) (by rfl)) (i_any c (x_idx c x_var x_int)) (fun _ _ _ _ _ => (pg_name c.nd rfl (by first | exact Or.inl rfl | exact Or.inr rfl))) (fun _ _ _ _ _ c1 => f_nil) (fun _ _ _ _ _ c1 => (x_toStr c1 (q_fr e 56 rfl) x_var)))) (x_lst a_nil)))))
  st_nil)))
theorem b13 (e : GQ tab fx gk cn P w G.K mg base k G cal) : BodyOk G P w G.K mg base n13 d13.io "_law_same" (defScope s13) fa (defBody s13) k cal L d13.body := fun cdv A outer s H E C hG hfx c hp => by
  subst hG
  exact (st_cons (w_ife (PW.pt (z_or (y_cmp (c_is c) x_var x_non) (z_or1 (y_cmp (c_is c) x_var x_non)))) (st_cons (w_ret (x_and (x_cmp (c_is c) x_var x_non) (x_one (x_cmp (c_is c) x_var x_non))))
  st_nil) st_nil)
  (st_cons (w_ife (y_val (x_isi1 c .dict (q_fr e 50 rfl) (x_cls .dict (by rfl) (q_fr e 34 rfl) rfl) x_var)) (st_cons (w_ife (PW.pt (z_or (y_not (y_val (x_isi1 c .dict (q_fr e 50 rfl) (x_cls .dict (by rfl) (q_fr e 34 rfl) rfl) x_var))) (z_or1 (y_cmp (c_ne c) (x_toList c (q_fr e 11 rfl) x_var) (x_toList c (q_fr e 11 rfl) x_var))))) (st_cons (w_ret x_bl)
  st_nil) st_nil)
  (st_cons (w_ret (x_all c (q_fr e 55 rfl) (x_comp c gp_name (blkOk_by (own := [("_law_key", 2)]) (by rfl)) (i_any c x_var) (fun _ _ _ _ _ => (pg_name c.nd rfl (by first | exact Or.inl rfl | exact Or.inr rfl))) (fun _ _ _ _ _ c1 => f_nil) (fun _ _ _ _ _ c1 => (x_call c1 (q_fn e (f := 13) (i := 30) rfl rfl rfl bn13_2) (a_cons (x_idx c1 x_var x_var) (a_cons (x_idx c1 x_var x_var) a_nil)))))))
  st_nil)) st_nil)
  (st_cons (w_ife (y_val (x_isi2 c .list .tuple (q_fr e 50 rfl) (x_cls .list (by rfl) (q_fr e 11 rfl) rfl) (x_cls .tuple (by rfl) (q_fr e 57 rfl) rfl) x_var)) (st_cons (w_ife (y_cmp (c_ne c) (x_isi1 c .list (q_fr e 50 rfl) (x_cls .list (by rfl) (q_fr e 11 rfl) rfl) x_var) (x_isi1 c .list (q_fr e 50 rfl) (x_cls .list (by rfl) (q_fr e 11 rfl) rfl) x_var)) (st_cons (w_ret x_bl)
  st_nil) st_nil)
  (st_cons (w_ife (PW.pt (z_or (y_cmp (c_ne c) (x_isi1 c .tuple (q_fr e 50 rfl) (x_cls .tuple (by rfl) (q_fr e 57 rfl) rfl) x_var) (x_isi1 c .tuple (q_fr e 50 rfl) (x_cls .tuple (by rfl) (q_fr e 57 rfl) rfl) x_var)) (z_or1 (y_cmp (c_ne c) (x_len c (q_fr e 58 rfl) x_var) (x_len c (q_fr e 58 rfl) x_var))))) (st_cons (w_ret x_bl)
  st_nil) st_nil)
  (st_cons (w_ret (x_all c (q_fr e 55 rfl) (x_comp c (gp_tup rfl (gps_cons gp_name (gps_cons gp_name gps_nil))) (blkOk_by (own := [("_law_a", 3), ("_law_b", 4)]) (by rfl)) (i_zip c (q_fr e 59 rfl) x_var x_var) (fun _ _ _ _ _ => (pg_tup c.calm (pgs_cons (pg_name c.nd rfl (by first | exact Or.inl rfl | exact Or.inr rfl)) (pgs_cons (pg_name c.nd rfl (by first | exact Or.inl rfl | exact Or.inr rfl)) pgs_nil)))) (fun _ _ _ _ _ c1 => f_nil) (fun _ _ _ _ _ c1 => (x_call c1 (q_fn e (f := 13) (i := 30) rfl rfl rfl bn13_2) (a_cons x_var (a_cons x_var a_nil)))))))
  st_nil))) st_nil)
  (st_cons (w_ife (y_val (x_isi3 c .list .tuple .dict (q_fr e 50 rfl) (x_cls .list (by rfl) (q_fr e 11 rfl) rfl) (x_cls .tuple (by rfl) (q_fr e 57 rfl) rfl) (x_cls .dict (by rfl) (q_fr e 34 rfl) rfl) x_var)) (st_cons (w_ret x_bl)
  st_nil) st_nil)
  (st_cons (w_ife (y_cmp (c_ne c) (x_isi1 c .bool (q_fr e 50 rfl) (x_cls .bool (by rfl) (q_fr e 60 rfl) rfl) x_var) (x_isi1 c .bool (q_fr e 50 rfl) (x_cls .bool (by rfl) (q_fr e 60 rfl) rfl) x_var)) (st_cons (w_ret x_bl)
  st_nil) st_nil)
  (st_cons (w_ife (y_cmp (c_ne c) (x_isi1 c .int (q_fr e 50 rfl) (x_cls .int (by rfl) (q_fr e 31 rfl) rfl) x_var) (x_isi1 c .int (q_fr e 50 rfl) (x_cls .int (by rfl) (q_fr e 31 rfl) rfl) x_var)) (st_cons (w_ret x_bl)
  st_nil) st_nil)
  (st_cons (w_ret (x_and (x_cmp (c_eq c) (x_isi1 c .str (q_fr e 50 rfl) (x_cls .str (by rfl) (q_fr e 56 rfl) rfl) x_var) (x_isi1 c .str (q_fr e 50 rfl) (x_cls .str (by rfl) (q_fr e 56 rfl) rfl) x_var)) (x_one (x_cmp (c_eq c) x_var x_var))))
  st_nil)))))))
theorem b108 (e : GQ tab fx gk cn P w G.K mg base k G cal) : BodyOk G P w G.K mg base n108 d108.io "Answer.text" (defScope s108) fa (defBody s108) k cal L d108.body := fun cdv A outer s H E C hG hfx c hp => by
  subst hG
  exact (st_cons (w_ife (y_not (q_truT c e (cl := 0) rfl (im := 38) rfl (f := 12) rfl rfl bn12_1 (q_fld c e (cl := 15) rfl (ic := 5) rfl (i := 29) rfl x_var))) (st_cons (w_ret (q_meth0 c e (cl := 0) rfl (ic := 18) rfl (im := 28) rfl (f := 10) rfl rfl bn10_1 (q_fld c e (cl := 15) rfl (ic := 5) rfl (i := 27) rfl x_var)))
  st_nil) st_nil)
  (st_cons (w_ret (x_fst (j_cons (j_fmt (q_meth0 c e (cl := 0) rfl (ic := 18) rfl (im := 28) rfl (f := 10) rfl rfl bn10_1 (q_fld c e (cl := 15) rfl (ic := 5) rfl (i := 27) rfl x_var))) (j_cons (j_txt (by decide)) (j_cons (j_fmt (q_meth0 c e (cl := 0) rfl (ic := 18) rfl (im := 28) rfl (f := 10) rfl rfl bn10_1 (q_fld c e (cl := 15) rfl (ic := 5) rfl (i := 29) rfl x_var))) j_nil)))))
  st_nil))
theorem b109 (e : GQ tab fx gk cn P w G.K mg base k G cal) : BodyOk G P w G.K mg base n109 d109.io "Answer.__repr__" (defScope s109) fa (defBody s109) k cal L d109.body := fun cdv A outer s H E C hG hfx c hp => by
  subst hG
  exact (st_cons (w_ret (x_fst (j_cons (j_txt (by decide)) (j_cons (j_fmt (q_meth0 c e (cl := 15) rfl (ic := 5) rfl (im := 23) rfl (f := 108) rfl rfl bn108_1 x_var)) (j_cons (j_txt (by decide)) j_nil)))))
  st_nil)
theorem b110 (e : GQ tab fx gk cn P w G.K mg base k G cal) : BodyOk G P w G.K mg base n110 d110.io "Answer.settled" (defScope s110) fa (defBody s110) k cal L d110.body := fun cdv A outer s H E C hG hfx c hp => by
  subst hG
  exact (st_cons (w_ret (q_notI c e (cl := 0) rfl (im := 38) rfl (f := 12) rfl rfl bn12_1 (q_fld c e (cl := 15) rfl (ic := 5) rfl (i := 29) rfl x_var)))
  st_nil)
theorem b10 (e : GQ tab fx gk cn P w G.K mg base k G cal) : BodyOk G P w G.K mg base n10 d10.io "Rounds.text" (defScope s10) fa (defBody s10) k cal L d10.body := fun cdv A outer s H E C hG hfx c hp => by
  subst hG
  exact (st_cons (w_set c (nf hfx) (x_ite (y_cmp (c_ne c) (q_fld c e (cl := 0) rfl (ic := 18) rfl (i := 61) rfl x_var) (x_lst a_nil)) (x_comp c gp_name (blkOk_by (own := [("one", 2)]) (by rfl)) (i_any c (q_fld c e (cl := 0) rfl (ic := 18) rfl (i := 61) rfl x_var)) (fun _ _ _ _ _ => (pg_name c.nd rfl (by first | exact Or.inl rfl | exact Or.inr rfl))) (fun _ _ _ _ _ c1 => f_nil) (fun _ _ _ _ _ c1 => (x_toStr c1 (q_fr e 56 rfl) x_var))) (x_lst (a_cons x_str a_nil))))
  (st_cons (w_set c (nf hfx) (x_lsx (ax_star c x_var (ax_cons x_str (ax_cons (x_toStr c (q_fr e 56 rfl) (q_fld c e (cl := 0) rfl (ic := 18) rfl (i := 62) rfl x_var)) ax_nil)))))
  (st_cons (w_ife (y_cmp (c_ne c) (q_fld c e (cl := 0) rfl (ic := 18) rfl (i := 63) rfl x_var) x_dic0) (st_cons (w_set c (nf hfx) (x_lsx (ax_star c x_var (ax_cons x_str (ax_star c (x_comp c gp_name (blkOk_by (own := [("at", 3)]) (by rfl)) (i_any c (q_fld c e (cl := 0) rfl (ic := 18) rfl (i := 63) rfl x_var)) (fun _ _ _ _ _ => (pg_name c.nd rfl (by first | exact Or.inl rfl | exact Or.inr rfl))) (fun _ _ _ _ _ c1 => f_nil) (fun _ _ _ _ _ c1 => (x_toStr c1 (q_fr e 56 rfl) x_var))) ax_nil)))))
  st_nil) st_nil)
  (st_cons (w_ret (x_join c x_str x_var))
  st_nil))))
theorem b15 (e : GQ tab fx gk cn P w G.K mg base k G cal) : BodyOk G P w G.K mg base n15 d15.io "_law_take" (defScope s15) fa (defBody s15) k cal L d15.body := fun cdv A outer s H E C hG hfx c hp => by
  subst hG
  exact (st_cons (w_sto c (pv 0) x_int (x_bin b_add (x_idx c x_var x_int) x_int))
  (st_cons (w_ife (PW.pt (z_and (y_cmp (c_eq c) (x_idx c x_var x_int) x_int) (z_and1 (y_cmp (c_lt c) (x_idx c x_var x_int) (x_len c (q_fr e 58 rfl) (x_idx c x_var x_int)))))) (st_cons (w_set c (nf hfx) (x_idx c (x_idx c x_var x_int) (x_idx c x_var x_int)))
  (st_cons (w_sto c (pv 0) x_int (x_bin b_add (x_idx c x_var x_int) x_int))
  (st_cons (w_ife (y_cmp (c_ge c) (x_abs c (q_fr e 64 rfl) x_var) (x_bin b_pow x_int x_int)) (st_cons (w_sto c (pv 0) x_int (x_abs c (q_fr e 64 rfl) x_var))
  st_nil) (st_cons (w_sto c (pv 0) x_int (x_bin b_mod (x_toInt c (q_fr e 31 rfl) (x_bin b_add (x_bin b_add (x_bin b_mul (x_idx c x_var x_int) x_int) (x_bin b_mul (x_bin b_mod (x_toInt c (q_fr e 31 rfl) x_var) x_int) x_int)) x_int)) x_int))
  st_nil))
  st_nil))) st_nil)
  (st_cons (w_ife (y_cmp (c_gt c) (x_idx c x_var x_int) x_int) (st_cons (w_set c (nf hfx) (x_bin b_mod (x_toInt c (q_fr e 31 rfl) (x_idx c x_var x_int)) x_var))
  (st_cons (w_sto c (pv 0) x_int (x_bin b_fdiv (x_idx c x_var x_int) x_var))
  (st_cons (w_ret x_var)
  st_nil))) st_nil)
  (st_cons (w_set c (nf hfx) (x_bin b_mod (x_toInt c (q_fr e 31 rfl) (x_bin b_add (x_bin b_mul (x_idx c x_var x_int) (x_idx c x_var x_int)) (x_bin b_mul (x_idx c x_var x_int) x_int))) x_int))
  (st_cons (w_sto c (pv 0) x_int (x_bin b_mod (x_toInt c (q_fr e 31 rfl) (x_bin b_add (x_bin b_add (x_bin b_mul x_var x_int) (x_bin b_mul (x_idx c x_var x_int) x_int)) x_int)) x_int))
  (st_cons (w_ret (x_bin b_mod (x_toInt c (q_fr e 31 rfl) (x_bin b_fdiv (x_idx c x_var x_int) x_int)) x_var))
  st_nil))))))
theorem b17 (e : GQ tab fx gk cn P w G.K mg base k G cal) : BodyOk G P w G.K mg base n17 d17.io "_law_of" (defScope s17) fa (defBody s17) k cal L d17.body := fun cdv A outer s H E C hG hfx c hp => by
  subst hG
  exact (st_cons (w_ret (x_idx c x_var (x_call c (q_fn e (f := 15) (i := 33) rfl rfl rfl bn15_2) (a_cons x_var (a_cons (x_len c (q_fr e 58 rfl) x_var) a_nil)))))
  st_nil)
theorem b12 (e : GQ tab fx gk cn P w G.K mg base k G cal) : BodyOk G P w G.K mg base n12 d12.io "Rounds.__bool__" (defScope s12) fa (defBody s12) k cal L d12.body := fun cdv A outer s H E C hG hfx c hp => by
  subst hG
  exact (st_cons (w_ret (x_or (x_cmp (c_gt c) (x_len c (q_fr e 58 rfl) (q_fld c e (cl := 0) rfl (ic := 18) rfl (i := 61) rfl x_var)) x_int) (x_one (x_cmp (c_gt c) (x_len c (q_fr e 58 rfl) (q_fld c e (cl := 0) rfl (ic := 18) rfl (i := 63) rfl x_var)) x_int))))
  st_nil)
theorem b40 (e : GQ tab fx gk cn P w G.K mg base k G cal) : BodyOk G P w G.K mg base n40 d40.io "Rounds.__and__" (defScope s40) fa (defBody s40) k cal L d40.body := fun cdv A outer s H E C hG hfx c hp => by
  subst hG
  exact (st_cons (w_ret (x_call c (q_fn e (f := 46) (i := 65) rfl rfl rfl bn46_3) (a_cons x_var (a_cons x_var (a_cons (x_tup (a_cons x_bl (a_cons x_bl (a_cons x_bl (a_cons x_bl a_nil))))) a_nil)))))
  st_nil)
theorem b4 (e : GQ tab fx gk cn P w G.K mg base k G cal) : BodyOk G P w G.K mg base n4 d4.io "Rounds.__init__" (defScope s4) fa (defBody s4) k cal L d4.body := fun cdv A outer s H E C hG hfx c hp => by
  subst hG
  exact (st_cons (w_ife (y_not (y_val (x_call c (q_fn e (f := 18) (i := 66) rfl rfl rfl bn18_3) (a_cons x_var (a_cons x_int (a_cons (x_glob (q_glob e 0 rfl)) a_nil)))))) (st_cons st_nev
  st_nil) st_nil)
  (st_cons (w_ife (y_not (y_val (n_lend (x_call c (q_fn e (f := 19) (i := 67) rfl rfl rfl bn19_1) (a_cons x_var a_nil))))) (st_cons st_nev
  st_nil) st_nil)
  (st_cons (w_ife (y_cmp (c_isnot c) (n_lend (x_call c (q_fn e (f := 20) (i := 68) rfl rfl rfl bn20_3) (a_cons x_var (a_cons x_int (a_cons (x_bin b_sub x_var x_int) a_nil))))) x_non) (st_cons st_nev
  st_nil) st_nil)
  (st_cons (w_ife (y_not (y_val (n_lend (x_call c (q_fn e (f := 19) (i := 67) rfl rfl rfl bn19_1) (a_cons x_var a_nil))))) (st_cons st_nev
  st_nil) st_nil)
  (st_cons (w_ife (y_cmp (c_isnot c) (n_lend (x_call c (q_fn e (f := 20) (i := 68) rfl rfl rfl bn20_3) (a_cons x_var (a_cons x_int (a_cons x_non a_nil))))) x_non) (st_cons st_nev
  st_nil) st_nil)
  (st_cons (q_stp2 c e (cl := 0) rfl (ic := 18) rfl (i := 62) rfl (i' := 61) rfl (pv 0) (pv 0) (x_call c (q_fn e (f := 21) (i := 69) rfl rfl rfl bn21_2) (a_cons x_var (a_cons (x_toList c (q_fr e 11 rfl) x_var) a_nil))))
  (st_cons (q_stf c e (cl := 0) rfl (ic := 18) rfl (i := 63) rfl (pv 0) (n_lend (x_dcm c gp_name (blkOk_by (own := [("at", 4)]) (by rfl)) (i_any c x_var) (fun _ _ _ _ _ => (pg_name c.nd rfl (by first | exact Or.inl rfl | exact Or.inr rfl))) (fun _ _ _ _ _ c1 => f_nil) (fun _ _ _ _ _ c1 => x_var) (fun _ _ _ _ _ c1 => x_bl))))
  st_nil)))))))
theorem b9 (e : GQ tab fx gk cn P w G.K mg base k G cal) : BodyOk G P w G.K mg base n9 d9.io "Rounds.period" (defScope s9) fa (defBody s9) k cal L d9.body := fun cdv A outer s H E C hG hfx c hp => by
  subst hG
  exact (st_cons (w_ret (q_fld c e (cl := 0) rfl (ic := 18) rfl (i := 62) rfl x_var))
  st_nil)
theorem b6 (e : GQ tab fx gk cn P w G.K mg base k G cal) : BodyOk G P w G.K mg base n6 d6.io "Rounds.classes" (defScope s6) fa (defBody s6) k cal L d6.body := fun cdv A outer s H E C hG hfx c hp => by
  subst hG
  exact (st_cons (w_ret (x_toList c (q_fr e 11 rfl) (q_fld c e (cl := 0) rfl (ic := 18) rfl (i := 61) rfl x_var)))
  st_nil)
theorem b7 (e : GQ tab fx gk cn P w G.K mg base k G cal) : BodyOk G P w G.K mg base n7 d7.io "Rounds.odd" (defScope s7) fa (defBody s7) k cal L d7.body := fun cdv A outer s H E C hG hfx c hp => by
  subst hG
  exact (st_cons (w_ret (x_toList c (q_fr e 11 rfl) (q_fld c e (cl := 0) rfl (ic := 18) rfl (i := 63) rfl x_var)))
  st_nil)
theorem b98 (e : GQ tab fx gk cn P w G.K mg base k G cal) : BodyOk G P w G.K mg base n98 d98.io "Rounds.__or__" (defScope s98) fa (defBody s98) k cal L d98.body := fun cdv A outer s H E C hG hfx c hp => by
  subst hG
  exact (st_cons (w_ret (x_call c (q_fn e (f := 46) (i := 65) rfl rfl rfl bn46_3) (a_cons x_var (a_cons x_var (a_cons (x_tup (a_cons x_bl (a_cons x_bl (a_cons x_bl (a_cons x_bl a_nil))))) a_nil)))))
  st_nil)
theorem b41 (e : GQ tab fx gk cn P w G.K mg base k G cal) : BodyOk G P w G.K mg base n41 d41.io "Rounds.__sub__" (defScope s41) fa (defBody s41) k cal L d41.body := fun cdv A outer s H E C hG hfx c hp => by
  subst hG
  exact (st_cons (w_ret (x_call c (q_fn e (f := 46) (i := 65) rfl rfl rfl bn46_3) (a_cons x_var (a_cons x_var (a_cons (x_tup (a_cons x_bl (a_cons x_bl (a_cons x_bl (a_cons x_bl a_nil))))) a_nil)))))
  st_nil)
theorem b43 (e : GQ tab fx gk cn P w G.K mg base k G cal) : BodyOk G P w G.K mg base n43 d43.io "Rounds.__invert__" (defScope s43) fa (defBody s43) k cal L d43.body := fun cdv A outer s H E C hG hfx c hp => by
  subst hG
  exact (st_cons (w_setc c (nf hfx) gp_name (blkOk_by (own := [("at", 2)]) (by rfl)) (i_rng1 c (q_fr e 12 rfl) (q_fld c e (cl := 0) rfl (ic := 18) rfl (i := 62) rfl x_var)) (fun _ _ _ _ _ => (pg_name c.nd rfl (by first | exact Or.inl rfl | exact Or.inr rfl))) (fun _ _ _ _ _ c1 => (f_one (y_cmp (c_notin c1) x_var (q_fld c1 e (cl := 0) rfl (ic := 18) rfl (i := 61) rfl x_var)))) (fun _ _ _ _ _ c1 => x_var))
  (st_cons (w_ret (x_call c (q_fn e (f := 47) (i := 70) rfl rfl rfl bn47_3) (a_cons (q_fld c e (cl := 0) rfl (ic := 18) rfl (i := 62) rfl x_var) (a_cons x_var (a_cons (x_toList c (q_fr e 11 rfl) (q_fld c e (cl := 0) rfl (ic := 18) rfl (i := 63) rfl x_var)) a_nil)))))
  st_nil))
theorem b39 (e : GQ tab fx gk cn P w G.K mg base k G cal) : BodyOk G P w G.K mg base n39 d39.io "_law_has" (defScope s39) fa (defBody s39) k cal L d39.body := fun cdv A outer s H E C hG hfx c hp => by
  subst hG
  exact (st_cons (w_ret (x_cmp (c_ne c) (x_cmp (c_in c) (x_bin b_mod (x_toInt c (q_fr e 31 rfl) x_var) (x_idx c x_var x_int)) (x_idx c x_var x_int)) (x_cmp (c_in c) x_var (x_idx c x_var x_int))))
  st_nil)
theorem b22 (e : GQ tab fx gk cn P w G.K mg base k G cal) : BodyOk G P w G.K mg base n22 d22.io "is_whole" (defScope s22) fa (defBody s22) k cal L d22.body := fun cdv A outer s H E C hG hfx c hp => by
  subst hG
  exact (st_cons (w_ret (x_and (x_isi1 c .int (q_fr e 50 rfl) (x_cls .int (by rfl) (q_fr e 31 rfl) rfl) x_var) (x_one (x_not (x_isi1 c .bool (q_fr e 50 rfl) (x_cls .bool (by rfl) (q_fr e 60 rfl) rfl) x_var)))))
  st_nil)
theorem b100 (e : GQ tab fx gk cn P w G.K mg base k G cal) : BodyOk G P w G.K mg base n100 d100.io "Rounds.has" (defScope s100) fa (defBody s100) k cal L d100.body := fun cdv A outer s H E C hG hfx c hp => by
  subst hG
  exact (st_cons (w_ret (x_cmp (c_ne c) (x_cmp (c_in c) (x_bin b_mod x_var (q_fld c e (cl := 0) rfl (ic := 18) rfl (i := 62) rfl x_var)) (q_fld c e (cl := 0) rfl (ic := 18) rfl (i := 61) rfl x_var)) (x_cmp (c_in c) x_var (q_fld c e (cl := 0) rfl (ic := 18) rfl (i := 63) rfl x_var))))
  st_nil)
theorem b16 (e : GQ tab fx gk cn P w G.K mg base k G cal) : BodyOk G P w G.K mg base n16 d16.io "Rounds.__eq__" (defScope s16) fa (defBody s16) k cal L d16.body := fun cdv A outer s H E C hG hfx c hp => by
  subst hG
  exact (st_cons (w_ife (PW.pt (z_or (y_not (y_val (q_isc c e (cl := 0) rfl (ig := 39) rfl (ib := 50) rfl ki0_ x_var))) (z_or1 (y_cmp (c_ne c) (q_fld c e (cl := 0) rfl (ic := 18) rfl (i := 62) rfl x_var) (q_fld c e (cl := 0) rfl (ic := 18) rfl (i := 62) rfl x_var))))) (st_cons (w_ret x_bl)
  st_nil) st_nil)
  (st_cons (w_ret (x_and (x_cmp (c_eq c) (q_fld c e (cl := 0) rfl (ic := 18) rfl (i := 61) rfl x_var) (q_fld c e (cl := 0) rfl (ic := 18) rfl (i := 61) rfl x_var)) (x_one (x_cmp (c_eq c) (q_fld c e (cl := 0) rfl (ic := 18) rfl (i := 63) rfl x_var) (q_fld c e (cl := 0) rfl (ic := 18) rfl (i := 63) rfl x_var)))))
  st_nil))
theorem b46 (e : GQ tab fx gk cn P w G.K mg base k G cal) : BodyOk G P w G.K mg base n46 d46.io "combined" (defScope s46) fa (defBody s46) k cal L d46.body := fun cdv A outer s H E C hG hfx c hp => by
  subst hG
  exact (st_cons (w_set c (nf hfx) (x_lcm (e.bf 73 _ _ rfl) (q_prop c e (cl := 0) rfl (ic := 18) rfl (i := 41) rfl (f := 9) rfl rfl bn9_1 x_var) (q_prop c e (cl := 0) rfl (ic := 18) rfl (i := 41) rfl (f := 9) rfl rfl bn9_1 x_var)))
  (st_cons (w_ife (y_cmp (c_gt c) x_var (x_glob (q_glob e 0 rfl))) (st_cons st_nev
  st_nil) st_nil)
  (st_cons (w_set c (nf hfx) (x_dcm c gp_name (blkOk_by (own := [("at", 5)]) (by rfl)) (i_any c (q_meth0 c e (cl := 0) rfl (ic := 18) rfl (im := 42) rfl (f := 6) rfl rfl bn6_1 x_var)) (fun _ _ _ _ _ => (pg_name c.nd rfl (by first | exact Or.inl rfl | exact Or.inr rfl))) (fun _ _ _ _ _ c1 => f_nil) (fun _ _ _ _ _ c1 => x_var) (fun _ _ _ _ _ c1 => x_bl)))
  (st_cons (w_set c (nf hfx) (x_dcm c gp_name (blkOk_by (own := [("at", 5)]) (by rfl)) (i_any c (q_meth0 c e (cl := 0) rfl (ic := 18) rfl (im := 42) rfl (f := 6) rfl rfl bn6_1 x_var)) (fun _ _ _ _ _ => (pg_name c.nd rfl (by first | exact Or.inl rfl | exact Or.inr rfl))) (fun _ _ _ _ _ c1 => f_nil) (fun _ _ _ _ _ c1 => x_var) (fun _ _ _ _ _ c1 => x_bl)))
  (st_cons (w_setc c (nf hfx) gp_name (blkOk_by (own := [("at", 5)]) (by rfl)) (i_rng1 c (q_fr e 12 rfl) x_var) (fun _ _ _ _ _ => (pg_name c.nd rfl (by first | exact Or.inl rfl | exact Or.inr rfl))) (fun _ _ _ _ _ c1 => (f_one (y_val (x_idx c1 x_var (x_bin b_add (x_bin b_mul x_int (x_toInt c1 (q_fr e 31 rfl) (x_cmp (c_in c1) (x_bin b_mod x_var (q_prop c1 e (cl := 0) rfl (ic := 18) rfl (i := 41) rfl (f := 9) rfl rfl bn9_1 x_var)) x_var))) (x_toInt c1 (q_fr e 31 rfl) (x_cmp (c_in c1) (x_bin b_mod x_var (q_prop c1 e (cl := 0) rfl (ic := 18) rfl (i := 41) rfl (f := 9) rfl rfl bn9_1 x_var)) x_var))))))) (fun _ _ _ _ _ c1 => x_var))
  (st_cons (w_set c (nf hfx) (x_dcm c gp_name (blkOk_by (own := [("at", 5)]) (by rfl)) (i_any c x_var) (fun _ _ _ _ _ => (pg_name c.nd rfl (by first | exact Or.inl rfl | exact Or.inr rfl))) (fun _ _ _ _ _ c1 => f_nil) (fun _ _ _ _ _ c1 => x_var) (fun _ _ _ _ _ c1 => x_bl)))
  (st_cons (w_set c (nf hfx) (x_uniq c (q_fr e 35 rfl) (q_fr e 74 rfl) (x_bin b_add (q_meth0 c e (cl := 0) rfl (ic := 18) rfl (im := 43) rfl (f := 7) rfl rfl bn7_1 x_var) (q_meth0 c e (cl := 0) rfl (ic := 18) rfl (im := 43) rfl (f := 7) rfl rfl bn7_1 x_var))))
  (st_cons (w_setc c (nf hfx) gp_name (blkOk_by (own := [("at", 5)]) (by rfl)) (i_any c x_var) (fun _ _ _ _ _ => (pg_name c.nd rfl (by first | exact Or.inl rfl | exact Or.inr rfl))) (fun _ _ _ _ _ c1 => (f_one (y_cmp (c_ne c1) (x_idx c1 x_var (x_bin b_add (x_bin b_mul x_int (x_toInt c1 (q_fr e 31 rfl) (q_meth c1 e (cl := 0) rfl (ic := 18) rfl (im := 49) rfl (f := 100) rfl rfl bn100_2 x_var (a_cons x_var a_nil)))) (x_toInt c1 (q_fr e 31 rfl) (q_meth c1 e (cl := 0) rfl (ic := 18) rfl (im := 49) rfl (f := 100) rfl rfl bn100_2 x_var (a_cons x_var a_nil))))) (x_cmp (c_in c1) (x_bin b_mod x_var x_var) x_var)))) (fun _ _ _ _ _ c1 => x_var))
  (st_cons (w_ret (x_call c (q_fn e (f := 47) (i := 70) rfl rfl rfl bn47_3) (a_cons x_var (a_cons x_var (a_cons x_var a_nil)))))
  st_nil)))))))))
theorem b18 (e : GQ tab fx gk cn P w G.K mg base k G cal) : BodyOk G P w G.K mg base n18 d18.io "is_number" (defScope s18) fa (defBody s18) k cal L d18.body := fun cdv A outer s H E C hG hfx c hp => by
  subst hG
  exact (st_cons (w_ret (x_and (x_call c (q_fn e (f := 22) (i := 48) rfl rfl rfl bn22_1) (a_cons x_var a_nil)) (x_one (x_chain (c_le c) (c_le c) x_var x_var x_var))))
  st_nil)
theorem b19 (e : GQ tab fx gk cn P w G.K mg base k G cal) : BodyOk G P w G.K mg base n19 d19.io "is_list" (defScope s19) fa (defBody s19) k cal L d19.body := fun cdv A outer s H E C hG hfx c hp => by
  subst hG
  exact (st_cons (w_ret (x_isi2 c .list .tuple (q_fr e 50 rfl) (x_cls .list (by rfl) (q_fr e 11 rfl) rfl) (x_cls .tuple (by rfl) (q_fr e 57 rfl) rfl) x_var))
  st_nil)
theorem b20 (e : GQ tab fx gk cn P w G.K mg base k G cal) : BodyOk G P w G.K mg base n20 d20.io "first_fault" (defScope s20) fa (defBody s20) k cal L d20.body := fun cdv A outer s H E C hG hfx c hp => by
  subst hG
  exact (st_cons (w_fr c hp (gp_tup rfl (gps_cons gp_name (gps_cons gp_name gps_nil))) (nfs hfx) (pg_tup c.calm (pgs_cons (pg_name c.nd rfl (by first | exact Or.inl rfl | exact Or.inr rfl)) (pgs_cons (pg_name c.nd rfl (by first | exact Or.inl rfl | exact Or.inr rfl)) pgs_nil))) (i_enum c (q_fr e 75 rfl) x_var) (st_cons (w_ife (PW.pt (z_or (y_not (y_val (x_call c (q_fn e (f := 22) (i := 48) rfl rfl rfl bn22_1) (a_cons x_var a_nil)))) (z_or (y_cmp (c_lt c) x_var x_var) (z_or (PW.pt (z_and (y_cmp (c_isnot c) x_var x_non) (z_and1 (y_cmp (c_gt c) x_var x_var)))) (z_or1 (PW.pt (z_and (y_cmp (c_gt c) x_var x_int) (z_and1 (y_cmp (c_le c) x_var (x_idx c x_var (x_bin b_sub x_var x_int))))))))))) (st_cons (w_ret x_var)
  st_nil) st_nil)
  st_nil))
  (st_cons (w_ret x_non)
  st_nil))
theorem b21 (e : GQ tab fx gk cn P w G.K mg base k G cal) : BodyOk G P w G.K mg base n21 d21.io "least_pattern" (defScope s21) fa (defBody s21) k cal L d21.body := fun cdv A outer s H E C hG hfx c hp => by
  subst hG
  exact (st_cons (w_set c (nf hfx) (x_dcm c gp_name (blkOk_by (own := [("one", 3)]) (by rfl)) (i_any c x_var) (fun _ _ _ _ _ => (pg_name c.nd rfl (by first | exact Or.inl rfl | exact Or.inr rfl))) (fun _ _ _ _ _ c1 => f_nil) (fun _ _ _ _ _ c1 => x_var) (fun _ _ _ _ _ c1 => x_bl)))
  (st_cons (w_fr c hp gp_name (nfs hfx) (pg_name c.nd rfl (by first | exact Or.inl rfl | exact Or.inr rfl)) (i_rng2 c (q_fr e 12 rfl) x_int x_var) (st_cons (w_ife (y_cmp (c_eq c) (x_bin b_mod x_var x_var) x_int) (st_cons (w_setc c (nf hfx) gp_name (blkOk_by (own := [("one", 3)]) (by rfl)) (i_any c x_var) (fun _ _ _ _ _ => (pg_name c.nd rfl (by first | exact Or.inl rfl | exact Or.inr rfl))) (fun _ _ _ _ _ c1 => (f_one (y_cmp (c_lt c1) x_var x_var))) (fun _ _ _ _ _ c1 => x_var))
  (st_cons (w_ife (PW.pt (z_and (y_cmp (c_eq c) (x_bin b_mul (x_len c (q_fr e 58 rfl) x_var) (x_bin b_fdiv x_var x_var)) (x_len c (q_fr e 58 rfl) x_var)) (z_and1 (y_val (x_all c (q_fr e 55 rfl) (x_comp c gp_name (blkOk_by (own := [("one", 3)]) (by rfl)) (i_any c x_var) (fun _ _ _ _ _ => (pg_name c.nd rfl (by first | exact Or.inl rfl | exact Or.inr rfl))) (fun _ _ _ _ _ c1 => f_nil) (fun _ _ _ _ _ c1 => (x_cmp (c_in c1) (x_bin b_mod x_var x_var) x_var)))))))) (st_cons (w_ret (x_tup (a_cons x_var (a_cons x_var a_nil))))
  st_nil) st_nil)
  st_nil)) st_nil)
  st_nil))
  (st_cons (w_ret (x_tup (a_cons x_var (a_cons (x_toList c (q_fr e 11 rfl) x_var) a_nil))))
  st_nil)))
theorem b47 (e : GQ tab fx gk cn P w G.K mg base k G cal) : BodyOk G P w G.K mg base n47 d47.io "rounds_of" (defScope s47) fa (defBody s47) k cal L d47.body := fun cdv A outer s H E C hG hfx c hp => by
  subst hG
  exact (st_cons (w_ret (q_mk c e (cl := 0) rfl (ig := 39) rfl (im := 40) rfl (f := 4) rfl rfl bn4_4 (a_cons x_var (a_cons x_var (a_cons (x_sorted c (q_fr e 35 rfl) x_var) a_nil)))))
  st_nil)
end
theorem sc31 : FnScope n31 p31 (defScope s31) := ⟨rfl, rfl, rfl, by decide +kernel, rfl, by decide +kernel, by decide +kernel⟩
theorem sc2 : FnScope n2 p2 (defScope s2) := ⟨rfl, rfl, rfl, by decide +kernel, rfl, by decide +kernel, by decide +kernel⟩
theorem sc32 : FnScope n32 p32 (defScope s32) := ⟨rfl, rfl, rfl, by decide +kernel, rfl, by decide +kernel, by decide +kernel⟩
theorem sc33 : FnScope n33 p33 (defScope s33) := ⟨rfl, rfl, rfl, by decide +kernel, rfl, by decide +kernel, by decide +kernel⟩
theorem sc24 : FnScope n24 p24 (defScope s24) := ⟨rfl, rfl, rfl, by decide +kernel, rfl, by decide +kernel, by decide +kernel⟩
theorem sc34 : FnScope n34 p34 (defScope s34) := ⟨rfl, rfl, rfl, by decide +kernel, rfl, by decide +kernel, by decide +kernel⟩
theorem sc35 : FnScope n35 p35 (defScope s35) := ⟨rfl, rfl, rfl, by decide +kernel, rfl, by decide +kernel, by decide +kernel⟩
theorem sc36 : FnScope n36 p36 (defScope s36) := ⟨rfl, rfl, rfl, by decide +kernel, rfl, by decide +kernel, by decide +kernel⟩
theorem sc37 : FnScope n37 p37 (defScope s37) := ⟨rfl, rfl, rfl, by decide +kernel, rfl, by decide +kernel, by decide +kernel⟩
theorem sc103 : FnScope n103 p103 (defScope s103) := ⟨rfl, rfl, rfl, by decide +kernel, rfl, by decide +kernel, by decide +kernel⟩
theorem sc104 : FnScope n104 p104 (defScope s104) := ⟨rfl, rfl, rfl, by decide +kernel, rfl, by decide +kernel, by decide +kernel⟩
theorem sc105 : FnScope n105 p105 (defScope s105) := ⟨rfl, rfl, rfl, by decide +kernel, rfl, by decide +kernel, by decide +kernel⟩
theorem sc99 : FnScope n99 p99 (defScope s99) := ⟨rfl, rfl, rfl, by decide +kernel, rfl, by decide +kernel, by decide +kernel⟩
theorem sc106 : FnScope n106 p106 (defScope s106) := ⟨rfl, rfl, rfl, by decide +kernel, rfl, by decide +kernel, by decide +kernel⟩
theorem sc107 : FnScope n107 p107 (defScope s107) := ⟨rfl, rfl, rfl, by decide +kernel, rfl, by decide +kernel, by decide +kernel⟩
theorem sc5 : FnScope n5 p5 (defScope s5) := ⟨rfl, rfl, rfl, by decide +kernel, rfl, by decide +kernel, by decide +kernel⟩
theorem sc8 : FnScope n8 p8 (defScope s8) := ⟨rfl, rfl, rfl, by decide +kernel, rfl, by decide +kernel, by decide +kernel⟩
theorem sc13 : FnScope n13 p13 (defScope s13) := ⟨rfl, rfl, rfl, by decide +kernel, rfl, by decide +kernel, by decide +kernel⟩
theorem sc108 : FnScope n108 p108 (defScope s108) := ⟨rfl, rfl, rfl, by decide +kernel, rfl, by decide +kernel, by decide +kernel⟩
theorem sc109 : FnScope n109 p109 (defScope s109) := ⟨rfl, rfl, rfl, by decide +kernel, rfl, by decide +kernel, by decide +kernel⟩
theorem sc110 : FnScope n110 p110 (defScope s110) := ⟨rfl, rfl, rfl, by decide +kernel, rfl, by decide +kernel, by decide +kernel⟩
theorem sc10 : FnScope n10 p10 (defScope s10) := ⟨rfl, rfl, rfl, by decide +kernel, rfl, by decide +kernel, by decide +kernel⟩
theorem sc15 : FnScope n15 p15 (defScope s15) := ⟨rfl, rfl, rfl, by decide +kernel, rfl, by decide +kernel, by decide +kernel⟩
theorem sc17 : FnScope n17 p17 (defScope s17) := ⟨rfl, rfl, rfl, by decide +kernel, rfl, by decide +kernel, by decide +kernel⟩
theorem sc12 : FnScope n12 p12 (defScope s12) := ⟨rfl, rfl, rfl, by decide +kernel, rfl, by decide +kernel, by decide +kernel⟩
theorem sc40 : FnScope n40 p40 (defScope s40) := ⟨rfl, rfl, rfl, by decide +kernel, rfl, by decide +kernel, by decide +kernel⟩
theorem sc4 : FnScope n4 p4 (defScope s4) := ⟨rfl, rfl, rfl, by decide +kernel, rfl, by decide +kernel, by decide +kernel⟩
theorem sc9 : FnScope n9 p9 (defScope s9) := ⟨rfl, rfl, rfl, by decide +kernel, rfl, by decide +kernel, by decide +kernel⟩
theorem sc6 : FnScope n6 p6 (defScope s6) := ⟨rfl, rfl, rfl, by decide +kernel, rfl, by decide +kernel, by decide +kernel⟩
theorem sc7 : FnScope n7 p7 (defScope s7) := ⟨rfl, rfl, rfl, by decide +kernel, rfl, by decide +kernel, by decide +kernel⟩
theorem sc98 : FnScope n98 p98 (defScope s98) := ⟨rfl, rfl, rfl, by decide +kernel, rfl, by decide +kernel, by decide +kernel⟩
theorem sc41 : FnScope n41 p41 (defScope s41) := ⟨rfl, rfl, rfl, by decide +kernel, rfl, by decide +kernel, by decide +kernel⟩
theorem sc43 : FnScope n43 p43 (defScope s43) := ⟨rfl, rfl, rfl, by decide +kernel, rfl, by decide +kernel, by decide +kernel⟩
theorem sc39 : FnScope n39 p39 (defScope s39) := ⟨rfl, rfl, rfl, by decide +kernel, rfl, by decide +kernel, by decide +kernel⟩
theorem sc22 : FnScope n22 p22 (defScope s22) := ⟨rfl, rfl, rfl, by decide +kernel, rfl, by decide +kernel, by decide +kernel⟩
theorem sc100 : FnScope n100 p100 (defScope s100) := ⟨rfl, rfl, rfl, by decide +kernel, rfl, by decide +kernel, by decide +kernel⟩
theorem sc16 : FnScope n16 p16 (defScope s16) := ⟨rfl, rfl, rfl, by decide +kernel, rfl, by decide +kernel, by decide +kernel⟩
theorem sc46 : FnScope n46 p46 (defScope s46) := ⟨rfl, rfl, rfl, by decide +kernel, rfl, by decide +kernel, by decide +kernel⟩
theorem sc18 : FnScope n18 p18 (defScope s18) := ⟨rfl, rfl, rfl, by decide +kernel, rfl, by decide +kernel, by decide +kernel⟩
theorem sc19 : FnScope n19 p19 (defScope s19) := ⟨rfl, rfl, rfl, by decide +kernel, rfl, by decide +kernel, by decide +kernel⟩
theorem sc20 : FnScope n20 p20 (defScope s20) := ⟨rfl, rfl, rfl, by decide +kernel, rfl, by decide +kernel, by decide +kernel⟩
theorem sc21 : FnScope n21 p21 (defScope s21) := ⟨rfl, rfl, rfl, by decide +kernel, rfl, by decide +kernel, by decide +kernel⟩
theorem sc47 : FnScope n47 p47 (defScope s47) := ⟨rfl, rfl, rfl, by decide +kernel, rfl, by decide +kernel, by decide +kernel⟩
inductive All {α : Type} (P : α → Prop) : List α → Prop
  | nil : All P []
  | cons {a : α} {l : List α} : P a → All P l → All P (a :: l)
theorem All.mem {α : Type} {P : α → Prop} {l : List α} (h : All P l) : ∀ a ∈ l, P a := by
  induction h with
  | nil => intro a h; cases h
  | cons x _ ih =>
    intro a h
    cases h with
    | head => exact x
    | tail _ h => exact ih a h
theorem lookup_mem {β : Type} {f : Nat} {x : β} : ∀ {l : List (Nat × β)}, l.lookup f = some x → (f, x) ∈ l
  | [], h => by cases h
  | (g, y) :: r, h => by
    rw [List.lookup_cons] at h
    cases e : f == g with
    | true => rw [e] at h; cases h; rw [beq_iff_eq.mp e]; exact List.mem_cons_self ..
    | false => rw [e] at h; exact List.mem_cons_of_mem _ (lookup_mem h)
/-- the facts of the top -/
structure Top (K : PySem.W.Frag) (mg : PySem.Str → Option Value) (G : Gm) : Prop where
  eK : G.K = K
  fd : All (fun e : Nat × (He5.DefA × List PySem.Str) => ∃ fd, FunD K e.2.1.name e.2.1.qual e.2.1.params e.2.1.body e.2.1.scope (e.2.1.dvs K) (e.2.1.kws K) (e.2.1.at_ K) fd) tabL
  fxs : ∀ (i : Nat) (f : Fx), fx[i]? = some f → f.ok K = true
  gs : ∀ (i : Nat) (x : PySem.Str) (t : T), gk[i]? = some (x, t) → ∃ u v, mg x = some u ∧ RelV v u ∧ ∀ w, RF G w t v
  glo : ∀ (i : Nat) (x : PySem.Str), fx[i]? = some (.glo x) → mg x = some (.ref (He.ga K x))
  fre : ∀ (i : Nat) (x : PySem.Str), fx[i]? = some (.free x) → mg x = none
  bf : ∀ (i : Nat) (x : PySem.Str) (id : String), fx[i]? = some (.bfun x id) → mg x = some (.builtin id)
  cn : ∀ (c : Nat) (x : PySem.Str), cn[c]? = some x → G.cls c = He.ga K x
theorem all {P : Program} {w : World} {mg : PySem.Str → Option Value} {base : Heap} {G : Gm} {L : Nat} (t : Top G.K mg G) : ∀ k, GQ tab fx gk cn P w G.K mg base k G (callF Γ L k)
  | 0 => ⟨fun f d ps h => by
      obtain ⟨fd, F⟩ := t.fd.mem _ (lookup_mem h)
      exact ⟨fd, F, fn_zero.imp fun _ _ _ _ h => h.2⟩, t.fxs, t.gs, t.glo, t.fre, t.bf, t.cn, t.eK⟩
  | k + 1 => by
    have ih := all (P := P) (w := w) (base := base) (L := L) t k
    refine ⟨fun f d ps h => ?_, t.fxs, t.gs, t.glo, t.fre, t.bf, t.cn, t.eK⟩
    refine (All.mem (P := fun e : Nat × (He5.DefA × List PySem.Str) => ∀ fd, FunD G.K e.2.1.name e.2.1.qual e.2.1.params e.2.1.body e.2.1.scope (e.2.1.dvs G.K) (e.2.1.kws G.K) (e.2.1.at_ G.K) fd → ∃ fd, FunD G.K e.2.1.name e.2.1.qual e.2.1.params e.2.1.body e.2.1.scope (e.2.1.dvs G.K) (e.2.1.kws G.K) (e.2.1.at_ G.K) fd ∧ FnOk P w G.K mg base (L2.CX P w) (2 * (k + 1)) (e.2.1.at_ G.K) fd e.2.2 (spQ G (callF Γ L (k + 1)) e.1 e.2.1 e.2.2)) ?_ (f, (d, ps)) (lookup_mem h)) _ (t.fd.mem _ (lookup_mem h)).choose_spec
    exact .cons (fun fd F => ⟨fd, F, (Mi.fn_ok F sc31 rfl (d := d31) rfl rfl rfl rfl (by decide) (b31 ih)).imp fun _ _ _ _ h => h.2⟩) (
      .cons (fun fd F => ⟨fd, F, (Mi.fn_ok F sc2 rfl (d := d2) rfl rfl rfl rfl (by decide) (b2 ih)).imp fun _ _ _ _ h => h.2⟩) (
      .cons (fun fd F => ⟨fd, F, (Mi.fn_ok F sc32 rfl (d := d32) rfl rfl rfl rfl (by decide) (b32 ih)).imp fun _ _ _ _ h => h.2⟩) (
      .cons (fun fd F => ⟨fd, F, (Mi.fn_ok F sc33 rfl (d := d33) rfl rfl rfl rfl (by decide) (b33 ih)).imp fun _ _ _ _ h => h.2⟩) (
      .cons (fun fd F => ⟨fd, F, (Mi.fn_ok F sc24 rfl (d := d24) rfl rfl rfl rfl (by decide) (b24 ih)).imp fun _ _ _ _ h => h.2⟩) (
      .cons (fun fd F => ⟨fd, F, (Mi.fn_ok F sc34 rfl (d := d34) rfl rfl rfl rfl (by decide) (b34 ih)).imp fun _ _ _ _ h => h.2⟩) (
      .cons (fun fd F => ⟨fd, F, (Mi.fn_ok F sc35 rfl (d := d35) rfl rfl rfl rfl (by decide) (b35 ih)).imp fun _ _ _ _ h => h.2⟩) (
      .cons (fun fd F => ⟨fd, F, (Mi.fn_ok F sc36 rfl (d := d36) rfl rfl rfl rfl (by decide) (b36 ih)).imp fun _ _ _ _ h => h.2⟩) (
      .cons (fun fd F => ⟨fd, F, (Mi.fn_ok F sc37 rfl (d := d37) rfl rfl rfl rfl (by decide) (b37 ih)).imp fun _ _ _ _ h => h.2⟩) (
      .cons (fun fd F => ⟨fd, F, (Mi.fn_ok F sc103 rfl (d := d103) rfl rfl rfl rfl (by decide) (b103 ih)).imp fun _ _ _ _ h => h.2⟩) (
      .cons (fun fd F => ⟨fd, F, (Mi.fn_ok F sc104 rfl (d := d104) rfl rfl rfl rfl (by decide) (b104 ih)).imp fun _ _ _ _ h => h.2⟩) (
      .cons (fun fd F => ⟨fd, F, (Mi.fn_ok F sc105 rfl (d := d105) rfl rfl rfl rfl (by decide) (b105 ih)).imp fun _ _ _ _ h => h.2⟩) (
      .cons (fun fd F => ⟨fd, F, (Mi.fn_ok F sc99 rfl (d := d99) rfl rfl rfl rfl (by decide) (b99 ih)).imp fun _ _ _ _ h => h.2⟩) (
      .cons (fun fd F => ⟨fd, F, (Mi.fn_ok F sc106 rfl (d := d106) rfl rfl rfl rfl (by decide) (b106 ih)).imp fun _ _ _ _ h => h.2⟩) (
      .cons (fun fd F => ⟨fd, F, (Mi.fn_ok F sc107 rfl (d := d107) rfl rfl rfl rfl (by decide) (b107 ih)).imp fun _ _ _ _ h => h.2⟩) (
      .cons (fun fd F => ⟨fd, F, (Mi.fn_ok F sc5 rfl (d := d5) rfl rfl rfl rfl (by decide) (b5 ih)).imp fun _ _ _ _ h => h.2⟩) (
      .cons (fun fd F => ⟨fd, F, (Mi.fn_ok F sc8 rfl (d := d8) rfl rfl rfl rfl (by decide) (b8 ih)).imp fun _ _ _ _ h => h.2⟩) (
      .cons (fun fd F => ⟨fd, F, (Mi.fn_ok F sc13 rfl (d := d13) rfl rfl rfl rfl (by decide) (b13 ih)).imp fun _ _ _ _ h => h.2⟩) (
      .cons (fun fd F => ⟨fd, F, (Mi.fn_ok F sc108 rfl (d := d108) rfl rfl rfl rfl (by decide) (b108 ih)).imp fun _ _ _ _ h => h.2⟩) (
      .cons (fun fd F => ⟨fd, F, (Mi.fn_ok F sc109 rfl (d := d109) rfl rfl rfl rfl (by decide) (b109 ih)).imp fun _ _ _ _ h => h.2⟩) (
      .cons (fun fd F => ⟨fd, F, (Mi.fn_ok F sc110 rfl (d := d110) rfl rfl rfl rfl (by decide) (b110 ih)).imp fun _ _ _ _ h => h.2⟩) (
      .cons (fun fd F => ⟨fd, F, (Mi.fn_ok F sc10 rfl (d := d10) rfl rfl rfl rfl (by decide) (b10 ih)).imp fun _ _ _ _ h => h.2⟩) (
      .cons (fun fd F => ⟨fd, F, (Mi.fn_ok F sc15 rfl (d := d15) rfl rfl rfl rfl (by decide) (b15 ih)).imp fun _ _ _ _ h => h.2⟩) (
      .cons (fun fd F => ⟨fd, F, (Mi.fn_ok F sc17 rfl (d := d17) rfl rfl rfl rfl (by decide) (b17 ih)).imp fun _ _ _ _ h => h.2⟩) (
      .cons (fun fd F => ⟨fd, F, (Mi.fn_ok F sc12 rfl (d := d12) rfl rfl rfl rfl (by decide) (b12 ih)).imp fun _ _ _ _ h => h.2⟩) (
      .cons (fun fd F => ⟨fd, F, (Mi.fn_ok F sc40 rfl (d := d40) rfl rfl rfl rfl (by decide) (b40 ih)).imp fun _ _ _ _ h => h.2⟩) (
      .cons (fun fd F => ⟨fd, F, (Mi.fn_ok F sc4 rfl (d := d4) rfl rfl rfl rfl (by decide) (b4 ih)).imp fun _ _ _ _ h => h.2⟩) (
      .cons (fun fd F => ⟨fd, F, (Mi.fn_ok F sc9 rfl (d := d9) rfl rfl rfl rfl (by decide) (b9 ih)).imp fun _ _ _ _ h => h.2⟩) (
      .cons (fun fd F => ⟨fd, F, (Mi.fn_ok F sc6 rfl (d := d6) rfl rfl rfl rfl (by decide) (b6 ih)).imp fun _ _ _ _ h => h.2⟩) (
      .cons (fun fd F => ⟨fd, F, (Mi.fn_ok F sc7 rfl (d := d7) rfl rfl rfl rfl (by decide) (b7 ih)).imp fun _ _ _ _ h => h.2⟩) (
      .cons (fun fd F => ⟨fd, F, (Mi.fn_ok F sc98 rfl (d := d98) rfl rfl rfl rfl (by decide) (b98 ih)).imp fun _ _ _ _ h => h.2⟩) (
      .cons (fun fd F => ⟨fd, F, (Mi.fn_ok F sc41 rfl (d := d41) rfl rfl rfl rfl (by decide) (b41 ih)).imp fun _ _ _ _ h => h.2⟩) (
      .cons (fun fd F => ⟨fd, F, (Mi.fn_ok F sc43 rfl (d := d43) rfl rfl rfl rfl (by decide) (b43 ih)).imp fun _ _ _ _ h => h.2⟩) (
      .cons (fun fd F => ⟨fd, F, (Mi.fn_ok F sc39 rfl (d := d39) rfl rfl rfl rfl (by decide) (b39 ih)).imp fun _ _ _ _ h => h.2⟩) (
      .cons (fun fd F => ⟨fd, F, (Mi.fn_ok F sc22 rfl (d := d22) rfl rfl rfl rfl (by decide) (b22 ih)).imp fun _ _ _ _ h => h.2⟩) (
      .cons (fun fd F => ⟨fd, F, (Mi.fn_ok F sc100 rfl (d := d100) rfl rfl rfl rfl (by decide) (b100 ih)).imp fun _ _ _ _ h => h.2⟩) (
      .cons (fun fd F => ⟨fd, F, (Mi.fn_ok F sc16 rfl (d := d16) rfl rfl rfl rfl (by decide) (b16 ih)).imp fun _ _ _ _ h => h.2⟩) (
      .cons (fun fd F => ⟨fd, F, (Mi.fn_ok F sc46 rfl (d := d46) rfl rfl rfl rfl (by decide) (b46 ih)).imp fun _ _ _ _ h => h.2⟩) (
      .cons (fun fd F => ⟨fd, F, (Mi.fn_ok F sc18 rfl (d := d18) rfl rfl rfl rfl (by decide) (b18 ih)).imp fun _ _ _ _ h => h.2⟩) (
      .cons (fun fd F => ⟨fd, F, (Mi.fn_ok F sc19 rfl (d := d19) rfl rfl rfl rfl (by decide) (b19 ih)).imp fun _ _ _ _ h => h.2⟩) (
      .cons (fun fd F => ⟨fd, F, (Mi.fn_ok F sc20 rfl (d := d20) rfl rfl rfl rfl (by decide) (b20 ih)).imp fun _ _ _ _ h => h.2⟩) (
      .cons (fun fd F => ⟨fd, F, (Mi.fn_ok F sc21 rfl (d := d21) rfl rfl rfl rfl (by decide) (b21 ih)).imp fun _ _ _ _ h => h.2⟩) (
      .cons (fun fd F => ⟨fd, F, (Mi.fn_ok F sc47 rfl (d := d47) rfl rfl rfl rfl (by decide) (b47 ih)).imp fun _ _ _ _ h => h.2⟩) (
      .nil)))))))))))))))))))))))))))))))))))))))))))
end K33
set_option maxHeartbeats 0
namespace K33
open PySem PySem.Spec PyProof.Rows L2 Mi MiDR
noncomputable abbrev R : PySem.W.OpenRow := PySem.W.OpenLaw.row PySem.Challenge.rw_loneround_k33_whole_answers_combined
noncomputable def fn : List He5.DefA := tabL.map (·.2.1)
noncomputable abbrev hk : PySem.W.Hook := hookT 6 fx fn gk
theorem top_of {K : PySem.W.Frag} {h : Heap} {mg : PySem.Str → Option Value} (X : K.In h) (Gn : h.Ns mainGlobals mg) (c : SaysQ fx fn gk K) : Top K mg ⟨K, clsOf K cn⟩ where
  eK := rfl
  fd := .cons (c.def_ 0 rfl) (.cons (c.def_ 1 rfl) (.cons (c.def_ 2 rfl) (.cons (c.def_ 3 rfl) (.cons (c.def_ 4 rfl) (.cons (c.def_ 5 rfl) (.cons (c.def_ 6 rfl) (.cons (c.def_ 7 rfl) (.cons (c.def_ 8 rfl) (.cons (c.def_ 9 rfl) (.cons (c.def_ 10 rfl) (.cons (c.def_ 11 rfl) (.cons (c.def_ 12 rfl) (.cons (c.def_ 13 rfl) (.cons (c.def_ 14 rfl) (.cons (c.def_ 15 rfl) (.cons (c.def_ 16 rfl) (.cons (c.def_ 17 rfl) (.cons (c.def_ 18 rfl) (.cons (c.def_ 19 rfl) (.cons (c.def_ 20 rfl) (.cons (c.def_ 21 rfl) (.cons (c.def_ 22 rfl) (.cons (c.def_ 23 rfl) (.cons (c.def_ 24 rfl) (.cons (c.def_ 25 rfl) (.cons (c.def_ 26 rfl) (.cons (c.def_ 27 rfl) (.cons (c.def_ 28 rfl) (.cons (c.def_ 29 rfl) (.cons (c.def_ 30 rfl) (.cons (c.def_ 31 rfl) (.cons (c.def_ 32 rfl) (.cons (c.def_ 33 rfl) (.cons (c.def_ 34 rfl) (.cons (c.def_ 35 rfl) (.cons (c.def_ 36 rfl) (.cons (c.def_ 37 rfl) (.cons (c.def_ 38 rfl) (.cons (c.def_ 39 rfl) (.cons (c.def_ 40 rfl) (.cons (c.def_ 41 rfl) (.cons (c.def_ 42 rfl) (.nil)))))))))))))))))))))))))))))))))))))))))))
  fxs := fun i f h => c.fact f (List.mem_of_getElem? h)
  gs := fun i x t h => globK_ok (G := ⟨K, clsOf K cn⟩) X Gn (c.g _ (List.mem_of_getElem? h))
  glo := fun i x h => He.glo_ok X Gn (c.fact _ (List.mem_of_getElem? h))
  fre := fun i x h => He.free_ok X Gn (c.fact _ (List.mem_of_getElem? h))
  bf := fun i x id h => PySem.W.mg_of X Gn (eqv_ok (c.fact _ (List.mem_of_getElem? h)))
  cn := fun c x h => by show clsOf K cn c = _; unfold clsOf; rw [h]
end K33
set_option maxHeartbeats 2000000
namespace RndM
open Mi
/-! ### counting, plain -/
theorem count_per (f : Nat → Bool) (d : Nat) (hd : 0 < d) : ∀ q, ((List.range (d * q)).countP fun n => f (n % d)) = q * (List.range d).countP f
  | 0 => by simp
  | q + 1 => by
    rw [Nat.mul_succ, List.range_add, List.countP_append, count_per f d hd q, List.countP_map]
    have : (List.range d).countP ((fun n => f (n % d)) ∘ fun x => d * q + x) = (List.range d).countP f := by
      refine List.countP_congr fun n hn => ?_
      have := List.mem_range.mp hn
      show f ((d * q + n) % d) = true ↔ f n = true
      rw [Nat.mul_add_mod, Nat.mod_eq_of_lt this]
    rw [this, Nat.succ_mul]
theorem count_eq (f g : Nat → Bool) : ∀ l : List Nat, (∀ n ∈ l, f n = true → g n = true) → l.countP f = l.countP g → ∀ n ∈ l, g n = true → f n = true
  | [], _, _, n, hn, _ => by simp at hn
  | a :: l, h, e, n, hn, hg => by
    have hl : ∀ n ∈ l, f n = true → g n = true := fun n hn => h n (by simp [hn])
    have mono : l.countP f ≤ l.countP g := List.countP_mono_left hl
    rw [List.countP_cons, List.countP_cons] at e
    have ha := h a (by simp)
    by_cases fa : f a = true
    · have ga := ha fa
      rw [if_pos fa, if_pos ga] at e
      rcases List.mem_cons.mp hn with rfl | hn
      · exact fa
      · exact count_eq f g l hl (by omega) n hn hg
    · rw [if_neg fa] at e
      by_cases ga : g a = true
      · rw [if_pos ga] at e; omega
      · rw [if_neg ga] at e
        rcases List.mem_cons.mp hn with rfl | hn
        · exact absurd hg ga
        · exact count_eq f g l hl (by omega) n hn hg
theorem per_iff (f : Nat → Bool) (d q : Nat) (hd : 0 < d) : ((List.range d).countP f * q = (List.range (d * q)).countP f ∧ ∀ n < d * q, f n = true → f (n % d) = true) ↔ ∀ n < d * q, f (n % d) = f n := by
  have cp := count_per f d hd q
  constructor
  · rintro ⟨h1, h2⟩ n hn
    have key := count_eq f (fun n => f (n % d)) (List.range (d * q)) (fun n hn => h2 n (List.mem_range.mp hn)) (by rw [cp, ← h1, Nat.mul_comm]) n (List.mem_range.mpr hn)
    cases h : f n with
    | true => exact h2 n hn h
    | false =>
      cases g : f (n % d) with
      | false => rfl
      | true => rw [key g] at h; cases h
  · intro h
    refine ⟨?_, fun n hn fn => by rw [h n hn]; exact fn⟩
    rw [Nat.mul_comm, ← cp]
    exact List.countP_congr fun n hn => by rw [h n (List.mem_range.mp hn)]
/-! ### ascending lists -/
theorem asc_ext {xs ys : List Int} (hx : xs.Pairwise (· < ·)) (hy : ys.Pairwise (· < ·)) (h : ∀ x, x ∈ xs ↔ x ∈ ys) : xs = ys :=
  (asc_sub ys xs hx hy fun x hx => (h x).mp hx).eq_of_length_le (asc_sub xs ys hy hx fun x hx => (h x).mpr hx).length_le
theorem asc_filter {xs : List Int} {P : Int → Bool} (h : xs.Pairwise (· < ·)) : (xs.filter P).Pairwise (· < ·) := List.Pairwise.sublist List.filter_sublist h
theorem len_count (cs : List Int) (hi : Int) (ha : cs.Pairwise (· < ·)) (h0 : ∀ x ∈ cs, 0 ≤ x) : (cs.filter fun x => decide (x < hi)).length = (List.range hi.toNat).countP fun (n : Nat) => decide ((n : Int) ∈ cs) := by
  have e : (cs.filter fun x => decide (x < hi)) = (rngI 0 hi).filter fun x => decide (x ∈ cs) := asc_ext (asc_filter ha) (asc_filter (asc_rngI 0 hi)) fun x => by
    simp only [List.mem_filter, decide_eq_true_eq, mem_rngI]
    exact ⟨fun ⟨a, b⟩ => ⟨⟨h0 x a, b⟩, a⟩, fun ⟨⟨_, b⟩, a⟩ => ⟨a, b⟩⟩
  rw [e, ← List.countP_eq_length_filter]
  unfold rngI
  rw [List.countP_map, Int.sub_zero]
  refine List.countP_congr fun n _ => ?_
  simp [Function.comp]
theorem filter_lt_self {cs : List Int} {p : Int} (h : ∀ x ∈ cs, x < p) : (cs.filter fun x => decide (x < p)) = cs := List.filter_eq_self.mpr fun x hx => decide_eq_true (h x hx)
/-- the two ways to say that d is a period -/
theorem good_iff {p d : Int} {cs : List Int} (h0 : 0 < d) (hp : 0 < p) (ha : cs.Pairwise (· < ·)) (hb : ∀ x ∈ cs, 0 ≤ x ∧ x < p) (hd : p % d = 0) :
    ((((cs.filter fun x => decide (x < d)).length : Int) * (p / d) = cs.length) ∧ (cs.all fun x => decide (x % d ∈ cs)) = true) ↔ ((rngI 0 p).all fun x => decide (x % d ∈ cs) == decide (x ∈ cs)) = true := by
  obtain ⟨d, rfl⟩ := Int.eq_ofNat_of_zero_le (show 0 ≤ d by omega)
  have hq0 : 0 ≤ p / (d : Int) := Int.ediv_nonneg (by omega) (by omega)
  obtain ⟨q, hq⟩ := Int.eq_ofNat_of_zero_le hq0
  have pe : p = ((d * q : Nat) : Int) := by
    have := Int.mul_ediv_add_emod p d
    rw [hd, hq, Int.add_zero] at this
    rw [← this]; simp
  subst pe
  have hd' : 0 < d := by omega
  have pi := per_iff (fun (n : Nat) => decide ((n : Int) ∈ cs)) d q hd'
  have l1 := len_count cs d ha fun x hx => (hb x hx).1
  have l2 := len_count cs ((d * q : Nat) : Int) ha fun x hx => (hb x hx).1
  rw [filter_lt_self fun x hx => (hb x hx).2] at l2
  simp only [Int.toNat_natCast] at l1 l2
  rw [hq, l1, l2]
  have e1 : (((List.range d).countP fun (n : Nat) => decide ((n : Int) ∈ cs) : Nat) : Int) * (q : Int) = ((List.range (d * q)).countP fun (n : Nat) => decide ((n : Int) ∈ cs) : Nat) ↔ (List.range d).countP (fun (n : Nat) => decide ((n : Int) ∈ cs)) * q = (List.range (d * q)).countP fun (n : Nat) => decide ((n : Int) ∈ cs) := by
    constructor
    · intro h; exact Int.ofNat.inj (by simpa using h)
    · intro h; rw [← h]; simp
  have e2 : (cs.all fun x => decide (x % (d : Int) ∈ cs)) = true ↔ ∀ n < d * q, decide ((n : Int) ∈ cs) = true → decide (((n % d : Nat) : Int) ∈ cs) = true := by
    rw [List.all_eq_true]
    constructor
    · intro h n hn hc
      have := h n (of_decide_eq_true hc)
      simpa using this
    · intro h x hx
      obtain ⟨b1, b2⟩ := hb x hx
      obtain ⟨n, rfl⟩ := Int.eq_ofNat_of_zero_le b1
      have := h n (by omega) (decide_eq_true hx)
      simpa using this
  have e3 : ((rngI 0 ((d * q : Nat) : Int)).all fun x => decide (x % (d : Int) ∈ cs) == decide (x ∈ cs)) = true ↔ ∀ n < d * q, decide (((n % d : Nat) : Int) ∈ cs) = decide ((n : Int) ∈ cs) := by
    rw [List.all_eq_true]
    constructor
    · intro h n hn
      have := h n (mem_rngI.mpr ⟨by omega, by omega⟩)
      simpa using this
    · intro h x hx
      obtain ⟨b1, b2⟩ := mem_rngI.mp hx
      obtain ⟨n, rfl⟩ := Int.eq_ofNat_of_zero_le b1
      have := h n (by omega)
      simpa using this
  rw [e1, e2, e3]
  exact pi
theorem find_congr {α : Type} {f g : α → Bool} : ∀ {l : List α}, (∀ x ∈ l, f x = g x) → l.find? f = l.find? g
  | [], _ => rfl
  | a :: l, h => by
    rw [List.find?_cons, List.find?_cons, h a (by simp), find_congr fun x hx => h x (by simp [hx])]
end RndM
set_option maxHeartbeats 2000000
namespace RndP
open PySem PySem.Spec PyProof.Rows L2 Mi MiDR

section
variable {Γ : Nat → Option Def} {L k : Nat} (hΓ : ∀ f d, pg f = some d → Γ f = some d)
include hΓ
theorem whole_ok (v : Int) : callF Γ L (k + 1) 22 [.fz (.int v)] = .ok (.fz (.bl true)) [.no] := by
  have hb : evSs (callF Γ L k) L d22.body ([.fz (.int v)] ++ List.replicate (d22.ns - d22.np) .no) = .rt (.fz (.bl true)) [.fz (.int v)] := rfl
  rw [run_fz (d := d22) (args := [.fz (.int v)]) (hΓ 22 _ rfl) rfl hb]
  rfl
theorem num_ok {v lo hi : Int} (h1 : lo ≤ v) (h2 : v ≤ hi) : callF Γ L (k + 2) 18 [.fz (.int v), .fz (.int lo), .fz (.int hi)] = .ok (.fz (.bl true)) [.no, .no, .no] := by
  have hb : evSs (callF Γ L (k + 1)) L d18.body ([.fz (.int v), .fz (.int lo), .fz (.int hi)] ++ List.replicate (d18.ns - d18.np) .no) = .rt (.fz (.bl true)) [.fz (.int v), .fz (.int lo), .fz (.int hi)] := by
    have w := whole_ok hΓ (L := L) (k := k) v
    unfold d18 t18_0
    simp [evSs, evS, evE, evDs, Res.bind, ofR, R.opd, callR, pass, back, esc, w, outR, opR, ders, der, opF, op2, cmpF, fB, h1, h2]
  rw [run_fz (d := d18) (args := [.fz (.int v), .fz (.int lo), .fz (.int hi)]) (hΓ 18 _ rfl) rfl hb]
  rfl
/-- a list or a tuple of whole numbers -/
noncomputable def Sq (t : T) (xs : List Int) : Prop := t = .lst (tI xs) ∨ t = .tup (tI xs)
theorem list_ok {t : T} {xs : List Int} (h : Sq t xs) : callF Γ L (k + 1) 19 [.fz t] = .ok (.fz (.bl true)) [.no] := by
  have hb : evSs (callF Γ L k) L d19.body ([.fz t] ++ List.replicate (d19.ns - d19.np) .no) = .rt (.fz (.bl true)) [.fz t] := by rcases h with rfl | rfl <;> rfl
  rw [run_fz (d := d19) (args := [.fz t]) (hΓ 19 _ rfl) rfl hb]
  rfl
noncomputable def Most (m : T) (xs : List Int) : Prop := m = .non ∨ ∃ hi, m = .int hi ∧ ∀ x ∈ xs, x ≤ hi
theorem fault_loop {t m : T} {xs : List Int} (h : Sq t xs) {lo : Int} (hlo : ∀ x ∈ xs, lo ≤ x) (hm : Most m xs) (ha : xs.Pairwise (· < ·)) : ∀ (pre rest : List Int) (s3 s4 : Slot), xs = pre ++ rest →
    ∃ s3' s4', forGo (.tup (.cons (.nm 3) (.cons (.nm 4) .nil))) (fun m => evSs (callF Γ L (k + 1)) L l20_0 m) (enumT pre.length (tI rest)) [.fz t, .fz (.int lo), .fz m, s3, s4] = .nx [.fz t, .fz (.int lo), .fz m, s3', s4']
  | pre, [], s3, s4, _ => ⟨s3, s4, rfl⟩
  | pre, x :: rest, s3, s4, e => by
    obtain ⟨s3', s4', ih⟩ := fault_loop h hlo hm ha (pre ++ [x]) rest (.fz (.int pre.length)) (.fz (.int x)) (by rw [e]; simp)
    refine ⟨s3', s4', ?_⟩
    rw [tI_cons, enumT]
    unfold forGo
    have w := whole_ok hΓ (L := L) (k := k) x
    have hx : x ∈ xs := by rw [e]; simp
    have h1 : ¬ x < lo := by have := hlo x hx; omega
    have hb : bindP [.fz t, .fz (.int lo), .fz m, s3, s4] (.tup (.cons (.nm 3) (.cons (.nm 4) .nil))) (.tup [.int (pre.length : Int), .int x]) = some [.fz t, .fz (.int lo), .fz m, .fz (.int pre.length), .fz (.int x)] := by simp [bindP, bindPs]
    rw [hb]
    have hs : evSs (callF Γ L (k + 1)) L l20_0 [.fz t, .fz (.int lo), .fz m, .fz (.int pre.length), .fz (.int x)] = .nx [.fz t, .fz (.int lo), .fz m, .fz (.int pre.length), .fz (.int x)] := by
      unfold l20_0
      have h3 : (pre.length : Int) > 0 → ∃ y, atI (tI xs) ((pre.length : Int) - 1) = some (.int y) ∧ ¬ x ≤ y := fun hp => by
        obtain ⟨pre', y, hy⟩ : ∃ pre' y, pre = pre' ++ [y] := by
          rcases List.eq_nil_or_concat pre with z | ⟨p', y, z⟩
          · rw [z] at hp; simp at hp
          · exact ⟨p', y, by simpa using z⟩
        refine ⟨y, ?_, ?_⟩
        · refine atI_nat (n := pre'.length) (by rw [hy]; simp) ?_
          rw [e, hy]
          simp [tI]
        · rw [e, hy] at ha
          have := (List.pairwise_append.mp ha).2.2 y (by simp) x (by simp)
          omega
      by_cases hp : (pre.length : Int) > 0
      · obtain ⟨y, a1, a2⟩ := h3 hp
        have a3 : idxF t (.int ((pre.length : Int) - 1)) = some (.fz (.int y)) := by
          rcases h with rfl | rfl <;> (show (atI (tI xs) _).map _ = _; rw [a1]; rfl)
        have hp' : 0 < pre.length := by omega
        rcases hm with rfl | ⟨hi, rfl, hm⟩
        · simp [evSs, evS, evE, evDs, Res.bind, ofR, R.opd, callR, pass, back, esc, w, opR, ders, der, opF, op2, cmpF, fB, fI, isnF, Mi.isNon, subF, h1, hp', a2, a3]
        · have := hm x hx
          have h4 : ¬ hi < x := by omega
          simp [evSs, evS, evE, evDs, Res.bind, ofR, R.opd, callR, pass, back, esc, w, opR, ders, der, opF, op2, cmpF, fB, fI, isnF, Mi.isNon, subF, h1, hp', a2, a3, h4]
      · have hp' : ¬ 0 < pre.length := by omega
        rcases hm with rfl | ⟨hi, rfl, hm⟩
        · simp [evSs, evS, evE, evDs, Res.bind, ofR, R.opd, callR, pass, back, esc, w, opR, ders, der, opF, op2, cmpF, fB, fI, isnF, Mi.isNon, subF, h1, hp']
        · have := hm x hx
          have h4 : ¬ hi < x := by omega
          simp [evSs, evS, evE, evDs, Res.bind, ofR, R.opd, callR, pass, back, esc, w, opR, ders, der, opF, op2, cmpF, fB, fI, isnF, Mi.isNon, subF, h1, hp', h4]
    simp only [hs]
    rw [List.length_append] at ih
    exact ih
theorem fault_ok {t m : T} {xs : List Int} (h : Sq t xs) {lo : Int} (hlo : ∀ x ∈ xs, lo ≤ x) (hm : Most m xs) (ha : xs.Pairwise (· < ·)) (hl : xs.length ≤ sizeLine) : callF Γ L (k + 2) 20 [.fz t, .fz (.int lo), .fz m] = .ok (.fz .non) [.no, .no, .no] := by
  obtain ⟨s3, s4, e⟩ := fault_loop hΓ (L := L) (k := k) h hlo hm ha [] xs .no .no rfl
  have hb : evSs (callF Γ L (k + 1)) L d20.body ([.fz t, .fz (.int lo), .fz m] ++ List.replicate (d20.ns - d20.np) .no) = .rt (.fz .non) [.fz t, .fz (.int lo), .fz m, s3, s4] := by
    have hs : evSrc (callF Γ L (k + 1)) (.enum (.var 0)) [.fz t, .fz (.int lo), .fz m, .no, .no] = .ok (enumT 0 (tI xs)) [.fz t, .fz (.int lo), .fz m, .no, .no] := by
      rcases h with rfl | rfl <;> simp [evSrc, evE, Res.bind, R.opd, esc, loE]
    unfold d20 t20_0 t20_1
    have e' : forGo (.tup (.cons (.nm 3) (.cons (.nm 4) .nil))) (fun m => evSs (callF Γ L (k + 1)) L l20_0 m) (enumT 0 (tI xs)) [.fz t, .fz (.int lo), .fz m, .no, .no] = _ := e
    simp [evSs, evS, hs, e', evE, ofR, outR]
  rw [run_fz (d := d20) (args := [.fz t, .fz (.int lo), .fz m]) (hΓ 20 _ rfl) rfl hb]
  rfl
end
/-! ### the least pattern -/
noncomputable def good (p : Int) (cs : List Int) (d : Int) : Bool := decide (p % d = 0) && (decide (((cs.filter fun x => decide (x < d)).length : Int) * (p / d) = cs.length) && cs.all fun x => decide (x % d ∈ cs))
noncomputable def lp (p : Int) (cs : List Int) : Int × List Int := match (rngI 1 p).find? (good p cs) with
  | some d => (d, cs.filter fun x => decide (x < d))
  | none => (p, cs)
noncomputable def lpM (p : Int) (cs : List Int) (s4 s5 : Slot) : List Slot := [.fz (.int p), .fz (.lst (tI cs)), .ow (.dic (dI cs)), .no, s4, s5]
theorem nat64 {d : Int} (h0 : 0 < d) (h : d ≤ 1000000) : d.natAbs.log2 < 9000 := by
  have : d.natAbs.log2 ≤ 64 := Nat.le_of_lt ((Nat.log2_lt (by omega)).mpr (by omega))
  omega
theorem modI {a d : Int} (h : 0 < d) : modF (.int a) (.int d) = fI (a % d) := if_pos h
theorem fdivI {a d : Int} (h : 0 < d) (h' : d ≤ 1000000) : fdivF (.int a) (.int d) = fI (a / d) := if_pos ⟨h, nat64 h h'⟩
theorem mulI {a b : Int} (h : a.natAbs < 2 ^ 200) (h' : b.natAbs < 2 ^ 200) : mulF (.int a) (.int b) = fI (a * b) := mulF_ok h h'
theorem all_comp {cal : Nat → List Slot → CRes} {e : E} {m : List Slot} {f : Int → Bool} {xs : List Int} (h : evE cal e m = .ok (.ow (.lst (xs.map fun x => T.bl (f x)))) m) : evE cal (.op .all (.cons e .nil)) m = .ok (.fz (.bl (xs.all f))) m := by
  rw [evE, evDs, h]
  simp only [Res.bind, evDs, R.opd, O.frz, opR, ders, der, opF, op1, Option.bind_some, all_map, fB]
theorem lp_body {cal : Nat → List Slot → CRes} {L : Nat} {p d : Int} {cs : List Int} (h0 : 0 < d) (hd : d < p) (hp : p ≤ 1000000) (hl : cs.length ≤ sizeLine) {s5 : Slot} :
    (good p cs d = true → ∃ m', evSs cal L l21_0 (lpM p cs (.fz (.int d)) s5) = .rt (.fz (.tup [.int d, .lst (tI (cs.filter fun x => decide (x < d)))])) m') ∧ (good p cs d = false → ∃ s5', evSs cal L l21_0 (lpM p cs (.fz (.int d)) s5) = .nx (lpM p cs (.fz (.int d)) s5')) := by
  have m1 : modF (.int p) (.int d) = fI (p % d) := modI h0
  have c1 : ∀ s5, evE cal (.comp [3] (.nm 3) (.it (.var 1)) (.cons (.op .lt (.cons (.var 3) (.cons (.var 4) .nil))) .nil) e21_0) (lpM p cs (.fz (.int d)) s5) = .ok (.ow (.lst (tI (cs.filter fun x => decide (x < d))))) (lpM p cs (.fz (.int d)) s5) := fun s5 =>
    ev_compI (fun x => decide (x < d)) T.int (by simp [evSrc, evE, lpM, Res.bind, R.opd, esc, itemsT]) rfl rfl (fun x hx => by
      refine ⟨(lpM p cs (.fz (.int d)) s5).set 3 (.fz (.int x)), by simp [lpM, wipeM, bindP], by simp [lpM, wipeM], ?_, fun _ => ⟨.fz (.int x), by simp [e21_0, lpM, evE], rfl⟩⟩
      by_cases hx : x < d <;> simp [evAll, evE, evDs, lpM, Res.bind, R.opd, opR, ders, der, opF, op2, cmpF, fB, hx]) hl
  have c2 : ∀ s5, evE cal (.op .all (.cons (.comp [3] (.nm 3) (.it (.var 1)) .nil e21_1) .nil)) (lpM p cs (.fz (.int d)) s5) = .ok (.fz (.bl (cs.all fun x => decide (x % d ∈ cs)))) (lpM p cs (.fz (.int d)) s5) := fun s5 => by
    refine all_comp ?_
    have := ev_compI (cal := cal) (own := [3]) (p := .nm 3) (s := .it (.var 1)) (cs := .nil) (e := e21_1) (m := lpM p cs (.fz (.int d)) s5) (xs := cs) (fun _ => true) (fun x => T.bl (decide (x % d ∈ cs))) (by simp [evSrc, evE, lpM, Res.bind, R.opd, esc, itemsT]) rfl rfl (fun x hx => by
      refine ⟨(lpM p cs (.fz (.int d)) s5).set 3 (.fz (.int x)), by simp [lpM, wipeM, bindP], by simp [lpM, wipeM], by rw [evAll], fun _ => ⟨.fz (.bl (decide (x % d ∈ cs))), ?_, rfl⟩⟩
      simp [e21_1, evE, evDs, lpM, Res.bind, R.opd, opR, ders, der, opF, op2, modI h0, fI, fB, O.frz, in_dI]) hl
    rwa [filt_true] at this
  have d1 : fdivF (.int p) (.int d) = fI (p / d) := fdivI h0 (by omega)
  have hz : sizeLine = 16777216 := rfl
  have b200 : (16777216 : Nat) < 2 ^ 200 := by decide
  have hq : (p / d).natAbs < 2 ^ 200 := by
    have q0 : 0 ≤ p / d := Int.ediv_nonneg (by omega) (by omega)
    have q1 : p / d ≤ p := Int.ediv_le_self d (by omega)
    omega
  have hlen : (cs.filter fun x => decide (x < d)).length ≤ cs.length := List.length_filter_le ..
  have mm : mulF (.int ((cs.filter fun x => decide (x < d)).length : Nat)) (.int (p / d)) = fI (((cs.filter fun x => decide (x < d)).length : Nat) * (p / d)) := mulI (by omega) hq
  unfold good
  by_cases g1 : p % d = 0
  · have s1 : evSs cal L l21_0 (lpM p cs (.fz (.int d)) s5) = evSs cal L (.cons (.ife (.an (.op .eq (.cons (.op .mul (.cons (.op .len (.cons (.var 5) .nil)) (.cons (.op .fdiv (.cons (.var 0) (.cons (.var 4) .nil))) .nil))) (.cons (.op .len (.cons (.var 1) .nil)) .nil))) (.op .all (.cons (.comp [3] (.nm 3) (.it (.var 1)) .nil e21_1) .nil))) (.cons (.ret (.tup (.cons (.var 4) (.cons (.var 5) .nil)))) .nil) .nil) .nil) (lpM p cs (.fz (.int d)) (.ow (.lst (tI (cs.filter fun x => decide (x < d)))))) := by
      unfold l21_0
      rw [evSs, st_if1 (m1 := lpM p cs (.fz (.int d)) s5) (by simp [evE, evDs, lpM, Res.bind, R.opd, opR, ders, der, opF, op2, m1, fI, g1, eqF, scalT, flatT, Mi.eqT, fB]), seq_nx (st_set_ow (c1 s5) (show 5 < 6 by decide))]
      simp only [lpM, List.set_cons_succ, List.set_cons_zero]
      cases evSs cal L (.cons (.ife (.an (.op .eq (.cons (.op .mul (.cons (.op .len (.cons (.var 5) .nil)) (.cons (.op .fdiv (.cons (.var 0) (.cons (.var 4) .nil))) .nil))) (.cons (.op .len (.cons (.var 1) .nil)) .nil))) (.op .all (.cons (.comp [3] (.nm 3) (.it (.var 1)) .nil e21_1) .nil))) (.cons (.ret (.tup (.cons (.var 4) (.cons (.var 5) .nil)))) .nil) .nil) .nil) [.fz (.int p), .fz (.lst (tI cs)), .ow (.dic (dI cs)), .no, .fz (.int d), .ow (.lst (tI (cs.filter fun x => decide (x < d))))] <;> simp [evSs]
    rw [s1]
    have q1 : evE cal (.op .eq (.cons (.op .mul (.cons (.op .len (.cons (.var 5) .nil)) (.cons (.op .fdiv (.cons (.var 0) (.cons (.var 4) .nil))) .nil))) (.cons (.op .len (.cons (.var 1) .nil)) .nil))) (lpM p cs (.fz (.int d)) (.ow (.lst (tI (cs.filter fun x => decide (x < d)))))) = .ok (.fz (.bl (decide (((cs.filter fun x => decide (x < d)).length : Int) * (p / d) = cs.length)))) (lpM p cs (.fz (.int d)) (.ow (.lst (tI (cs.filter fun x => decide (x < d)))))) := by
      simp only [evE, evDs, lpM, Res.bind, R.opd, opR, ders, der, opF, op1, op2, O.frz, lenF, fI, d1, List.getElem?_cons_succ, List.getElem?_cons_zero, Option.bind_some, List.length_map, mm]
      rfl
    by_cases g2 : ((cs.filter fun x => decide (x < d)).length : Int) * (p / d) = cs.length
    · rw [decide_eq_true g2] at q1
      cases g3 : cs.all fun x => decide (x % d ∈ cs) with
      | true =>
        refine ⟨fun _ => ?_, fun z => by simp [g1, g2] at z⟩
        have c3 := c2 (.ow (.lst (tI (cs.filter fun x => decide (x < d)))))
        rw [g3] at c3
        have e1 : evE cal (.tup (.cons (.var 4) (.cons (.var 5) .nil))) (lpM p cs (.fz (.int d)) (.ow (.lst (tI (cs.filter fun x => decide (x < d)))))) = .ok (.fz (.tup [.int d, .lst (tI (cs.filter fun x => decide (x < d)))])) (lpM p cs (.fz (.int d)) (.fz (.lst (tI (cs.filter fun x => decide (x < d)))))) := by
          simp [evE, evDs, lpM, Res.bind, R.opd, escs, esc, O.frz, show (2 : Nat) ≤ sizeLine by decide]
        exact ⟨_, seq_rt (by rw [st_if1 ((ev_an1 q1).trans c3)]; exact seq_rt (st_ret_fz e1))⟩
      | false =>
        refine ⟨fun z => by simp at z, fun _ => ?_⟩
        have c3 := c2 (.ow (.lst (tI (cs.filter fun x => decide (x < d)))))
        rw [g3] at c3
        exact ⟨_, by rw [seq_nx (by rw [st_if0 ((ev_an1 q1).trans c3), evSs]), evSs]⟩
    · rw [decide_eq_false g2] at q1
      refine ⟨fun z => by simp [g2] at z, fun _ => ⟨_, by rw [seq_nx (by rw [st_if0 (ev_an0 q1), evSs]), evSs]⟩⟩
  · refine ⟨fun z => by simp [g1] at z, fun _ => ⟨s5, ?_⟩⟩
    unfold l21_0
    rw [seq_nx (by rw [st_if0 (m1 := lpM p cs (.fz (.int d)) s5) (by simp [evE, evDs, lpM, Res.bind, R.opd, opR, ders, der, opF, op2, m1, fI, g1, eqF, scalT, flatT, Mi.eqT, fB]), evSs]), evSs]
theorem lp_loop {cal : Nat → List Slot → CRes} {L : Nat} {p : Int} {cs : List Int} (hp : p ≤ 1000000) (hl : cs.length ≤ sizeLine) : ∀ (ds : List Int) (s4 s5 : Slot), (∀ d ∈ ds, 0 < d ∧ d < p) → match ds.find? (good p cs) with
    | some d => ∃ m', forGo (.nm 4) (fun m => evSs cal L l21_0 m) (tI ds) (lpM p cs s4 s5) = .rt (.fz (.tup [.int d, .lst (tI (cs.filter fun x => decide (x < d)))])) m'
    | none => ∃ s4' s5', forGo (.nm 4) (fun m => evSs cal L l21_0 m) (tI ds) (lpM p cs s4 s5) = .nx (lpM p cs s4' s5')
  | [], s4, s5, _ => ⟨s4, s5, rfl⟩
  | d :: ds, s4, s5, h => by
    obtain ⟨h0, h1⟩ := h d (by simp)
    obtain ⟨b1, b2⟩ := lp_body (cal := cal) (L := L) h0 h1 hp hl (s5 := s5)
    have hb : bindP (lpM p cs s4 s5) (.nm 4) (.int d) = some (lpM p cs (.fz (.int d)) s5) := by simp [bindP, lpM]
    cases hg : good p cs d with
    | true =>
      rw [List.find?_cons_of_pos hg]
      obtain ⟨m', e⟩ := b1 hg
      refine ⟨m', ?_⟩
      rw [tI_cons, forGo, hb]
      simp only [e]
    | false =>
      rw [List.find?_cons_of_neg (by simp [hg])]
      obtain ⟨s5', e⟩ := b2 hg
      have ih := lp_loop (cal := cal) (L := L) hp hl ds (.fz (.int d)) s5' fun d hd => h d (by simp [hd])
      have step : forGo (.nm 4) (fun m => evSs cal L l21_0 m) (tI (d :: ds)) (lpM p cs s4 s5) = forGo (.nm 4) (fun m => evSs cal L l21_0 m) (tI ds) (lpM p cs (.fz (.int d)) s5') := by
        rw [tI_cons, forGo, hb]
        simp only [e]
      rw [step]
      exact ih
theorem wideI_ok {i : Int} (h0 : 0 ≤ i) (h : i ≤ 1000000) : wideI i = true := by
  unfold wideI
  exact decide_eq_true ⟨by omega, by omega⟩
section
variable {Γ : Nat → Option Def} {L k : Nat} (hΓ : ∀ f d, pg f = some d → Γ f = some d)
include hΓ
theorem least_ok {p : Int} {cs : List Int} (h1 : 1 ≤ p) (hp : p ≤ 1000000) (hn : cs.Nodup) (hl : cs.length ≤ sizeLine) : callF Γ L (k + 1) 21 [.fz (.int p), .fz (.lst (tI cs))] = .ok (.fz (.tup [.int (lp p cs).1, .lst (tI (lp p cs).2)])) [.no, .no] := by
  have c0 : evE (callF Γ L k) (.dcm [3] (.nm 3) (.it (.var 1)) .nil (.var 3) (.c (.bl true))) [.fz (.int p), .fz (.lst (tI cs)), .no, .no, .no, .no] = .ok (.ow (.dic (dI cs))) [.fz (.int p), .fz (.lst (tI cs)), .no, .no, .no, .no] :=
    ev_dcI (by simp [evSrc, evE, Res.bind, R.opd, esc, itemsT]) rfl rfl (fun x hx => ⟨[.fz (.int p), .fz (.lst (tI cs)), .no, .fz (.int x), .no, .no], by simp [wipeM, bindP], by simp [wipeM], by rw [evAll], by simp [evE], by simp [evE]⟩) hn hl
  have hlp := lp_loop (cal := callF Γ L k) (L := L) hp hl (rngI 1 p) .no .no fun d hd => by have := mem_rngI.mp hd; omega
  have hs : evSrc (callF Γ L k) (.rng2 (.c (.int 1)) (.var 0)) (lpM p cs .no .no) = .ok (tI (rngI 1 p)) (lpM p cs .no .no) := by
    simp [evSrc, evE, lpM, Res.bind, R.opd, der, wideI_ok (show (0 : Int) ≤ 1 by decide) (show (1 : Int) ≤ 1000000 by decide), wideI_ok (show 0 ≤ p by omega) hp, rangeT_eq]
  have st0 : ∀ r, evSs (callF Γ L k) L (.cons t21_0 r) [.fz (.int p), .fz (.lst (tI cs)), .no, .no, .no, .no] = evSs (callF Γ L k) L r (lpM p cs .no .no) := fun r => by
    unfold t21_0
    rw [seq_nx (st_set_ow c0 (show 2 < 6 by decide))]
    rfl
  have hb : ∃ m, evSs (callF Γ L k) L d21.body ([.fz (.int p), .fz (.lst (tI cs))] ++ List.replicate (d21.ns - d21.np) .no) = .rt (.fz (.tup [.int (lp p cs).1, .lst (tI (lp p cs).2)])) m := by
    show ∃ m, evSs _ L (.cons t21_0 (.cons t21_1 (.cons t21_2 .nil))) [.fz (.int p), .fz (.lst (tI cs)), .no, .no, .no, .no] = _
    rw [st0]
    unfold lp
    cases hf : (rngI 1 p).find? (good p cs) with
    | some d =>
      rw [hf] at hlp
      obtain ⟨m', e⟩ := hlp
      refine ⟨m', seq_rt ?_⟩
      unfold t21_1
      rw [evS, hs]
      exact e
    | none =>
      rw [hf] at hlp
      obtain ⟨s4', s5', e⟩ := hlp
      refine ⟨lpM p cs s4' s5', ?_⟩
      rw [seq_nx (m' := lpM p cs s4' s5') (by unfold t21_1; rw [evS, hs]; exact e)]
      refine seq_rt ?_
      unfold t21_2
      refine st_ret_fz ?_
      simp [evE, evDs, lpM, Res.bind, R.opd, opR, ders, der, opF, op1, listF, escs, esc, O.frz, show (2 : Nat) ≤ sizeLine by decide]
  obtain ⟨m, hb⟩ := hb
  rw [run_fz (d := d21) (args := [.fz (.int p), .fz (.lst (tI cs))]) (hΓ 21 _ rfl) rfl hb]
  rcases m with _ | ⟨a, _ | ⟨b, m⟩⟩ <;> rfl
end
/-! ### a round set -/
noncomputable def rndF (p : Int) (cs od : List Int) : List (PySem.Str × T) := [("own_period", .int p), ("own_classes", .lst (tI cs)), ("own_odd", .dic (dI od))]
noncomputable def rnd (p : Int) (cs od : List Int) : T := .ins 0 (rndF p cs od)
noncomputable def SlSq (c : Slot) (xs : List Int) : Prop := (∃ t, c = .fz t ∧ Sq t xs) ∨ c = .ow (.lst (tI xs))
/-- what a round set is made of -/
structure RndOk (p : Int) (cs od : List Int) : Prop where
  p1 : 1 ≤ p
  p2 : p ≤ 5040
  ca : cs.Pairwise (· < ·)
  cb : ∀ x ∈ cs, 0 ≤ x ∧ x < p
  cl : cs.length ≤ sizeLine
  oa : od.Pairwise (· < ·)
  ob : ∀ x ∈ od, 0 ≤ x
  ol : od.length ≤ sizeLine
section
variable {Γ : Nat → Option Def} {L k : Nat} (hΓ : ∀ f d, pg f = some d → Γ f = some d)
include hΓ
theorem init_ok {p : Int} {cs od : List Int} {c o : Slot} (ok : RndOk p cs od) (hc : SlSq c cs) (ho : SlSq o od) : callF Γ L (k + 3) 4 [.ow (.ins 0 []), .fz (.int p), c, o] = .ok (.fz .non) [.ow (.ins 0 (rndF (lp p cs).1 (lp p cs).2 od)), .no, c, o] := by
  obtain ⟨p1, p2, ca, cb, cl, oa, ob, ol⟩ := ok
  let M := fun (fs : List (PySem.Str × T)) => [Slot.ow (.ins 0 fs), .fz (.int p), c, o, .no]
  have l2 : ∀ fs, ∃ t o', Sq t cs ∧ lendM [2] 0 (M fs) = [.no, .fz (.int p), .fz t, o', .no] := fun fs => by
    rcases hc with ⟨t, rfl, h⟩ | rfl <;> rcases ho with ⟨u, rfl, g⟩ | rfl
    · exact ⟨t, .fz u, h, rfl⟩
    · exact ⟨t, .no, h, rfl⟩
    · exact ⟨_, .fz u, .inl rfl, rfl⟩
    · exact ⟨_, .no, .inl rfl, rfl⟩
  have l3 : ∀ fs, ∃ t c', Sq t od ∧ lendM [3] 0 (M fs) = [.no, .fz (.int p), c', .fz t, .no] := fun fs => by
    rcases hc with ⟨t, rfl, h⟩ | rfl <;> rcases ho with ⟨u, rfl, g⟩ | rfl
    · exact ⟨u, .fz t, g, rfl⟩
    · exact ⟨_, .fz t, .inl rfl, rfl⟩
    · exact ⟨u, .no, g, rfl⟩
    · exact ⟨_, .no, .inl rfl, rfl⟩
  have n1 := num_ok hΓ (L := L) (k := k) p1 p2
  have x0 : ∀ r, evSs (callF Γ L (k + 2)) L (.cons t4_0 r) (M []) = evSs (callF Γ L (k + 2)) L r (M []) := fun r => by
    unfold t4_0
    rw [seq_nx (by rw [st_if0 (m1 := M []) (by simp [evE, evDs, Res.bind, R.opd, callR, pass, back, esc, n1, M]), evSs])]
  have x1 : ∀ r, evSs (callF Γ L (k + 2)) L (.cons t4_1 r) (M []) = evSs (callF Γ L (k + 2)) L r (M []) := fun r => by
    unfold t4_1
    obtain ⟨t, o', h, e⟩ := l2 []
    rw [seq_nx (by rw [st_if0 (m1 := M []) (by simp [evE, evDs, Res.bind, R.opd, callR, pass, back, esc, list_ok hΓ (L := L) (k := k + 1) h, e, flatT]), evSs])]
  have x3 : ∀ r, evSs (callF Γ L (k + 2)) L (.cons t4_3 r) (M []) = evSs (callF Γ L (k + 2)) L r (M []) := fun r => by
    unfold t4_3
    obtain ⟨t, o', h, e⟩ := l3 []
    rw [seq_nx (by rw [st_if0 (m1 := M []) (by simp [evE, evDs, Res.bind, R.opd, callR, pass, back, esc, list_ok hΓ (L := L) (k := k + 1) h, e, flatT]), evSs])]
  have x2 : ∀ r, evSs (callF Γ L (k + 2)) L (.cons t4_2 r) (M []) = evSs (callF Γ L (k + 2)) L r (M []) := fun r => by
    unfold t4_2
    obtain ⟨t, o', h, e⟩ := l2 []
    have f := fault_ok hΓ (L := L) (k := k) h (fun x hx => (cb x hx).1) (.inr ⟨p - 1, rfl, fun x hx => by have := (cb x hx).2; omega⟩) ca cl
    rw [seq_nx (by rw [st_if0 (m1 := M []) (by simp [evE, evDs, Res.bind, R.opd, opR, ders, der, opF, op2, subF, fI, isnF, Mi.isNon, fB, callR, pass, back, esc, f, e, flatT]), evSs])]
  have x4 : ∀ r, evSs (callF Γ L (k + 2)) L (.cons t4_4 r) (M []) = evSs (callF Γ L (k + 2)) L r (M []) := fun r => by
    unfold t4_4
    obtain ⟨t, o', h, e⟩ := l3 []
    have f := fault_ok hΓ (L := L) (k := k) h (fun x hx => ob x hx) (.inl rfl) oa ol
    rw [seq_nx (by rw [st_if0 (m1 := M []) (by simp [evE, evDs, Res.bind, R.opd, opR, ders, der, opF, op2, subF, fI, isnF, Mi.isNon, fB, callR, pass, back, esc, f, e, flatT]), evSs])]
  have lo := least_ok hΓ (L := L) (k := k + 1) p1 (show p ≤ 1000000 by omega) (nodup_asc ca) cl
  have li : evE (callF Γ L (k + 2)) (.op .list (.cons (.var 2) .nil)) (M []) = .ok (.ow (.lst (tI cs))) (M []) := by
    rcases hc with ⟨t, rfl, rfl | rfl⟩ | rfl <;> simp [evE, evDs, Res.bind, R.opd, opR, ders, der, opF, op1, listF, O.frz, M]
  have x5 : ∀ r, evSs (callF Γ L (k + 2)) L (.cons t4_5 r) (M []) = evSs (callF Γ L (k + 2)) L r (M [("own_period", .int (lp p cs).1), ("own_classes", .lst (tI (lp p cs).2))]) := fun r => by
    unfold t4_5
    refine seq_nx ?_
    have e1 : evE (callF Γ L (k + 2)) (.call 21 [false, false] (.cons (.var 1) (.cons (.op .list (.cons (.var 2) .nil)) .nil))) (M []) = .ok (.fz (.tup [.int (lp p cs).1, .lst (tI (lp p cs).2)])) (M []) := ev_call2 (ev_var (t := .int p) rfl) rfl li rfl lo
    rw [evS, e1]
    simp [ofR, R.opd, esc, M, putSs, putS]
    decide
  have x6 : ∀ fs, fs.length < 1000 → evS (callF Γ L (k + 2)) L t4_6 (M fs) = .nx (M (putS "own_odd" (.dic (dI od)) fs)) := fun fs hf => by
    unfold t4_6
    obtain ⟨t, c', h, e⟩ := l3 fs
    have e1 : evE (callF Γ L (k + 2)) (.lend [3] (.dcm [4] (.nm 4) (.it (.var 3)) .nil (.var 4) (.c (.bl true)))) (M fs) = .ok (.ow (.dic (dI od))) (M fs) := by
      rw [evE, e]
      have c0 : evE (callF Γ L (k + 2)) (.dcm [4] (.nm 4) (.it (.var 3)) .nil (.var 4) (.c (.bl true))) [.no, .fz (.int p), c', .fz t, .no] = .ok (.ow (.dic (dI od))) [.no, .fz (.int p), c', .fz t, .no] :=
        ev_dcI (by rcases h with rfl | rfl <;> simp [evSrc, evE, Res.bind, R.opd, esc, itemsT]) rfl rfl (fun x hx => ⟨[.no, .fz (.int p), c', .fz t, .fz (.int x)], by simp [wipeM, bindP], by simp [wipeM], by rw [evAll], by simp [evE], by simp [evE]⟩) (nodup_asc oa) ol
      rw [c0]
      simp [thinO, flatT]
    rw [evS, e1]
    simp [ofR, R.opd, esc, M, O.frz, hf]
  have hb : evSs (callF Γ L (k + 2)) L d4.body ([.ow (.ins 0 []), .fz (.int p), c, o] ++ List.replicate (d4.ns - d4.np) .no) = .nx (M (rndF (lp p cs).1 (lp p cs).2 od)) := by
    show evSs _ L (.cons t4_0 (.cons t4_1 (.cons t4_2 (.cons t4_3 (.cons t4_4 (.cons t4_5 (.cons t4_6 .nil))))))) (M []) = _
    rw [x0, x1, x2, x3, x4, x5, seq_nx (x6 _ (by simp)), evSs]
    rfl
  unfold callF
  rw [hΓ 4 _ rfl]
  show runD _ _ d4 _ = _
  unfold runD
  rw [if_pos (show ([Slot.ow (.ins 0 []), .fz (.int p), c, o] : List Slot).length = d4.np from rfl), hb]
  rfl
end
/-! ### what a round set tells -/
noncomputable def rWords (p : Int) (cs od : List Int) : List PySem.Str := (if cs = [] then ([("none" : PySem.Str)] : List PySem.Str) else cs.map istr) ++ ([("of" : PySem.Str), istr p] : List PySem.Str) ++ (if od = [] then ([] : List PySem.Str) else ("odd" : PySem.Str) :: od.map istr)
noncomputable def rText (p : Int) (cs od : List Int) : PySem.Str := Txt.join " " (rWords p cs od)
structure TxtOk (p : Int) (cs od : List Int) : Prop where
  j : JoinOk (rWords p cs od)
  p : Small p
  c : ∀ x ∈ cs, Small x
  o : ∀ x ∈ od, Small x
  cl : cs.length ≤ 100000
  ol : od.length ≤ 100000
theorem ev_fld {cal : Nat → List Slot → CRes} {m : List Slot} {i : Nat} {fs : List (PySem.Str × T)} {f : PySem.Str} {t : T} (h : m[i]? = some (.fz (.ins 0 fs))) (hf : fs.lookup f = some t) : evE cal (.fld 0 (.var i) f) m = .ok (.fz t) m := by
  rw [evE, ev_var h]
  simp [Res.bind, R.opd, der, hf]
theorem lk_p {p : Int} {cs od : List Int} : (rndF p cs od).lookup ("own_period" : PySem.Str) = some (.int p) := rfl
theorem lk_c {p : Int} {cs od : List Int} : (rndF p cs od).lookup ("own_classes" : PySem.Str) = some (.lst (tI cs)) := rfl
theorem lk_o {p : Int} {cs od : List Int} : (rndF p cs od).lookup ("own_odd" : PySem.Str) = some (.dic (dI od)) := rfl
theorem escs2 {m : List Slot} (xs : List T) (a b : T) : escs m (xs.map Opd.t ++ [.t a, .t b]) = some (xs ++ [a, b], m) := by
  have := escs_t (m := m) (xs ++ [a, b])
  rwa [List.map_append] at this
theorem keys_dI (od : List Int) : (dI od).map (fun kv => unkey kv.1) = tI od := by rw [List.map_map]; rfl
section
variable {Γ : Nat → Option Def} {L k : Nat} (hΓ : ∀ f d, pg f = some d → Γ f = some d)
include hΓ
theorem period_ok {p : Int} {cs od : List Int} : callF Γ L (k + 1) 9 [.fz (rnd p cs od)] = .ok (.fz (.int p)) [.no] := by
  rw [run_fz (d := d9) (args := [.fz (rnd p cs od)]) (t := .int p) (m := [.fz (rnd p cs od)]) (hΓ 9 _ rfl) rfl (seq_rt (st_ret_fz (ev_fld rfl lk_p)))]
  rfl
theorem classes_ok {p : Int} {cs od : List Int} : callF Γ L (k + 1) 6 [.fz (rnd p cs od)] = .ok (.ow (.lst (tI cs))) [.no] := by
  have hb : evSs (callF Γ L k) L d6.body ([.fz (rnd p cs od)] ++ List.replicate (d6.ns - d6.np) .no) = .rt (.ow (.lst (tI cs))) [.fz (rnd p cs od)] := by
    show evSs _ L (.cons t6_0 .nil) [.fz (rnd p cs od)] = _
    unfold t6_0
    rw [evSs, evS, evE, evDs, ev_fld (fs := rndF p cs od) rfl lk_c]
    simp [Res.bind, evDs, R.opd, opR, ders, der, opF, op1, listF, ofR, outR]
  rw [run_ow (d := d6) (args := [.fz (rnd p cs od)]) (hΓ 6 _ rfl) rfl hb]
  rfl
theorem odd_ok {p : Int} {cs od : List Int} : callF Γ L (k + 1) 7 [.fz (rnd p cs od)] = .ok (.ow (.lst (tI od))) [.no] := by
  have hb : evSs (callF Γ L k) L d7.body ([.fz (rnd p cs od)] ++ List.replicate (d7.ns - d7.np) .no) = .rt (.ow (.lst (tI od))) [.fz (rnd p cs od)] := by
    show evSs _ L (.cons t7_0 .nil) [.fz (rnd p cs od)] = _
    unfold t7_0
    rw [evSs, evS, evE, evDs, ev_fld (fs := rndF p cs od) rfl lk_o]
    simp only [Res.bind, evDs, R.opd, opR, ders, der, opF, op1, listF, ofR, outR, Option.bind_some, keys_dI]
  rw [run_ow (d := d7) (args := [.fz (rnd p cs od)]) (hΓ 7 _ rfl) rfl hb]
  rfl
theorem bool_ok {p : Int} {cs od : List Int} : callF Γ L (k + 1) 12 [.fz (rnd p cs od)] = .ok (.fz (.bl (decide (cs ≠ []) || decide (od ≠ [])))) [.no] := by
  have hb : evSs (callF Γ L k) L d12.body ([.fz (rnd p cs od)] ++ List.replicate (d12.ns - d12.np) .no) = .rt (.fz (.bl (decide (cs ≠ []) || decide (od ≠ [])))) [.fz (rnd p cs od)] := by
    show evSs _ L (.cons t12_0 .nil) [.fz (rnd p cs od)] = _
    unfold t12_0
    refine seq_rt (st_ret_fz ?_)
    have e1 : evE (callF Γ L k) (.op .gt (.cons (.op .len (.cons (.fld 0 (.var 0) "own_classes") .nil)) (.cons (.c (.int 0)) .nil))) [.fz (rnd p cs od)] = .ok (.fz (.bl (decide (cs ≠ [])))) [.fz (rnd p cs od)] := by
      refine ev_op2 (ev_op1 (ev_fld (fs := rndF p cs od) rfl lk_c) rfl) ev_c ?_
      show fB (decide ((0 : Int) < ((tI cs).length : Nat))) = _
      congr 2
      rw [List.length_map]
      cases cs <;> simp
    have e2 : evE (callF Γ L k) (.op .gt (.cons (.op .len (.cons (.fld 0 (.var 0) "own_odd") .nil)) (.cons (.c (.int 0)) .nil))) [.fz (rnd p cs od)] = .ok (.fz (.bl (decide (od ≠ [])))) [.fz (rnd p cs od)] := by
      refine ev_op2 (ev_op1 (ev_fld (fs := rndF p cs od) rfl lk_o) rfl) ev_c ?_
      show fB (decide ((0 : Int) < ((dI od).length : Nat))) = _
      congr 2
      rw [List.length_map]
      cases od <;> simp
    by_cases h : cs = []
    · rw [decide_eq_false (fun z => z h)] at e1
      rw [ev_or0 e1, e2, decide_eq_false (fun z : cs ≠ [] => z h), Bool.false_or]
    · rw [decide_eq_true h] at e1
      rw [ev_or1 e1, decide_eq_true h, Bool.true_or]
  rw [run_fz (d := d12) (args := [.fz (rnd p cs od)]) (hΓ 12 _ rfl) rfl hb]
  rfl
theorem text_ok {p : Int} {cs od : List Int} (ok : TxtOk p cs od) : callF Γ L (k + 1) 10 [.fz (rnd p cs od)] = .ok (.fz (.str (rText p cs od))) [.no] := by
  obtain ⟨oj, op, oc, oo, cl, ol⟩ := ok
  have hz : (100000 : Nat) ≤ sizeLine := by decide
  let M := fun s => [Slot.fz (rnd p cs od), s, .no, .no]
  have x0 : evS (callF Γ L k) L t10_0 (M .no) = .nx (M (.ow (.lst (tS (if cs = [] then ([("none" : PySem.Str)] : List PySem.Str) else cs.map istr))))) := by
    unfold t10_0
    have e1 : evE (callF Γ L k) (.op .ne (.cons (.fld 0 (.var 0) "own_classes") (.cons (.lst .nil) .nil))) (M .no) = .ok (.fz (.bl (!decide (cs = [])))) (M .no) := by
      rw [evE, evDs, ev_fld (fs := rndF p cs od) rfl lk_c]
      simp [Res.bind, evDs, evE, R.opd, escs, O.frz, opR, ders, der, opF, op2, eq_nil, fB]
    have e2 : evE (callF Γ L k) (.comp [2] (.nm 2) (.it (.fld 0 (.var 0) "own_classes")) .nil e10_0) (M .no) = .ok (.ow (.lst (tS (cs.map istr)))) (M .no) := comp_str rfl (src_it (ev_fld (fs := rndF p cs od) rfl lk_c) rfl rfl) rfl oc (by omega)
    refine (st_set_ow (m1 := M .no) (o := .lst (tS (if cs = [] then ([("none" : PySem.Str)] : List PySem.Str) else cs.map istr))) ?_ (show 1 < 4 by decide)).trans rfl
    rw [evE, e1]
    by_cases h : cs = []
    · rw [decide_eq_true h, if_pos h]
      simp [Res.bind, evE, evDs, R.opd, escs, esc, tS, show (1 : Nat) ≤ sizeLine by decide]
    · rw [decide_eq_false h, if_neg h]
      exact e2
  obtain ⟨W, hW⟩ : ∃ W, W = (if cs = [] then ([("none" : PySem.Str)] : List PySem.Str) else cs.map istr) := ⟨_, rfl⟩
  rw [← hW] at x0
  have lW : W.length ≤ 100000 := by rw [hW]; split <;> simp; omega
  have ep : evE (callF Γ L k) (.op .str (.cons (.fld 0 (.var 0) "own_period") .nil)) (M (.ow (.lst (tS W)))) = .ok (.fz (.str (istr p))) (M (.ow (.lst (tS W)))) := ev_op1 (ev_fld (fs := rndF p cs od) rfl lk_p) (str_int op)
  have x1 : evS (callF Γ L k) L t10_1 (M (.ow (.lst (tS W)))) = .nx (M (.ow (.lst (tS (W ++ [("of" : PySem.Str), istr p]))))) := by
    unfold t10_1
    refine (st_set_ow (m1 := M (.ow (.lst (tS W)))) (o := .lst (tS (W ++ [("of" : PySem.Str), istr p]))) ?_ (show 1 < 4 by decide)).trans rfl
    rw [evE]
    have d0 : evDx (callF Γ L k) (.cons (.var 1) (.cons (.c (.str "of")) (.cons (.op .str (.cons (.fld 0 (.var 0) "own_period") .nil)) .nil))) [true, false, false] (M (.ow (.lst (tS W)))) = .ok ((tS W).map Opd.t ++ [.t (.str "of"), .t (.str (istr p))]) (M (.ow (.lst (tS W)))) := by
      rw [evDx, evE]
      simp only [M, List.getElem?_cons_succ, List.getElem?_cons_zero, Res.bind, R.opd, der, List.headD, List.tail]
      rw [evDx, evE]
      simp only [Res.bind, R.opd, List.headD, List.tail]
      rw [evDx, ep]
      simp [Res.bind, R.opd, evDx, O.frz, M]
    rw [d0]
    simp only [Res.bind, escs2]
    have hz' : sizeLine = 16777216 := rfl
    rw [if_pos (by simp [tS]; omega)]
    simp [tS]
  let W2 := W ++ ([("of" : PySem.Str), istr p] : List PySem.Str)
  have lW2 : W2.length ≤ 100002 := by show (W ++ _).length ≤ _; rw [List.length_append]; simp; omega
  have x2 : evS (callF Γ L k) L t10_2 (M (.ow (.lst (tS W2)))) = .nx (M (.ow (.lst (tS (rWords p cs od))))) := by
    unfold t10_2
    have e1 : evE (callF Γ L k) (.op .ne (.cons (.fld 0 (.var 0) "own_odd") (.cons .dic0 .nil))) (M (.ow (.lst (tS W2)))) = .ok (.fz (.bl (!decide (od = [])))) (M (.ow (.lst (tS W2)))) := by
      rw [evE, evDs, ev_fld (fs := rndF p cs od) rfl lk_o]
      have : eqF (.dic (dI od)) (.dic []) not = fB (!decide (od = [])) := by
        show eqD not (dI od) [] = _
        cases od with
        | nil => rfl
        | cons a r => rfl
      simp only [Res.bind, evDs, evE, R.opd, O.frz, opR, ders, der, opF, op2, Option.bind_some, this, fB]
    by_cases h : od = []
    · rw [decide_eq_true h] at e1
      rw [st_if0 e1, evSs]
      unfold rWords
      rw [if_pos h, List.append_nil, ← hW]
    · rw [decide_eq_false h] at e1
      rw [st_if1 e1]
      refine (seq_nx (m' := M (.ow (.lst (tS (rWords p cs od))))) ?_).trans (by rw [evSs])
      refine (st_set_ow (m1 := M (.ow (.lst (tS W2)))) (o := .lst (tS (rWords p cs od))) ?_ (show 1 < 4 by decide)).trans rfl
      have e2 : evE (callF Γ L k) (.comp [3] (.nm 3) (.it (.fld 0 (.var 0) "own_odd")) .nil e10_1) (M (.ow (.lst (tS W2)))) = .ok (.ow (.lst (tS (od.map istr)))) (M (.ow (.lst (tS W2)))) := comp_str rfl (src_it (ev_fld (fs := rndF p cs od) rfl lk_o) rfl (show some _ = _ from congrArg some (keys_dI od))) rfl oo (by omega)
      have d0 : evDx (callF Γ L k) (.cons (.var 1) (.cons (.c (.str "odd")) (.cons (.comp [3] (.nm 3) (.it (.fld 0 (.var 0) "own_odd")) .nil e10_1) .nil))) [true, false, true] (M (.ow (.lst (tS W2)))) = .ok ((tS (rWords p cs od)).map Opd.t) (M (.ow (.lst (tS W2)))) := by
        rw [evDx, evE]
        simp only [M, List.getElem?_cons_succ, List.getElem?_cons_zero, Res.bind, R.opd, der, List.headD, List.tail]
        rw [evDx, evE]
        simp only [Res.bind, R.opd, List.headD, List.tail]
        rw [evDx, e2]
        unfold rWords
        rw [if_neg h, ← hW]
        simp [Res.bind, R.opd, evDx, O.frz, der, tS, W2, M]
      rw [evE, d0]
      simp only [Res.bind, escs_t]
      rw [if_pos]
      unfold rWords
      rw [if_neg h, ← hW]
      have : sizeLine = 16777216 := rfl
      simp [tS]
      omega
  have hb : evSs (callF Γ L k) L d10.body ([.fz (rnd p cs od)] ++ List.replicate (d10.ns - d10.np) .no) = .rt (.fz (.str (rText p cs od))) (M (.ow (.lst (tS (rWords p cs od))))) := by
    show evSs _ L (.cons t10_0 (.cons t10_1 (.cons t10_2 (.cons t10_3 .nil)))) (M .no) = _
    rw [seq_nx x0, seq_nx x1, seq_nx x2]
    unfold t10_3
    refine seq_rt (st_ret_fz ?_)
    simp only [evE, M, Res.bind, R.opd, der, List.getElem?_cons_succ, List.getElem?_cons_zero, O.frz, join_sp oj, fS]
    rfl
  rw [run_fz (d := d10) (args := [.fz (rnd p cs od)]) (hΓ 10 _ rfl) rfl hb]
  rfl
end
end RndP
set_option maxHeartbeats 2000000
namespace RndP
open PySem PySem.Spec PyProof.Rows L2 Mi MiDR RndM

/-! ### the least pattern, again -/
noncomputable def per (p : Int) (cs : List Int) (d : Int) : Bool := decide (p % d = 0) && (rngI 0 p).all fun x => decide (x % d ∈ cs) == decide (x ∈ cs)
theorem good_per {p d : Int} {cs : List Int} (h0 : 0 < d) (hp : 0 < p) (ha : cs.Pairwise (· < ·)) (hb : ∀ x ∈ cs, 0 ≤ x ∧ x < p) : good p cs d = per p cs d := by
  unfold good per
  by_cases hd : p % d = 0
  · have := good_iff h0 hp ha hb hd
    rw [decide_eq_true hd, Bool.true_and, Bool.true_and]
    rw [Bool.eq_iff_iff, ← this, Bool.and_eq_true, decide_eq_true_eq]
  · rw [decide_eq_false hd, Bool.false_and, Bool.false_and]
theorem per_self {p : Int} {cs : List Int} (hp : 0 < p) : per p cs p = true := by
  unfold per
  rw [Bool.and_eq_true]
  refine ⟨decide_eq_true (Int.emod_self), List.all_eq_true.mpr fun x hx => ?_⟩
  obtain ⟨h1, h2⟩ := mem_rngI.mp hx
  rw [Int.emod_eq_of_lt h1 h2]
  simp
/-- the least d that serves -/
theorem lp_find {p : Int} {cs : List Int} (hp : 0 < p) (ha : cs.Pairwise (· < ·)) (hb : ∀ x ∈ cs, 0 ≤ x ∧ x < p) : ∃ d, (rngI 1 (p + 1)).find? (per p cs) = some d ∧ lp p cs = (d, cs.filter fun x => decide (x < d)) ∧ 0 < d ∧ d ≤ p := by
  have e : (rngI 1 p).find? (good p cs) = (rngI 1 p).find? (per p cs) := find_congr fun d hd => good_per (by have := mem_rngI.mp hd; omega) hp ha hb
  rw [rngI_succ (by omega), List.find?_append]
  unfold lp
  rw [e]
  cases h : (rngI 1 p).find? (per p cs) with
  | some d =>
    have := mem_rngI.mp (List.mem_of_find?_eq_some h)
    exact ⟨d, rfl, rfl, by omega, by omega⟩
  | none =>
    refine ⟨p, ?_, ?_, hp, Int.le_refl _⟩
    · rw [List.find?_cons_of_pos (per_self hp)]; rfl
    · rw [filter_lt_self fun x hx => (hb x hx).2]
theorem RndOk.lp {p : Int} {cs od : List Int} (ok : RndOk p cs od) : RndOk (lp p cs).1 (lp p cs).2 od := by
  obtain ⟨d, _, e, h1, h2⟩ := lp_find (by have := ok.p1; omega) ok.ca ok.cb
  have := ok.p2
  rw [e]
  refine ⟨by show 1 ≤ d; omega, by show d ≤ 5040; omega, asc_filter ok.ca, fun x hx => ?_, Nat.le_trans (List.length_filter_le ..) ok.cl, ok.oa, ok.ob, ok.ol⟩
  obtain ⟨a, b⟩ := List.mem_filter.mp hx
  exact ⟨(ok.cb x a).1, of_decide_eq_true b⟩
noncomputable def spec (p : Int) (cs od : List Int) : T := .lst [.int p, .lst (tI cs), .lst (tI od)]
theorem sp0 {p : Int} {cs od : List Int} : idxF (spec p cs od) (.int 0) = some (.fz (.int p)) := rfl
theorem sp1 {p : Int} {cs od : List Int} : idxF (spec p cs od) (.int 1) = some (.fz (.lst (tI cs))) := rfl
theorem sp2 {p : Int} {cs od : List Int} : idxF (spec p cs od) (.int 2) = some (.fz (.lst (tI od))) := rfl
theorem ev_ix {cal : Nat → List Slot → CRes} {m : List Slot} {i : Nat} {j : Int} {t : T} {r : R} (h : m[i]? = some (.fz t)) (hi : idxF t (.int j) = some r) : evE cal (.op .idx (.cons (.var i) (.cons (.c (.int j)) .nil))) m = .ok r m := ev_op2 (ev_var h) ev_c hi
section
variable {Γ : Nat → Option Def} {L k : Nat} (hΓ : ∀ f d, pg f = some d → Γ f = some d)
include hΓ
theorem ls_loop {p : Int} {cs od : List Int} (hp : 0 < p) (hp2 : p ≤ 1000000) (hl : cs.length ≤ sizeLine) : ∀ (ds : List Int) (s1 : Slot), (∀ d ∈ ds, 0 < d) → ∀ d0, ds.find? (per p cs) = some d0 →
    ∃ m', forGo (.nm 1) (fun m => evSs (callF Γ L k) L l5_0 m) (tI ds) [.fz (spec p cs od), s1, .no] = .rt (.ow (.lst [.int d0, .lst (tI (cs.filter fun x => decide (x < d0))), .lst (tI od)])) m'
  | [], _, _, d0, h => by cases h
  | d :: ds, s1, hd, d0, h => by
    have h0 := hd d (by simp)
    have hb : bindP [.fz (spec p cs od), s1, .no] (.nm 1) (.int d) = some [.fz (spec p cs od), .fz (.int d), .no] := by simp [bindP]
    have q1 : evE (callF Γ L k) (.op .eq (.cons (.op .mod (.cons (.op .idx (.cons (.var 0) (.cons (.c (.int 0)) .nil))) (.cons (.var 1) .nil))) (.cons (.c (.int 0)) .nil))) [.fz (spec p cs od), .fz (.int d), .no] = .ok (.fz (.bl (decide (p % d = 0)))) [.fz (spec p cs od), .fz (.int d), .no] := by
      refine ev_op2 (ev_op2 (ev_ix rfl sp0) (ev_var rfl) (modI h0)) ev_c ?_
      show fB (p % d == 0) = _
      congr 2
    have q2 : evE (callF Γ L k) (.op .all (.cons (.comp [2] (.nm 2) (.rng1 (.op .idx (.cons (.var 0) (.cons (.c (.int 0)) .nil)))) .nil e5_0) .nil)) [.fz (spec p cs od), .fz (.int d), .no] = .ok (.fz (.bl ((rngI 0 p).all fun x => decide (x % d ∈ cs) == decide (x ∈ cs)))) [.fz (spec p cs od), .fz (.int d), .no] := by
      refine all_comp ?_
      have := ev_compI (cal := callF Γ L k) (own := [2]) (p := .nm 2) (s := .rng1 (.op .idx (.cons (.var 0) (.cons (.c (.int 0)) .nil)))) (cs := .nil) (e := e5_0) (m := [.fz (spec p cs od), .fz (.int d), .no]) (xs := rngI 0 p) (fun _ => true) (fun x => T.bl (decide (x % d ∈ cs) == decide (x ∈ cs))) (by rw [← rangeT_eq]; exact src_rng1 (ev_ix rfl sp0) (wideI_ok (by omega) hp2)) rfl rfl (fun x hx => by
        refine ⟨[.fz (spec p cs od), .fz (.int d), .fz (.int x)], by simp [wipeM, bindP], by simp [wipeM], by rw [evAll], fun _ => ⟨.fz (.bl (decide (x % d ∈ cs) == decide (x ∈ cs))), ?_, rfl⟩⟩
        unfold e5_0
        exact ev_op2 (ev_op2 (ev_op2 (ev_op1 (ev_var rfl) rfl) (ev_var rfl) (modI h0)) (ev_ix rfl sp1) (in_tI id _ _)) (ev_op2 (ev_var rfl) (ev_ix rfl sp1) (in_tI id _ _)) rfl) (by rw [len_rngI]; have : sizeLine = 16777216 := rfl; omega)
      rwa [filt_true] at this
    cases hg : per p cs d with
    | false =>
      rw [List.find?_cons_of_neg (by simp [hg])] at h
      obtain ⟨m', ih⟩ := ls_loop hp hp2 hl ds (.fz (.int d)) (fun d hd' => hd d (by simp [hd'])) d0 h
      refine ⟨m', ?_⟩
      rw [tI_cons, forGo, hb]
      have : evSs (callF Γ L k) L l5_0 [.fz (spec p cs od), .fz (.int d), .no] = .nx [.fz (spec p cs od), .fz (.int d), .no] := by
        unfold l5_0
        refine (seq_nx (m' := [.fz (spec p cs od), .fz (.int d), .no]) ?_).trans (by rw [evSs])
        unfold per at hg
        by_cases hm : p % d = 0
        · rw [decide_eq_true hm, Bool.true_and] at hg
          rw [decide_eq_true hm] at q1
          rw [hg] at q2
          rw [st_if0 ((ev_an1 q1).trans q2), evSs]
        · rw [decide_eq_false hm] at q1
          rw [st_if0 (ev_an0 q1), evSs]
      simp only [this]
      exact ih
    | true =>
      rw [List.find?_cons_of_pos hg] at h
      cases h
      unfold per at hg
      rw [Bool.and_eq_true] at hg
      rw [hg.1] at q1
      rw [hg.2] at q2
      have q3 : evE (callF Γ L k) (.comp [2] (.nm 2) (.it (.op .idx (.cons (.var 0) (.cons (.c (.int 1)) .nil)))) (.cons (.op .lt (.cons (.var 2) (.cons (.var 1) .nil))) .nil) e5_1) [.fz (spec p cs od), .fz (.int d), .no] = .ok (.ow (.lst (tI (cs.filter fun x => decide (x < d))))) [.fz (spec p cs od), .fz (.int d), .no] :=
        ev_compI (fun x => decide (x < d)) T.int (src_it (ev_ix rfl sp1) rfl rfl) rfl rfl (fun x hx => by
          refine ⟨[.fz (spec p cs od), .fz (.int d), .fz (.int x)], by simp [wipeM, bindP], by simp [wipeM], ?_, fun _ => ⟨.fz (.int x), by simp [e5_1, evE], rfl⟩⟩
          by_cases hx : x < d <;> simp [evAll, evE, evDs, Res.bind, R.opd, opR, ders, der, opF, op2, cmpF, fB, hx]) hl
      refine ⟨[.fz (spec p cs od), .fz (.int d), .no], ?_⟩
      rw [tI_cons, forGo, hb]
      have : evSs (callF Γ L k) L l5_0 [.fz (spec p cs od), .fz (.int d), .no] = .rt (.ow (.lst [.int d, .lst (tI (cs.filter fun x => decide (x < d))), .lst (tI od)])) [.fz (spec p cs od), .fz (.int d), .no] := by
        unfold l5_0
        refine seq_rt ?_
        rw [st_if1 ((ev_an1 q1).trans q2)]
        refine seq_rt ?_
        have : evE (callF Γ L k) (.lst (.cons (.var 1) (.cons (.comp [2] (.nm 2) (.it (.op .idx (.cons (.var 0) (.cons (.c (.int 1)) .nil)))) (.cons (.op .lt (.cons (.var 2) (.cons (.var 1) .nil))) .nil) e5_1) (.cons (.op .idx (.cons (.var 0) (.cons (.c (.int 2)) .nil))) .nil)))) [.fz (spec p cs od), .fz (.int d), .no] = .ok (.ow (.lst [.int d, .lst (tI (cs.filter fun x => decide (x < d))), .lst (tI od)])) [.fz (spec p cs od), .fz (.int d), .no] :=
          ev_lst (ds_cons (ev_var rfl) rfl (ds_cons q3 rfl (ds_cons (ts := []) (ev_ix rfl sp2) rfl ds_nil))) (show 3 ≤ sizeLine by decide)
        rw [evS, this]
        rfl
      simp only [this]
theorem ls_ok {p : Int} {cs od : List Int} (ok : RndOk p cs od) : callF Γ L (k + 1) 5 [.fz (spec p cs od)] = .ok (.ow (.lst [.int (lp p cs).1, .lst (tI (lp p cs).2), .lst (tI od)])) [.no] := by
  have hp : 0 < p := by have := ok.p1; omega
  have hp2 : p ≤ 1000000 := by have := ok.p2; omega
  obtain ⟨d, f, e, h1, h2⟩ := lp_find hp ok.ca ok.cb
  obtain ⟨m', hm⟩ := ls_loop hΓ (L := L) (k := k) (od := od) hp hp2 ok.cl (rngI 1 (p + 1)) .no (fun d hd => by have := mem_rngI.mp hd; omega) d f
  have hs : evSrc (callF Γ L k) (.rng2 (.c (.int 1)) (.op .add (.cons (.op .idx (.cons (.var 0) (.cons (.c (.int 0)) .nil))) (.cons (.c (.int 1)) .nil)))) [.fz (spec p cs od), .no, .no] = .ok (tI (rngI 1 (p + 1))) [.fz (spec p cs od), .no, .no] := by
    have : evE (callF Γ L k) (.op .add (.cons (.op .idx (.cons (.var 0) (.cons (.c (.int 0)) .nil))) (.cons (.c (.int 1)) .nil))) [.fz (spec p cs od), .no, .no] = .ok (.fz (.int (p + 1))) [.fz (spec p cs od), .no, .no] := ev_op2 (ev_ix rfl sp0) ev_c rfl
    rw [evSrc, evE, Res.bind, this]
    simp only [Res.bind, R.opd, der, rangeT_eq]
    rw [if_pos ⟨wideI_ok (by decide) (by decide), wideI_ok (by omega) (by have := ok.p2; omega)⟩]
  have hb : evSs (callF Γ L k) L d5.body ([.fz (spec p cs od)] ++ List.replicate (d5.ns - d5.np) .no) = .rt (.ow (.lst [.int (lp p cs).1, .lst (tI (lp p cs).2), .lst (tI od)])) m' := by
    show evSs _ L (.cons t5_0 (.cons t5_1 .nil)) [.fz (spec p cs od), .no, .no] = _
    refine seq_rt ?_
    unfold t5_0
    rw [evS, hs, e]
    exact hm
  rw [run_ow (d := d5) (args := [.fz (spec p cs od)]) (hΓ 5 _ rfl) rfl hb]
  rcases m' with _ | ⟨a, m⟩ <;> rfl
theorem st_ok {p : Int} {cs od : List Int} (ok : TxtOk p cs od) : callF Γ L (k + 1) 8 [.fz (spec p cs od)] = .ok (.fz (.str (rText p cs od))) [.no] := by
  obtain ⟨oj, op, oc, oo, cl, ol⟩ := ok
  have hz : sizeLine = 16777216 := rfl
  let M := fun s => [Slot.fz (spec p cs od), s, .no]
  have ne : ∀ (j : Int) (xs : List Int) (s : Slot), idxF (spec p cs od) (.int j) = some (.fz (.lst (tI xs))) → evE (callF Γ L k) (.op .ne (.cons (.op .idx (.cons (.var 0) (.cons (.c (.int j)) .nil))) (.cons (.lst .nil) .nil))) (M s) = .ok (.fz (.bl (!decide (xs = [])))) (M s) := fun j xs s h => by
    rw [evE, evDs, ev_ix rfl h]
    simp [Res.bind, evDs, evE, R.opd, escs, O.frz, opR, ders, der, opF, op2, eq_nil, fB]
  obtain ⟨W, hW⟩ : ∃ W, W = (if cs = [] then ([("none" : PySem.Str)] : List PySem.Str) else cs.map istr) := ⟨_, rfl⟩
  have lW : W.length ≤ 100000 := by rw [hW]; split <;> simp; omega
  have x0 : evS (callF Γ L k) L t8_0 (M .no) = .nx (M (.ow (.lst (tS W)))) := by
    unfold t8_0
    refine (st_set_ow (m1 := M .no) (o := .lst (tS W)) ?_ (show 1 < 3 by decide)).trans rfl
    rw [evE, ne 1 cs .no sp1, hW]
    by_cases h : cs = []
    · rw [decide_eq_true h, if_pos h]
      simp [Res.bind, evE, evDs, R.opd, escs, esc, tS, show (1 : Nat) ≤ sizeLine by decide]
    · rw [decide_eq_false h, if_neg h]
      exact comp_str (m := M .no) (j := 2) (xs := cs) (e := e8_0) rfl (src_it (ev_ix (i := 0) (m := M .no) (show (M .no)[0]? = some (.fz (spec p cs od)) from rfl) sp1) rfl rfl) rfl oc (by omega)
  have x1 : evS (callF Γ L k) L t8_1 (M (.ow (.lst (tS W)))) = .nx (M (.ow (.lst (tS (W ++ [("of" : PySem.Str), istr p]))))) := by
    unfold t8_1
    refine (st_set_ow (m1 := M (.ow (.lst (tS W)))) (o := .lst (tS (W ++ [("of" : PySem.Str), istr p]))) ?_ (show 1 < 3 by decide)).trans rfl
    have e1 : evE (callF Γ L k) (.lst (.cons (.c (.str "of")) (.cons (.op .str (.cons (.op .idx (.cons (.var 0) (.cons (.c (.int 0)) .nil))) .nil)) .nil))) (M (.ow (.lst (tS W)))) = .ok (.ow (.lst [.str "of", .str (istr p)])) (M (.ow (.lst (tS W)))) :=
      ev_lst (ts := [.str "of", .str (istr p)]) (ds_cons ev_c rfl (ds_cons (ts := []) (ev_op1 (ev_ix rfl sp0) (str_int op)) rfl ds_nil)) (show 2 ≤ sizeLine by decide)
    rw [evE, evDs, evE]
    simp only [M, List.getElem?_cons_succ, List.getElem?_cons_zero, Res.bind, R.opd]
    rw [evDs, e1]
    simp only [Res.bind, evDs, R.opd, O.frz, opR, ders, der, opF, op2, Option.bind_some, List.getElem?_cons_succ, List.getElem?_cons_zero, M, addF]
    rw [if_pos (by simp [tS]; omega)]
    simp [tS]
  let W2 := W ++ ([("of" : PySem.Str), istr p] : List PySem.Str)
  have lW2 : W2.length ≤ 100002 := by show (W ++ _).length ≤ _; rw [List.length_append]; simp; omega
  let O2 : List PySem.Str := if od = [] then [] else ("odd" : PySem.Str) :: od.map istr
  have e2 : evE (callF Γ L k) (.ite (.op .ne (.cons (.op .idx (.cons (.var 0) (.cons (.c (.int 2)) .nil))) (.cons (.lst .nil) .nil))) (.op .add (.cons (.lst (.cons (.c (.str "odd")) .nil)) (.cons (.comp [2] (.nm 2) (.it (.op .idx (.cons (.var 0) (.cons (.c (.int 2)) .nil)))) .nil e8_1) .nil))) (.lst .nil)) (M (.ow (.lst (tS W2)))) = .ok (.ow (.lst (tS O2))) (M (.ow (.lst (tS W2)))) := by
    rw [evE, ne 2 od _ sp2]
    by_cases h : od = []
    · show Res.bind _ _ = _
      have : O2 = [] := if_pos h
      rw [decide_eq_true h, this]
      simp [Res.bind, evE, evDs, escs, tS]
    · have : O2 = ("odd" : PySem.Str) :: od.map istr := if_neg h
      rw [decide_eq_false h, this]
      show evE _ _ _ = _
      have e1 : evE (callF Γ L k) (.comp [2] (.nm 2) (.it (.op .idx (.cons (.var 0) (.cons (.c (.int 2)) .nil)))) .nil e8_1) (M (.ow (.lst (tS W2)))) = .ok (.ow (.lst (tS (od.map istr)))) (M (.ow (.lst (tS W2)))) := comp_str rfl (src_it (ev_ix rfl sp2) rfl rfl) rfl oo (by omega)
      have e0 : evE (callF Γ L k) (.lst (.cons (.c (.str "odd")) .nil)) (M (.ow (.lst (tS W2)))) = .ok (.ow (.lst [.str "odd"])) (M (.ow (.lst (tS W2)))) := ev_lst (ts := [.str "odd"]) (ds_cons (ts := []) ev_c rfl ds_nil) (show 1 ≤ sizeLine by decide)
      rw [evE, evDs, e0]
      simp only [Res.bind]
      rw [evDs, e1]
      simp only [Res.bind, evDs, R.opd, O.frz, opR, ders, der, opF, op2, Option.bind_some, addF]
      rw [if_pos (by simp [tS]; omega)]
      rfl
  have rw3 : rWords p cs od = W2 ++ O2 := by unfold rWords; rw [← hW]
  have hb : evSs (callF Γ L k) L d8.body ([.fz (spec p cs od)] ++ List.replicate (d8.ns - d8.np) .no) = .rt (.fz (.str (rText p cs od))) (M (.ow (.lst (tS W2)))) := by
    show evSs _ L (.cons t8_0 (.cons t8_1 (.cons t8_2 .nil))) (M .no) = _
    rw [seq_nx x0, seq_nx x1]
    unfold t8_2
    refine seq_rt (st_ret_fz ?_)
    have e3 : evE (callF Γ L k) (.op .add (.cons (.var 1) (.cons (.ite (.op .ne (.cons (.op .idx (.cons (.var 0) (.cons (.c (.int 2)) .nil))) (.cons (.lst .nil) .nil))) (.op .add (.cons (.lst (.cons (.c (.str "odd")) .nil)) (.cons (.comp [2] (.nm 2) (.it (.op .idx (.cons (.var 0) (.cons (.c (.int 2)) .nil)))) .nil e8_1) .nil))) (.lst .nil)) .nil))) (M (.ow (.lst (tS W2)))) = .ok (.ow (.lst (tS (rWords p cs od)))) (M (.ow (.lst (tS W2)))) := by
      rw [evE, evDs, evE]
      simp only [M, List.getElem?_cons_succ, List.getElem?_cons_zero, Res.bind, R.opd]
      rw [evDs, e2]
      simp only [Res.bind, evDs, R.opd, O.frz, opR, ders, der, opF, op2, Option.bind_some, List.getElem?_cons_succ, List.getElem?_cons_zero, M, addF]
      have lO : O2.length ≤ 100001 := by show (if od = [] then _ else _ : List PySem.Str).length ≤ _; split <;> simp; omega
      rw [if_pos (by simp only [tS, List.length_map]; omega), rw3]
      simp [tS]
    rw [evE, evE]
    simp only [Res.bind, R.opd, der]
    rw [show M (.ow (.lst (tS (W ++ [("of" : PySem.Str), istr p])))) = M (.ow (.lst (tS W2))) from rfl, e3]
    simp only [der, O.frz, join_sp oj, fS]
    rfl
  rw [run_fz (d := d8) (args := [.fz (spec p cs od)]) (hΓ 8 _ rfl) rfl hb]
  rfl
end
end RndP
set_option maxHeartbeats 2000000
namespace RndP
open PySem PySem.Spec PyProof.Rows L2 Mi MiDR RndM

section
variable {Γ : Nat → Option Def} {L k : Nat} (hΓ : ∀ f d, pg f = some d → Γ f = some d)
include hΓ
theorem eq_ok {p p' : Int} {cs od cs' od' : List Int} (ha : od.Pairwise (· < ·)) (hb : od'.Pairwise (· < ·)) : callF Γ L (k + 1) 16 [.fz (rnd p cs od), .fz (rnd p' cs' od')] = .ok (.fz (.bl (decide (p = p') && (decide (cs = cs') && decide (od = od'))))) [.no, .no] := by
  let M := [Slot.fz (rnd p cs od), .fz (rnd p' cs' od')]
  have i0 : evE (callF Γ L k) (.isc [0] [] (.var 1)) M = .ok (.fz (.bl true)) M := by
    simp [evE, M, rnd, Res.bind, R.opd, der]
  have n0 : evE (callF Γ L k) (.op .ne (.cons (.fld 0 (.var 0) "own_period") (.cons (.fld 0 (.var 1) "own_period") .nil))) M = .ok (.fz (.bl (!decide (p = p')))) M := by
    refine ev_op2 (ev_fld (fs := rndF p cs od) rfl lk_p) (ev_fld (fs := rndF p' cs' od') rfl lk_p) ?_
    show fB (not (p == p')) = _
    congr 3
  have hb' : evSs (callF Γ L k) L d16.body ([.fz (rnd p cs od), .fz (rnd p' cs' od')] ++ List.replicate (d16.ns - d16.np) .no) = .rt (.fz (.bl (decide (p = p') && (decide (cs = cs') && decide (od = od'))))) M := by
    show evSs _ L (.cons t16_0 (.cons t16_1 .nil)) M = _
    have c0 := ev_nt i0
    by_cases h : p = p'
    · rw [decide_eq_true h] at n0 ⊢
      rw [seq_nx (m' := M) (by unfold t16_0; rw [st_if0 ((ev_or0 c0).trans n0), evSs])]
      unfold t16_1
      refine seq_rt (st_ret_fz ?_)
      have e1 : evE (callF Γ L k) (.op .eq (.cons (.fld 0 (.var 0) "own_classes") (.cons (.fld 0 (.var 1) "own_classes") .nil))) M = .ok (.fz (.bl (decide (cs = cs')))) M := ev_op2 (ev_fld (fs := rndF p cs od) rfl lk_c) (ev_fld (fs := rndF p' cs' od') rfl lk_c) (eq_tI id cs cs')
      have e2 : evE (callF Γ L k) (.op .eq (.cons (.fld 0 (.var 0) "own_odd") (.cons (.fld 0 (.var 1) "own_odd") .nil))) M = .ok (.fz (.bl (decide (od = od')))) M := ev_op2 (ev_fld (fs := rndF p cs od) rfl lk_o) (ev_fld (fs := rndF p' cs' od') rfl lk_o) (eq_dI id ha hb)
      by_cases g : cs = cs'
      · rw [decide_eq_true g] at e1 ⊢
        rw [ev_an1 e1, e2]; rfl
      · rw [decide_eq_false g] at e1 ⊢
        rw [ev_an0 e1]; rfl
    · rw [decide_eq_false h] at n0 ⊢
      refine seq_rt ?_
      unfold t16_0
      rw [st_if1 ((ev_or0 c0).trans n0)]
      exact seq_rt (st_ret_fz ev_c)
  rw [run_fz (d := d16) (args := [.fz (rnd p cs od), .fz (rnd p' cs' od')]) (hΓ 16 _ rfl) rfl hb']
  rfl
end
/-! ### draws of a round set -/
theorem uniqS_mem (x : Int) : ∀ l : List Int, x ∈ uniqS l ↔ x ∈ l
  | [] => Iff.rfl
  | a :: l => by
    have hi : ∀ l : List Int, x ∈ insU a l ↔ x = a ∨ x ∈ l := fun l => by
      induction l with
      | nil => simp [insU]
      | cons b r ih =>
        rw [insU]
        split
        · simp
        · split
          · rename_i h; subst h; simp
          · rw [List.mem_cons, ih, List.mem_cons]
            exact ⟨fun h => by rcases h with h | h | h <;> simp [h], fun h => by rcases h with h | h | h <;> simp [h]⟩
    rw [uniqS, hi, uniqS_mem x l, List.mem_cons]
theorem insU_asc (a : Int) : ∀ l : List Int, l.Pairwise (· < ·) → (insU a l).Pairwise (· < ·)
  | [], _ => by simp [insU]
  | b :: r, h => by
    have h' := List.pairwise_cons.mp h
    rw [insU]
    split
    · rename_i lt
      refine List.pairwise_cons.mpr ⟨fun x hx => ?_, h⟩
      rcases List.mem_cons.mp hx with rfl | hx
      · exact lt
      · have := h'.1 x hx; omega
    · split
      · exact h
      · rename_i h1 h2
        refine List.pairwise_cons.mpr ⟨fun x hx => ?_, insU_asc a r h'.2⟩
        have : x = a ∨ x ∈ r := by
          clear h h' h1 h2
          induction r with
          | nil => simp [insU] at hx; exact .inl hx
          | cons c r ih =>
            rw [insU] at hx
            split at hx
            · rcases List.mem_cons.mp hx with z | z
              · exact .inl z
              · exact .inr z
            · split at hx
              · exact .inr hx
              · rcases List.mem_cons.mp hx with z | z
                · exact .inr (by simp [z])
                · exact (ih z).imp id fun z => by simp [z]
        rcases this with rfl | hx
        · omega
        · exact h'.1 x hx
theorem uniqS_asc : ∀ l : List Int, (uniqS l).Pairwise (· < ·)
  | [] => .nil
  | a :: l => insU_asc a _ (uniqS_asc l)
theorem insU_len (a : Int) : ∀ l : List Int, (insU a l).length ≤ l.length + 1
  | [] => by simp [insU]
  | b :: r => by
    rw [insU]
    split
    · simp
    · split
      · simp
      · have := insU_len a r; simp; omega
theorem uniqS_len : ∀ l : List Int, (uniqS l).length ≤ l.length
  | [] => Nat.le_refl _
  | a :: l => by have := insU_len a (uniqS l); have := uniqS_len l; rw [uniqS, List.length_cons]; omega
theorem ints_tI : ∀ l : List Int, intsT (tI l) = some l
  | [] => rfl
  | a :: l => by show (intsT (tI l)).map _ = _; rw [ints_tI l]; rfl
section
variable {Γ : Nat → Option Def} {L k : Nat} (hΓ : ∀ f d, pg f = some d → Γ f = some d)
include hΓ
end
end RndP
set_option maxHeartbeats 2000000
namespace RndP
open PySem PySem.Spec PyProof.Rows L2 Mi MiDR RndM

section
variable {Γ : Nat → Option Def} {L k : Nat} (hΓ : ∀ f d, pg f = some d → Γ f = some d)
include hΓ
end
/-! ### a longer period says nothing new -/
noncomputable def Per (F : Int → Prop) (d : Nat) : Prop := ∀ x, F (x + d) ↔ F x
theorem Per.mul {F : Int → Prop} {d : Nat} (h : Per F d) : ∀ (n : Nat) (x : Int), F (x + (d * n : Nat)) ↔ F x
  | 0, x => by simp
  | n + 1, x => by
    have := h (x + (d * n : Nat))
    rw [show x + ((d * (n + 1) : Nat) : Int) = x + ((d * n : Nat) : Int) + (d : Int) by rw [Nat.mul_succ]; push_cast; omega, this]
    exact Per.mul h n x
theorem Per.gcd {F : Int → Prop} (m n : Nat) : Per F m → Per F n → Per F (Nat.gcd m n) := by
  induction m, n using Nat.gcd.induction with
  | H0 n => intro _ h; rwa [Nat.gcd_zero_left]
  | H1 m n h0 ih =>
    intro hm hn
    rw [Nat.gcd_rec]
    refine ih (fun x => ?_) hm
    have h1 := hm.mul (n / m) (x + (n % m : Nat))
    have e : x + ((n % m : Nat) : Int) + ((m * (n / m) : Nat) : Int) = x + (n : Int) := by
      have := Nat.mod_add_div n m
      omega
    rw [e, hn x] at h1
    exact h1.symm
theorem per_F {p : Int} {cs : List Int} (hp : 0 < p) {d : Int} (hd0 : 0 < d) : per p cs d = true ↔ p % d = 0 ∧ ∀ x : Int, (x % p % d ∈ cs) ↔ (x % p ∈ cs) := by
  unfold per
  rw [Bool.and_eq_true, decide_eq_true_eq, List.all_eq_true]
  refine and_congr Iff.rfl ⟨fun h x => ?_, fun h x hx => ?_⟩
  · have := h (x % p) (mem_rngI.mpr ⟨Int.emod_nonneg _ (by omega), Int.emod_lt_of_pos _ hp⟩)
    simpa using this
  · obtain ⟨h1, h2⟩ := mem_rngI.mp hx
    have := h x
    rw [Int.emod_eq_of_lt h1 h2] at this
    simpa using this
theorem find_least {P : Int → Bool} : ∀ (l : List Int) (d : Int), l.Pairwise (· < ·) → d ∈ l → P d = true → (∀ x ∈ l, x < d → P x = false) → l.find? P = some d
  | [], d, _, h, _, _ => by cases h
  | a :: l, d, ha, h, hp, hn => by
    have ha' := List.pairwise_cons.mp ha
    rcases List.mem_cons.mp h with rfl | h
    · rw [List.find?_cons_of_pos hp]
    · have := hn a (by simp) (ha'.1 d h)
      rw [List.find?_cons_of_neg (by simp [this])]
      exact find_least l d ha'.2 h hp fun x hx => hn x (by simp [hx])
theorem find_min {P : Int → Bool} : ∀ (l : List Int) (d : Int), l.Pairwise (· < ·) → l.find? P = some d → d ∈ l ∧ P d = true ∧ ∀ x ∈ l, x < d → P x = false
  | [], d, _, h => by cases h
  | a :: l, d, ha, h => by
    have ha' := List.pairwise_cons.mp ha
    cases hp : P a with
    | true =>
      rw [List.find?_cons_of_pos hp] at h
      cases h
      refine ⟨by simp, hp, fun x hx hlt => ?_⟩
      rcases List.mem_cons.mp hx with rfl | hx
      · omega
      · have := ha'.1 x hx; omega
    | false =>
      rw [List.find?_cons_of_neg (by simp [hp])] at h
      obtain ⟨h1, h2, h3⟩ := find_min l d ha'.2 h
      refine ⟨by simp [h1], h2, fun x hx hlt => ?_⟩
      rcases List.mem_cons.mp hx with rfl | hx
      · exact hp
      · exact h3 x hx hlt
theorem lp_wide {p t : Int} {cs : List Int} (hp : 0 < p) (ht : 0 < t) (ha : cs.Pairwise (· < ·)) (hb : ∀ x ∈ cs, 0 ≤ x ∧ x < p) : lp (p * t) ((rngI 0 (p * t)).filter fun x => decide (x % p ∈ cs)) = lp p cs := by
  have hpt : 0 < p * t := Int.mul_pos hp ht
  have hle : p ≤ p * t := by
    have := Int.mul_le_mul_of_nonneg_left (show 1 ≤ t by omega) (show 0 ≤ p by omega)
    omega
  let W := (rngI 0 (p * t)).filter fun x => decide (x % p ∈ cs)
  have wm : ∀ x, x ∈ W ↔ (0 ≤ x ∧ x < p * t) ∧ x % p ∈ cs := fun x => by
    show x ∈ List.filter _ _ ↔ _
    rw [List.mem_filter, mem_rngI, decide_eq_true_eq]
  have wa : W.Pairwise (· < ·) := asc_filter (asc_rngI 0 (p * t))
  have wb : ∀ x ∈ W, 0 ≤ x ∧ x < p * t := fun x hx => ((wm x).mp hx).1
  obtain ⟨d, f, e, d0, d1⟩ := lp_find hp ha hb
  obtain ⟨d', f', e', d0', d1'⟩ := lp_find hpt wa wb
  obtain ⟨_, q1, q2⟩ := find_min _ _ (asc_rngI 1 (p + 1)) f
  have q3 := (per_F hp d0).mp q1
  have pd : p * t % p = 0 := Int.mul_emod_right p t
  have mp : ∀ x : Int, x % (p * t) % p = x % p := fun x => Int.emod_emod_of_dvd x (Int.dvd_mul_right p t)
  -- d serves the longer one
  have dp : d ∣ p := Int.dvd_of_emod_eq_zero q3.1
  have s1 : per (p * t) W d = true := by
    refine (per_F hpt d0).mpr ⟨Int.emod_eq_zero_of_dvd (Int.dvd_trans dp (Int.dvd_mul_right p t)), fun x => ?_⟩
    have r0 := Int.emod_nonneg x (show p * t ≠ 0 by omega)
    have r1 := Int.emod_lt_of_pos x hpt
    have u0 := Int.emod_nonneg (x % (p * t)) (show d ≠ 0 by omega)
    have u1 := Int.emod_lt_of_pos (x % (p * t)) d0
    rw [wm, wm]
    have k1 : x % (p * t) % d % p = x % (p * t) % d := Int.emod_eq_of_lt u0 (by omega)
    have k2 : x % (p * t) % d = x % p % d := by
      rw [Int.emod_emod_of_dvd _ (Int.dvd_trans dp (Int.dvd_mul_right p t)), Int.emod_emod_of_dvd _ dp]
    rw [k1, mp x, k2]
    have := q3.2 x
    constructor
    · rintro ⟨_, h⟩; exact ⟨⟨r0, r1⟩, this.mp h⟩
    · rintro ⟨_, h⟩; exact ⟨⟨by rw [← k2]; omega, by rw [← k2]; omega⟩, this.mpr h⟩
  -- nothing less does
  have s2 : ∀ y ∈ rngI 1 (p * t + 1), y < d → per (p * t) W y = false := fun y hy hlt => by
    have y0 : 0 < y := by have := mem_rngI.mp hy; omega
    cases hyp : per (p * t) W y with
    | false => rfl
    | true =>
      exfalso
      have z := (per_F hpt y0).mp hyp
      have yd : y ∣ p * t := Int.dvd_of_emod_eq_zero z.1
      let F : Int → Prop := fun x => x % p ∈ cs
      have fw : ∀ x, F x ↔ x % (p * t) ∈ W := fun x => by
        rw [wm, mp x]
        exact ⟨fun h => ⟨⟨Int.emod_nonneg x (by omega), Int.emod_lt_of_pos x hpt⟩, h⟩, fun h => h.2⟩
      have fy : ∀ x, F x ↔ x % y ∈ W := fun x => by
        rw [fw x, ← z.2 x, Int.emod_emod_of_dvd x yd]
      have py : Per F y.toNat := fun x => by
        rw [fy (x + (y.toNat : Int)), fy x, show ((y.toNat : Nat) : Int) = y by omega, Int.add_emod_right]
      have pp : Per F p.toNat := fun x => by
        show (x + (p.toNat : Int)) % p ∈ cs ↔ x % p ∈ cs
        rw [show ((p.toNat : Nat) : Int) = p by omega, Int.add_emod_right]
      have pg := Per.gcd _ _ py pp
      let g := Nat.gcd y.toNat p.toNat
      have g0 : 0 < g := Nat.gcd_pos_of_pos_right _ (by omega)
      have gy : g ≤ y.toNat := Nat.gcd_le_left _ (by omega)
      have gp : (g : Int) ∣ p := by
        have : g ∣ p.toNat := Nat.gcd_dvd_right _ _
        have := Int.natCast_dvd_natCast.mpr this
        rwa [show ((p.toNat : Nat) : Int) = p by omega] at this
      have gm : ∀ (n : Nat) (x : Int), F (x + (g : Int) * n) ↔ F x := fun n x => by
        have := Per.mul pg n x
        rwa [show (((y.toNat.gcd p.toNat) * n : Nat) : Int) = (g : Int) * n by push_cast; rfl] at this
      have sg : per p cs (g : Int) = true := by
        refine (per_F hp (by omega)).mpr ⟨Int.emod_eq_zero_of_dvd gp, fun x => ?_⟩
        rw [Int.emod_emod_of_dvd x gp]
        have a0 := Int.emod_nonneg (x % p) (show (g : Int) ≠ 0 by omega)
        have b0 : 0 ≤ x % p := Int.emod_nonneg x (by omega)
        have b1 : x % p < p := Int.emod_lt_of_pos x hp
        have c0 : x % (g : Int) = x % p % (g : Int) := (Int.emod_emod_of_dvd x gp).symm
        have c1 : x % p % (g : Int) ≤ x % p := by
          have := Int.mul_ediv_add_emod (x % p) g
          have h2 : 0 ≤ x % p / (g : Int) := Int.ediv_nonneg b0 (by omega)
          have h3 : 0 ≤ (g : Int) * (x % p / (g : Int)) := Int.mul_nonneg (by omega) h2
          omega
        obtain ⟨n, hn⟩ := Int.eq_ofNat_of_zero_le (show 0 ≤ x % p / (g : Int) from Int.ediv_nonneg b0 (by omega))
        have := gm n (x % p % (g : Int))
        have e1 : x % p % (g : Int) + (g : Int) * n = x % p := by
          have := Int.mul_ediv_add_emod (x % p) g
          rw [hn] at this
          omega
        rw [e1] at this
        have f1 : F (x % p) ↔ x % p ∈ cs := by show x % p % p ∈ cs ↔ _; rw [Int.emod_emod]
        have f2 : F (x % p % (g : Int)) ↔ x % p % (g : Int) ∈ cs := by
          show x % p % (g : Int) % p ∈ cs ↔ _
          rw [Int.emod_eq_of_lt a0 (by omega)]
        rw [c0, ← f2, ← this, f1]
      have := q2 g (mem_rngI.mpr ⟨by omega, by have := Int.le_of_dvd hp gp; omega⟩) (by omega)
      rw [sg] at this
      cases this
  have f2 := find_least _ d (asc_rngI 1 (p * t + 1)) (mem_rngI.mpr ⟨by omega, by omega⟩) s1 s2
  have : d' = d := by
    rw [f2] at f'
    cases f'
    rfl
  subst this
  rw [e']
  show (d', W.filter fun x => decide (x < d')) = _
  rw [e]
  refine congrArg _ (asc_ext (asc_filter wa) (asc_filter ha) fun x => ?_)
  simp only [List.mem_filter, decide_eq_true_eq, wm]
  constructor
  · rintro ⟨⟨⟨h1, h2⟩, h3⟩, h4⟩
    rw [Int.emod_eq_of_lt h1 (by omega)] at h3
    exact ⟨h3, h4⟩
  · rintro ⟨h3, h4⟩
    have := hb x h3
    exact ⟨⟨⟨this.1, by omega⟩, by rw [Int.emod_eq_of_lt this.1 this.2]; exact h3⟩, h4⟩
end RndP
set_option maxHeartbeats 2000000
namespace RndP
open PySem PySem.Spec PyProof.Rows L2 Mi MiDR RndM

/-! ### the rounds of a round set -/
noncomputable def hasI (p : Int) (cs od : List Int) (x : Int) : Bool := decide (x % p ∈ cs) != decide (x ∈ od)
structure Can (p : Int) (cs od : List Int) : Prop where
  ok : RndOk p cs od
  lp : lp p cs = (p, cs)
theorem mod_dvd {x p d : Int} (h : d ∣ p) : x % p % d = x % d := Int.emod_emod_of_dvd x h
theorem lp_can {p : Int} {cs od : List Int} (ok : RndOk p cs od) : Can (RndP.lp p cs).1 (RndP.lp p cs).2 od := by
  refine ⟨ok.lp, ?_⟩
  have hp : 0 < p := by have := ok.p1; omega
  obtain ⟨d, f, e, d0, d1⟩ := lp_find hp ok.ca ok.cb
  obtain ⟨_, q1, _⟩ := find_min _ _ (asc_rngI 1 (p + 1)) f
  obtain ⟨q2, q3⟩ := (per_F hp d0).mp q1
  have dp : d ∣ p := Int.dvd_of_emod_eq_zero q2
  rw [e]
  show RndP.lp d (cs.filter fun x => decide (x < d)) = (d, cs.filter fun x => decide (x < d))
  have hpd : p = d * (p / d) := (Int.mul_ediv_cancel' dp).symm
  have t0 : 0 < p / d := Int.ediv_pos_of_pos_of_dvd hp (by omega) dp
  have ecs : cs = (rngI 0 (d * (p / d))).filter fun x => decide (x % d ∈ cs.filter fun x => decide (x < d)) := by
    refine asc_ext ok.ca (asc_filter (asc_rngI _ _)) fun x => ?_
    rw [List.mem_filter, mem_rngI, decide_eq_true_eq, List.mem_filter, decide_eq_true_eq, ← hpd]
    constructor
    · intro hx
      obtain ⟨b0, b1⟩ := ok.cb x hx
      have := (q3 x).mpr (by rw [Int.emod_eq_of_lt b0 b1]; exact hx)
      rw [mod_dvd dp] at this
      exact ⟨⟨b0, b1⟩, this, Int.emod_lt_of_pos x d0⟩
    · rintro ⟨⟨b0, b1⟩, h, _⟩
      have := (q3 x).mp (by rw [mod_dvd dp]; exact h)
      rwa [Int.emod_eq_of_lt b0 b1] at this
  have w := lp_wide (t := p / d) d0 t0 (asc_filter ok.ca) (cs := cs.filter fun x => decide (x < d)) fun x hx => by
    obtain ⟨a, b⟩ := List.mem_filter.mp hx
    exact ⟨(ok.cb x a).1, of_decide_eq_true b⟩
  rw [← ecs, ← hpd, e] at w
  exact w.symm
theorem has_lp {p : Int} {cs od : List Int} (ok : RndOk p cs od) (x : Int) : hasI (RndP.lp p cs).1 (RndP.lp p cs).2 od x = hasI p cs od x := by
  have hp : 0 < p := by have := ok.p1; omega
  obtain ⟨d, f, e, d0, d1⟩ := lp_find hp ok.ca ok.cb
  obtain ⟨_, q1, _⟩ := find_min _ _ (asc_rngI 1 (p + 1)) f
  obtain ⟨q2, q3⟩ := (per_F hp d0).mp q1
  have dp : d ∣ p := Int.dvd_of_emod_eq_zero q2
  rw [e]
  unfold hasI
  congr 1
  refine decide_eq_decide.mpr ?_
  show x % d ∈ cs.filter _ ↔ _
  rw [List.mem_filter, decide_eq_true_eq, ← mod_dvd dp (x := x)]
  exact ⟨fun h => (q3 x).mp h.1, fun h => ⟨(q3 x).mpr h, Int.emod_lt_of_pos _ d0⟩⟩
theorem per_of {p : Int} {cs : List Int} (hp : 0 < p) {g : Nat} (g0 : 0 < g) (gp : (g : Int) ∣ p) (pg : Per (fun x => x % p ∈ cs) g) : per p cs (g : Int) = true := by
  refine (per_F hp (by omega)).mpr ⟨Int.emod_eq_zero_of_dvd gp, fun x => ?_⟩
  rw [mod_dvd gp]
  have a0 := Int.emod_nonneg (x % p) (show (g : Int) ≠ 0 by omega)
  have b0 : 0 ≤ x % p := Int.emod_nonneg x (by omega)
  have b1 : x % p < p := Int.emod_lt_of_pos x hp
  have h2 : 0 ≤ x % p / (g : Int) := Int.ediv_nonneg b0 (by omega)
  have dm := Int.mul_ediv_add_emod (x % p) g
  have h3 : 0 ≤ (g : Int) * (x % p / (g : Int)) := Int.mul_nonneg (by omega) h2
  obtain ⟨n, hn⟩ := Int.eq_ofNat_of_zero_le h2
  have key := Per.mul pg n (x % p % (g : Int))
  have e1 : x % p % (g : Int) + ((g * n : Nat) : Int) = x % p := by
    rw [hn] at dm
    rw [show ((g * n : Nat) : Int) = (g : Int) * n by push_cast; rfl]
    omega
  rw [e1] at key
  have f1 : (x % p % p ∈ cs) ↔ x % p ∈ cs := by rw [Int.emod_emod]
  have f2 : (x % p % (g : Int) % p ∈ cs) ↔ x % p % (g : Int) ∈ cs := by rw [Int.emod_eq_of_lt a0 (by omega)]
  rw [← mod_dvd gp (x := x), ← f2]
  exact key.symm.trans f1
theorem bound_of : ∀ xs : List Int, ∃ m : Int, 0 ≤ m ∧ ∀ x ∈ xs, x < m
  | [] => ⟨0, by omega, by simp⟩
  | a :: r => by
    obtain ⟨m, h0, h⟩ := bound_of r
    by_cases q : a < m
    · exact ⟨m, h0, fun x hx => by rcases List.mem_cons.mp hx with rfl | hx; exact q; exact h x hx⟩
    · refine ⟨a + 1, by omega, fun x hx => ?_⟩
      rcases List.mem_cons.mp hx with rfl | hx
      · omega
      · have := h x hx; omega
theorem bne_iff {a b c d : Bool} (h : (a != b) = (c != d)) (hb : b = false) (hd : d = false) : a = c := by subst hb hd; simpa using h
/-- the same rounds: the same pattern -/
theorem pat_ext {p p' : Int} {cs od cs' od' : List Int} (a : Can p cs od) (b : Can p' cs' od') (h : ∀ x, 0 ≤ x → hasI p cs od x = hasI p' cs' od' x) : ∀ x : Int, (x % p ∈ cs) ↔ (x % p' ∈ cs') := fun x => by
  have hp : 0 < p := by have := a.ok.p1; omega
  have hp' : 0 < p' := by have := b.ok.p1; omega
  obtain ⟨m, m0, hm⟩ := bound_of (od ++ od')
  have pp : 0 < p * p' := Int.mul_pos hp hp'
  let n := m + x.natAbs
  have n0 : 0 ≤ n := by show 0 ≤ m + (x.natAbs : Int); omega
  have big : m ≤ x + p * p' * n := by
    have := Int.mul_le_mul_of_nonneg_right (show 1 ≤ p * p' by omega) n0
    rw [Int.one_mul] at this
    have : m + (x.natAbs : Int) ≤ p * p' * n := this
    omega
  have e1 : (x + p * p' * n) % p = x % p := by rw [show p * p' * n = p * (p' * n) by rw [Int.mul_assoc]]; exact Int.add_mul_emod_self_left x p (p' * n)
  have e2 : (x + p * p' * n) % p' = x % p' := by rw [show p * p' * n = p' * (p * n) by rw [Int.mul_comm p p', Int.mul_assoc]]; exact Int.add_mul_emod_self_left x p' (p * n)
  have hx := h (x + p * p' * n) (by omega)
  unfold hasI at hx
  rw [e1, e2] at hx
  have o1 : decide (x + p * p' * n ∈ od) = false := decide_eq_false fun z => by have := hm _ (List.mem_append_left od' z); omega
  have o2 : decide (x + p * p' * n ∈ od') = false := decide_eq_false fun z => by have := hm _ (List.mem_append_right od z); omega
  have := bne_iff hx o1 o2
  exact decide_eq_decide.mp this
theorem can_le {p p' : Int} {cs od cs' od' : List Int} (a : Can p cs od) (b : Can p' cs' od') (h : ∀ x : Int, (x % p ∈ cs) ↔ (x % p' ∈ cs')) : p ≤ p' := by
  have hp : 0 < p := by have := a.ok.p1; omega
  have hp' : 0 < p' := by have := b.ok.p1; omega
  obtain ⟨d, f, e, d0, d1⟩ := lp_find hp a.ok.ca a.ok.cb
  have hd : d = p := by have := e.symm.trans a.lp; exact congrArg Prod.fst this
  subst hd
  obtain ⟨_, _, q2⟩ := find_min _ _ (asc_rngI 1 (d + 1)) f
  have py : Per (fun x => x % d ∈ cs) p'.toNat := fun x => by
    show (x + (p'.toNat : Int)) % d ∈ cs ↔ x % d ∈ cs
    rw [h, h x, show ((p'.toNat : Nat) : Int) = p' by omega, Int.add_emod_right]
  have pp : Per (fun x => x % d ∈ cs) d.toNat := fun x => by
    show (x + (d.toNat : Int)) % d ∈ cs ↔ x % d ∈ cs
    rw [show ((d.toNat : Nat) : Int) = d by omega, Int.add_emod_right]
  have pg := Per.gcd _ _ py pp
  let g := Nat.gcd p'.toNat d.toNat
  have g0 : 0 < g := Nat.gcd_pos_of_pos_right _ (by omega)
  have gy : g ≤ p'.toNat := Nat.gcd_le_left _ (by omega)
  have gp : (g : Int) ∣ d := by
    have : g ∣ d.toNat := Nat.gcd_dvd_right _ _
    have := Int.natCast_dvd_natCast.mpr this
    rwa [show ((d.toNat : Nat) : Int) = d by omega] at this
  have sg := per_of hp g0 gp pg
  by_cases lt : (g : Int) < d
  · have := q2 g (mem_rngI.mpr ⟨by omega, by have := Int.le_of_dvd hp gp; omega⟩) lt
    rw [sg] at this
    cases this
  · omega
theorem can_ext {p p' : Int} {cs od cs' od' : List Int} (a : Can p cs od) (b : Can p' cs' od') (h : ∀ x, 0 ≤ x → hasI p cs od x = hasI p' cs' od' x) : p = p' ∧ cs = cs' ∧ od = od' := by
  have pe := pat_ext a b h
  have e : p = p' := Int.le_antisymm (can_le a b pe) (can_le b a fun x => (pe x).symm)
  subst e
  refine ⟨rfl, asc_ext a.ok.ca b.ok.ca fun x => ?_, asc_ext a.ok.oa b.ok.oa fun x => ?_⟩
  · constructor
    · intro hx
      obtain ⟨h0, h1⟩ := a.ok.cb x hx
      have := (pe x).mp (by rw [Int.emod_eq_of_lt h0 h1]; exact hx)
      rwa [Int.emod_eq_of_lt h0 h1] at this
    · intro hx
      obtain ⟨h0, h1⟩ := b.ok.cb x hx
      have := (pe x).mpr (by rw [Int.emod_eq_of_lt h0 h1]; exact hx)
      rwa [Int.emod_eq_of_lt h0 h1] at this
  · have key : ∀ x, 0 ≤ x → (x ∈ od ↔ x ∈ od') := fun x hx => by
      have := h x hx
      unfold hasI at this
      rw [decide_eq_decide.mpr (pe x)] at this
      have : decide (x ∈ od) = decide (x ∈ od') := by
        revert this
        cases decide (x % p ∈ cs') <;> cases decide (x ∈ od) <;> cases decide (x ∈ od') <;> simp
      exact decide_eq_decide.mp this
    exact ⟨fun hx => (key x (a.ok.ob x hx)).mp hx, fun hx => (key x (b.ok.ob x hx)).mpr hx⟩
/-! ### two round sets combined -/
noncomputable def lcmI (p q : Int) : Int := ((Nat.lcm p.toNat q.toNat : Nat) : Int)
noncomputable def cCs (k : Bool → Bool → Bool) (p : Int) (cs : List Int) (q : Int) (ds : List Int) : List Int := (rngI 0 (lcmI p q)).filter fun x => k (decide (x % p ∈ cs)) (decide (x % q ∈ ds))
noncomputable def cOd (k : Bool → Bool → Bool) (p : Int) (cs od : List Int) (q : Int) (ds ed : List Int) : List Int := (uniqS (od ++ ed)).filter fun x => k (hasI p cs od x) (hasI q ds ed x) != decide (x % lcmI p q ∈ cCs k p cs q ds)
theorem lcm_dvd1 {p q : Int} (hp : 0 < p) : p ∣ lcmI p q := by
  have := Int.natCast_dvd_natCast.mpr (Nat.dvd_lcm_left p.toNat q.toNat)
  rwa [show ((p.toNat : Nat) : Int) = p by omega] at this
theorem lcm_dvd2 {p q : Int} (hq : 0 < q) : q ∣ lcmI p q := by
  have := Int.natCast_dvd_natCast.mpr (Nat.dvd_lcm_right p.toNat q.toNat)
  rwa [show ((q.toNat : Nat) : Int) = q by omega] at this
theorem lcm_pos {p q : Int} (hp : 0 < p) (hq : 0 < q) : 0 < lcmI p q := by
  have := Nat.lcm_pos (show 0 < p.toNat by omega) (show 0 < q.toNat by omega)
  unfold lcmI
  omega
theorem lcm_dvd {p q n : Int} (hp : 0 < p) (hq : 0 < q) (h1 : p ∣ n) (h2 : q ∣ n) : lcmI p q ∣ n := by
  unfold lcmI
  have a : p.toNat ∣ n.natAbs := by
    have := Int.natAbs_dvd_natAbs.mpr h1
    rwa [show p.natAbs = p.toNat by omega] at this
  have b : q.toNat ∣ n.natAbs := by
    have := Int.natAbs_dvd_natAbs.mpr h2
    rwa [show q.natAbs = q.toNat by omega] at this
  exact Int.ofNat_dvd_left.mpr (Nat.lcm_dvd a b)
theorem mem_cCs {k : Bool → Bool → Bool} {p q : Int} {cs ds : List Int} (hp : 0 < p) (hq : 0 < q) (x : Int) : decide (x % lcmI p q ∈ cCs k p cs q ds) = k (decide (x % p ∈ cs)) (decide (x % q ∈ ds)) := by
  have h0 := lcm_pos hp hq
  have e : (x % lcmI p q ∈ cCs k p cs q ds) ↔ k (decide (x % p ∈ cs)) (decide (x % q ∈ ds)) = true := by
    unfold cCs
    rw [List.mem_filter, mem_rngI, mod_dvd (lcm_dvd1 hp), mod_dvd (lcm_dvd2 hq)]
    exact ⟨fun h => h.2, fun h => ⟨⟨Int.emod_nonneg x (by omega), Int.emod_lt_of_pos x h0⟩, h⟩⟩
  cases h : k (decide (x % p ∈ cs)) (decide (x % q ∈ ds)) with
  | true => exact decide_eq_true (e.mpr h)
  | false => exact decide_eq_false fun z => by rw [e.mp z] at h; cases h
theorem has_comb {k : Bool → Bool → Bool} {p q : Int} {cs od ds ed : List Int} (hp : 0 < p) (hq : 0 < q) (x : Int) : hasI (lcmI p q) (cCs k p cs q ds) (cOd k p cs od q ds ed) x = k (hasI p cs od x) (hasI q ds ed x) := by
  unfold hasI
  rw [mem_cCs hp hq]
  have eo : decide (x ∈ cOd k p cs od q ds ed) = (decide (x ∈ od ∨ x ∈ ed) && (k (hasI p cs od x) (hasI q ds ed x) != k (decide (x % p ∈ cs)) (decide (x % q ∈ ds)))) := by
    unfold cOd
    rw [← mem_cCs hp hq (k := k)]
    have : (x ∈ (uniqS (od ++ ed)).filter fun x => k (hasI p cs od x) (hasI q ds ed x) != decide (x % lcmI p q ∈ cCs k p cs q ds)) ↔ (x ∈ od ∨ x ∈ ed) ∧ (k (hasI p cs od x) (hasI q ds ed x) != decide (x % lcmI p q ∈ cCs k p cs q ds)) = true := by
      rw [List.mem_filter, uniqS_mem, List.mem_append]
    rw [decide_eq_decide.mpr this, Bool.decide_and, Bool.decide_eq_true]
  rw [eo]
  unfold hasI
  by_cases h1 : x ∈ od
  · cases k (decide (x % p ∈ cs)) (decide (x % q ∈ ds)) <;> cases k (decide (x % p ∈ cs) != decide (x ∈ od)) (decide (x % q ∈ ds) != decide (x ∈ ed)) <;> simp [h1]
  · by_cases h2 : x ∈ ed
    · cases k (decide (x % p ∈ cs)) (decide (x % q ∈ ds)) <;> cases k (decide (x % p ∈ cs) != decide (x ∈ od)) (decide (x % q ∈ ds) != decide (x ∈ ed)) <;> simp [h2]
    · have z1 : decide (x ∈ od) = false := decide_eq_false h1
      have z2 : decide (x ∈ ed) = false := decide_eq_false h2
      rw [z1, z2, Bool.bne_false, Bool.bne_false]
      simp [h1, h2]
end RndP
set_option maxHeartbeats 2000000
namespace RndP
open PySem PySem.Spec PyProof.Rows L2 Mi MiDR RndM

/-! ### evaluation, more -/
theorem ev_compI2 {cal : Nat → List Slot → CRes} {own : List Nat} {p : Pt} {s : Src} {cs : Es} {e : E} {m0 m : List Slot} {xs : List Int} (P : Int → Bool) (g : Int → T) (hs : evSrc cal s m0 = .ok (tI xs) m) (hn : noOw m own = true) (hw : wipeM (wipeM m own) own = wipeM m own)
    (h : ∀ x ∈ xs, ∃ m1, bindP (wipeM m own) p (.int x) = some m1 ∧ wipeM m1 own = wipeM m own ∧ evAll cal cs m1 = .ok (.fz (.bl (P x))) m1 ∧ (P x = true → ∃ r, evE cal e m1 = .ok r m1 ∧ esc m1 r.opd = some (g x, m1))) (hl : xs.length ≤ sizeLine) :
    evE cal (.comp own p s cs e) m0 = .ok (.ow (.lst ((xs.filter P).map g))) m := by
  have hc := compP (own := own) (p := p) (cond := fun m => evAll cal cs m) (elt := fun m => evE cal e m) (m0 := wipeM m own) (fun t => match t with | .int x => P x | _ => false) (fun t => match t with | .int x => g x | t => t) (tI xs) [] (fun x hx => by
    obtain ⟨y, hy, rfl⟩ := List.mem_map.mp hx
    rw [hw]; exact h y hy) (by simpa using hl)
  have e2 : ((tI xs).filter (fun t => match t with | .int x => P x | _ => false)).map (fun t => match t with | .int x => g x | t => t) = (xs.filter P).map g := by
    clear hc h hs hl
    induction xs with
    | nil => rfl
    | cons a r ih =>
      cases hp : P a with
      | true => rw [List.filter_cons_of_pos hp, List.map_cons, tI_cons, List.filter_cons_of_pos (by simpa using hp), List.map_cons, ih]
      | false => rw [List.filter_cons_of_neg (by simp [hp]), tI_cons, List.filter_cons_of_neg (by simp [hp]), ih]
  rw [List.nil_append, e2] at hc
  rw [evE, hs]
  simp only [Res.bind, if_pos hn, hc, Res.calm, rest_wipe hn]
theorem ev_dcI2 {cal : Nat → List Slot → CRes} {own : List Nat} {p : Pt} {s : Src} {cs : Es} {ke ve : E} {m0 m : List Slot} {xs : List Int} (hs : evSrc cal s m0 = .ok (tI xs) m) (hn : noOw m own = true) (hw : wipeM (wipeM m own) own = wipeM m own)
    (h : ∀ x ∈ xs, ∃ m1, bindP (wipeM m own) p (.int x) = some m1 ∧ wipeM m1 own = wipeM m own ∧ evAll cal cs m1 = .ok (.fz (.bl true)) m1 ∧ evE cal ke m1 = .ok (.fz (.int x)) m1 ∧ evE cal ve m1 = .ok (.fz (.bl true)) m1) (hd : xs.Nodup) (hl : xs.length ≤ sizeLine) :
    evE cal (.dcm own p s cs ke ve) m0 = .ok (.ow (.dic (dI xs))) m := by
  have hc := dcI (own := own) (p := p) (cond := fun m => evAll cal cs m) (ke := fun m => evE cal ke m) (ve := fun m => evE cal ve m) (m0 := wipeM m own) xs [] (fun x hx => by rw [hw]; exact h x hx) (by simpa using hd) (by simpa using hl)
  rw [evE, hs]
  simp only [Res.bind, if_pos hn]
  have e : dI ([] : List Int) = [] := rfl
  rw [e] at hc
  simp only [hc, Res.calm, rest_wipe hn, List.nil_append]
/-- x in d, d an owned dict at slot i -/
theorem ev_inD {cal : Nat → List Slot → CRes} {a : E} {m m1 : List Slot} {i : Nat} {x : Int} {xs : List Int} (ha : evE cal a m = .ok (.fz (.int x)) m1) (hi : m1[i]? = some (.ow (.dic (dI xs)))) : evE cal (.op .isin (.cons a (.cons (.var i) .nil))) m = .ok (.fz (.bl (decide (x ∈ xs)))) m1 := by
  rw [evE, evDs, ha]
  simp only [Res.bind]
  rw [evDs, evE, hi]
  simp only [Res.bind, evDs, R.opd, opR, ders, der, hi, O.frz, opF, op2, Option.bind_some, in_dI, fB, id]
theorem ev_propR {cal : Nat → List Slot → CRes} {m m1 : List Slot} {f : Nat} {e : E} {fs : List (PySem.Str × T)} {t : T} (he : evE cal e m = .ok (.fz (.ins 0 fs)) m1) (hc : cal f [.fz (.ins 0 fs)] = .ok (.fz t) [.no]) : evE cal (.prop 0 f e) m = .ok (.fz t) m1 := by
  rw [evE, he]
  simp [Res.bind, R.opd, der, callR, pass, esc, hc, back, Res.calm]
theorem ev_meth0R {cal : Nat → List Slot → CRes} {m m1 : List Slot} {f : Nat} {n : PySem.Str} {e : E} {r : Mi.R} {fs : List (PySem.Str × T)} (he : evE cal e m = .ok (.fz (.ins 0 fs)) m1) (hn : fs.lookup n = none) (hc : cal f [.fz (.ins 0 fs)] = .ok r [.no]) (nb : ∀ i, r ≠ .bo i) : evE cal (.meth 0 f n [] e .nil) m = .ok r m1 := by
  rw [evE, he]
  cases r with
  | bo i => exact absurd rfl (nb i)
  | fz t => simp [Res.bind, R.opd, der, hn, evDs, callR, pass, esc, hc, back, Res.calm]
  | ow o => simp [Res.bind, R.opd, der, hn, evDs, callR, pass, esc, hc, back, Res.calm]
theorem ev_meth1R {cal : Nat → List Slot → CRes} {m m1 m2 : List Slot} {f : Nat} {n : PySem.Str} {e a : E} {u t : T} {fs : List (PySem.Str × T)} (he : evE cal e m = .ok (.fz (.ins 0 fs)) m1) (hn : fs.lookup n = none) (ha : evE cal a m1 = .ok (.fz u) m2) (hc : cal f [.fz (.ins 0 fs), .fz u] = .ok (.fz t) [.no, .no]) : evE cal (.meth 0 f n [false] e (.cons a .nil)) m = .ok (.fz t) m2 := by
  rw [evE, he]
  simp [Res.bind, R.opd, der, hn, evDs, ha, callR, pass, esc, hc, back, Res.calm]
theorem ev_mkR {cal : Nat → List Slot → CRes} {c f : Nat} {pm : List Nat} {es : Es} {m m1 : List Slot} {ts : List T} {o : O} {outs : List Slot} (h : evDs cal es m = .ok (ts.map Opd.t) m1) (hc : cal f (.ow (.ins c []) :: (pmT pm ts).map .fz) = .ok (.fz .non) (.ow o :: outs)) : evE cal (.mk c f pm es) m = .ok (.ow o) m1 := by
  rw [evE, h]
  simp only [Res.bind, escs_t, hc]
/-- what Rounds(p, cs, od) is -/
noncomputable def rN (p : Int) (cs od : List Int) : O := .ins 0 (rndF (lp p cs).1 (lp p cs).2 od)
theorem sortS_id : ∀ {xs : List Int}, xs.Pairwise (· < ·) → sortS xs = xs
  | [], _ => rfl
  | a :: r, h => by
    have h' := List.pairwise_cons.mp h
    rw [sortS, sortS_id h'.2]
    cases r with
    | nil => rfl
    | cons b r => rw [insS, if_pos (by have := h'.1 b (by simp); omega)]
section
variable {Γ : Nat → Option Def} {L k : Nat} (hΓ : ∀ f d, pg f = some d → Γ f = some d)
include hΓ
theorem ev_roundsR {pm : List Nat} {es : Es} {m m1 : List Slot} {ts : List T} {tc to : T} {p : Int} {cs od : List Int} (h : evDs (callF Γ L (k + 3)) es m = .ok (ts.map Opd.t) m1) (hp : pmT pm ts = [.int p, tc, to]) (ok : RndOk p cs od) (hc : Sq tc cs) (ho : Sq to od) : evE (callF Γ L (k + 3)) (.mk 0 4 pm es) m = .ok (.ow (rN p cs od)) m1 :=
  ev_mkR h (by rw [hp]; exact init_ok hΓ (L := L) (k := k) ok (.inl ⟨tc, rfl, hc⟩) (.inl ⟨to, rfl, ho⟩))
theorem has_ok {p x : Int} {cs od : List Int} (hp : 0 < p) : callF Γ L (k + 1) 100 [.fz (rnd p cs od), .fz (.int x)] = .ok (.fz (.bl (hasI p cs od x))) [.no, .no] := by
  let M := [Slot.fz (rnd p cs od), .fz (.int x)]
  have hb : evSs (callF Γ L k) L d100.body ([.fz (rnd p cs od), .fz (.int x)] ++ List.replicate (d100.ns - d100.np) .no) = .rt (.fz (.bl (hasI p cs od x))) M := by
    show evSs _ L (.cons t100_0 .nil) M = _
    unfold t100_0
    refine seq_rt (st_ret_fz (ev_op2 (ev_op2 (ev_op2 (ev_var (t := .int x) rfl) (ev_fld (fs := rndF p cs od) rfl lk_p) (modI hp)) (ev_fld (fs := rndF p cs od) rfl lk_c) (in_tI id _ _)) (ev_op2 (ev_var (t := .int x) rfl) (ev_fld (fs := rndF p cs od) rfl lk_o) (in_dI id _ _)) ?_))
    show fB (not (decide (x % p ∈ cs) == decide (x ∈ od))) = _
    rfl
  rw [run_fz (d := d100) (args := [.fz (rnd p cs od), .fz (.int x)]) (hΓ 100 _ rfl) rfl hb]
  rfl
theorem in_ok {p x : Int} {cs od : List Int} (hp : 0 < p) (hx : 0 ≤ x) : callF Γ L (k + 2) 99 [.fz (rnd p cs od), .fz (.int x)] = .ok (.fz (.bl (hasI p cs od x))) [.no, .no] := by
  let M := [Slot.fz (rnd p cs od), .fz (.int x)]
  have hb : evSs (callF Γ L (k + 1)) L d99.body ([.fz (rnd p cs od), .fz (.int x)] ++ List.replicate (d99.ns - d99.np) .no) = .rt (.fz (.bl (hasI p cs od x))) M := by
    show evSs _ L (.cons t99_0 .nil) M = _
    unfold t99_0
    have e1 : evE (callF Γ L (k + 1)) (.call 22 [false] (.cons (.var 1) .nil)) M = .ok (.fz (.bl true)) M := ev_call1 (ev_var (t := .int x) rfl) rfl (whole_ok hΓ (L := L) (k := k) x)
    have e2 : evE (callF Γ L (k + 1)) (.op .ge (.cons (.var 1) (.cons (.c (.int 0)) .nil))) M = .ok (.fz (.bl true)) M := ev_op2 (ev_var (t := .int x) rfl) ev_c (by show fB (decide (0 ≤ x)) = _; rw [decide_eq_true hx]; rfl)
    have e3 : evE (callF Γ L (k + 1)) (.meth 0 100 "has" [false] (.var 0) (.cons (.var 1) .nil)) M = .ok (.fz (.bl (hasI p cs od x))) M := ev_meth1R (fs := rndF p cs od) (ev_var rfl) rfl (ev_var (t := .int x) rfl) (has_ok hΓ (L := L) (k := k) hp)
    exact seq_rt (st_ret_fz ((ev_an1 e1).trans ((ev_an1 e2).trans e3)))
  rw [run_fz (d := d99) (args := [.fz (rnd p cs od), .fz (.int x)]) (hΓ 99 _ rfl) rfl hb]
  rfl
theorem lawrounds_ok {p : Int} {cs od : List Int} (ok : RndOk p cs od) : callF Γ L (k + 4) 24 [.fz (spec p cs od)] = .ok (.ow (rN p cs od)) [.no] := by
  let M := [Slot.fz (spec p cs od)]
  have hb : evSs (callF Γ L (k + 3)) L d24.body ([.fz (spec p cs od)] ++ List.replicate (d24.ns - d24.np) .no) = .rt (.ow (rN p cs od)) M := by
    show evSs _ L (.cons t24_0 .nil) M = _
    unfold t24_0
    refine seq_rt ?_
    rw [evS, ev_roundsR hΓ (L := L) (k := k) (ts := [.int p, .lst (tI cs), .lst (tI od)]) (ds_cons (ev_ix (t := spec p cs od) rfl sp0) rfl (ds_cons (ev_ix (t := spec p cs od) rfl sp1) rfl (ds_cons (ts := []) (ev_ix (t := spec p cs od) rfl sp2) rfl ds_nil))) rfl ok (.inl rfl) (.inl rfl)]
    rfl
  rw [run_ow (d := d24) (args := [.fz (spec p cs od)]) (hΓ 24 _ rfl) rfl hb]
  rfl
theorem rof_ok {p : Int} {cs od : List Int} (ok : RndOk p cs od) : callF Γ L (k + 4) 47 [.fz (.int p), .fz (.lst (tI cs)), .fz (.lst (tI od))] = .ok (.ow (rN p cs od)) [.no, .no, .no] := by
  let M := [Slot.fz (.int p), .fz (.lst (tI cs)), .fz (.lst (tI od))]
  have hb : evSs (callF Γ L (k + 3)) L d47.body ([.fz (.int p), .fz (.lst (tI cs)), .fz (.lst (tI od))] ++ List.replicate (d47.ns - d47.np) .no) = .rt (.ow (rN p cs od)) M := by
    show evSs _ L (.cons t47_0 .nil) M = _
    unfold t47_0
    have es : evE (callF Γ L (k + 3)) (.op .srt (.cons (.var 2) .nil)) M = .ok (.ow (.lst (tI od))) M := ev_op1 (ev_var (t := .lst (tI od)) rfl) (by
      show (intsT (tI od)).bind _ = _
      rw [ints_tI]
      show some (R.ow (.lst (tI (sortS od)))) = _
      rw [sortS_id ok.oa])
    refine seq_rt ?_
    rw [evS, ev_roundsR hΓ (L := L) (k := k) (ts := [.int p, .lst (tI cs), .lst (tI od)]) (ds_cons (ev_var rfl) rfl (ds_cons (ev_var rfl) rfl (ds_cons (ts := []) es rfl ds_nil))) rfl ok (.inl rfl) (.inl rfl)]
    rfl
  rw [run_ow (d := d47) (args := [.fz (.int p), .fz (.lst (tI cs)), .fz (.lst (tI od))]) (hΓ 47 _ rfl) rfl hb]
  rfl
end
end RndP
set_option maxHeartbeats 2000000
namespace RndP
open PySem PySem.Spec PyProof.Rows L2 Mi MiDR RndM

noncomputable def kT (k : Bool → Bool → Bool) : T := .tup [.bl (k false false), .bl (k false true), .bl (k true false), .bl (k true true)]
noncomputable def b2i (b : Bool) : Int := if b then 1 else 0
theorem idx_kT (k : Bool → Bool → Bool) (u v : Bool) : idxF (kT k) (.int (2 * b2i u + b2i v)) = some (.fz (.bl (k u v))) := by cases u <;> cases v <;> rfl
theorem int_bl (b : Bool) : intF (.bl b) = fI (b2i b) := by cases b <;> rfl
theorem mul_b2i (b : Bool) : mulF (.int 2) (.int (b2i b)) = fI (2 * b2i b) := by cases b <;> exact mulI (by decide) (by decide)
theorem ev_keep {cal : Nat → List Slot → CRes} {a b : E} {m : List Slot} {k : Bool → Bool → Bool} {u v : Bool} (h2 : m[2]? = some (.fz (kT k))) (ea : evE cal a m = .ok (.fz (.bl u)) m) (eb : evE cal b m = .ok (.fz (.bl v)) m) :
    evE cal (.op .idx (.cons (.var 2) (.cons (.op .add (.cons (.op .mul (.cons (.c (.int 2)) (.cons (.op .int (.cons a .nil)) .nil))) (.cons (.op .int (.cons b .nil)) .nil))) .nil))) m = .ok (.fz (.bl (k u v))) m :=
  ev_op2 (ev_var h2) (ev_op2 (ev_op2 ev_c (ev_op1 ea (int_bl u)) (mul_b2i u)) (ev_op1 eb (int_bl v)) rfl) (idx_kT k u v)
/-- what two round sets make -/
theorem comb_ok {k : Bool → Bool → Bool} {p q : Int} {cs od ds ed : List Int} (a : RndOk p cs od) (b : RndOk q ds ed) (h : lcmI p q ≤ 5040) (hl : od.length + ed.length < 64) : RndOk (lcmI p q) (cCs k p cs q ds) (cOd k p cs od q ds ed) := by
  have hz : sizeLine = 16777216 := rfl
  have hp : 0 < p := by have := a.p1; omega
  have hq : 0 < q := by have := b.p1; omega
  have h0 := lcm_pos hp hq
  have l1 : (cCs k p cs q ds).length ≤ 5040 := by
    have := List.length_filter_le (fun x => k (decide (x % p ∈ cs)) (decide (x % q ∈ ds))) (rngI 0 (lcmI p q))
    rw [len_rngI] at this
    unfold cCs
    omega
  have l2 : (cOd k p cs od q ds ed).length < 64 := by
    have := List.length_filter_le (fun x => k (hasI p cs od x) (hasI q ds ed x) != decide (x % lcmI p q ∈ cCs k p cs q ds)) (uniqS (od ++ ed))
    have u := uniqS_len (od ++ ed)
    rw [List.length_append] at u
    unfold cOd
    omega
  refine ⟨by omega, h, asc_filter (asc_rngI _ _), fun x hx => mem_rngI.mp (List.mem_filter.mp hx).1, by omega, asc_filter (uniqS_asc _), fun x hx => ?_, by omega⟩
  have := (uniqS_mem x _).mp (List.mem_filter.mp hx).1
  rcases List.mem_append.mp this with z | z
  · exact a.ob x z
  · exact b.ob x z
section
variable {Γ : Nat → Option Def} {L k : Nat} (hΓ : ∀ f d, pg f = some d → Γ f = some d)
include hΓ
theorem combined_ok {kk : Bool → Bool → Bool} {p q : Int} {cs od ds ed : List Int} (a : RndOk p cs od) (b : RndOk q ds ed) (h : lcmI p q ≤ 5040) (hl : od.length + ed.length < 64) :
    callF Γ L (k + 5) 46 [.fz (rnd p cs od), .fz (rnd q ds ed), .fz (kT kk)] = .ok (.ow (rN (lcmI p q) (cCs kk p cs q ds) (cOd kk p cs od q ds ed))) [.no, .no, .no] := by
  have hz : sizeLine = 16777216 := rfl
  have hp : 0 < p := by have := a.p1; omega
  have hq : 0 < q := by have := b.p1; omega
  have hp5 := a.p2
  have hq5 := b.p2
  have h0 := lcm_pos hp hq
  have cok := comb_ok (k := kk) a b h hl
  let cal := callF Γ L (k + 4)
  let P := lcmI p q
  let CS := cCs kk p cs q ds
  let OD := cOd kk p cs od q ds ed
  let M := fun (s3 s4 s6 s7 s8 s9 s10 : Slot) => [Slot.fz (rnd p cs od), .fz (rnd q ds ed), .fz (kT kk), s3, s4, .no, s6, s7, s8, s9, s10]
  have c9a : cal 9 [.fz (rnd p cs od)] = .ok (.fz (.int p)) [.no] := period_ok hΓ (L := L) (k := k + 3)
  have c9b : cal 9 [.fz (rnd q ds ed)] = .ok (.fz (.int q)) [.no] := period_ok hΓ (L := L) (k := k + 3)
  have c6a : cal 6 [.fz (rnd p cs od)] = .ok (.ow (.lst (tI cs))) [.no] := classes_ok hΓ (L := L) (k := k + 3)
  have c6b : cal 6 [.fz (rnd q ds ed)] = .ok (.ow (.lst (tI ds))) [.no] := classes_ok hΓ (L := L) (k := k + 3)
  have c7a : cal 7 [.fz (rnd p cs od)] = .ok (.ow (.lst (tI od))) [.no] := odd_ok hΓ (L := L) (k := k + 3)
  have c7b : cal 7 [.fz (rnd q ds ed)] = .ok (.ow (.lst (tI ed))) [.no] := odd_ok hΓ (L := L) (k := k + 3)
  have pa : ∀ m : List Slot, m[0]? = some (.fz (rnd p cs od)) → evE cal (.prop 0 9 (.var 0)) m = .ok (.fz (.int p)) m := fun m hm => ev_propR (fs := rndF p cs od) (ev_var hm) c9a
  have pb : ∀ m : List Slot, m[1]? = some (.fz (rnd q ds ed)) → evE cal (.prop 0 9 (.var 1)) m = .ok (.fz (.int q)) m := fun m hm => ev_propR (fs := rndF q ds ed) (ev_var hm) c9b
  have x0 : evS cal L t46_0 (M .no .no .no .no .no .no .no) = .nx (M (.fz (.int P)) .no .no .no .no .no .no) := by
    unfold t46_0
    refine (st_set_fz (ev_op2 (pa _ rfl) (pb _ rfl) (r := .fz (.int P)) ?_) (show 3 < 11 by decide)).trans rfl
    show (if _ then _ else _) = _
    rw [if_pos ⟨hp, by omega, hq, by omega⟩]
    rfl
  have x1 : evS cal L t46_1 (M (.fz (.int P)) .no .no .no .no .no .no) = .nx (M (.fz (.int P)) .no .no .no .no .no .no) := by
    unfold t46_1
    rw [st_if0 (ev_op2 (ev_var (t := .int P) rfl) ev_c (r := .fz (.bl false)) (by show fB (decide ((5040 : Int) < P)) = _; rw [decide_eq_false (show ¬ (5040 : Int) < P by omega)]; rfl)), evSs]
  have x2 : evS cal L t46_2 (M (.fz (.int P)) .no .no .no .no .no .no) = .nx (M (.fz (.int P)) (.ow (.dic (dI cs))) .no .no .no .no .no) := by
    unfold t46_2
    refine (st_set_ow (ev_dcI2 (xs := cs) (m := M (.fz (.int P)) .no .no .no .no .no .no) (src_it (ev_meth0R (fs := rndF p cs od) (ev_var rfl) rfl c6a (fun _ z => nomatch z)) rfl rfl) rfl rfl (fun x hx => ⟨(M (.fz (.int P)) .no .no .no .no .no .no).set 5 (.fz (.int x)), rfl, rfl, by rw [evAll], ev_var rfl, ev_c⟩) (nodup_asc a.ca) a.cl) (show 4 < 11 by decide)).trans rfl
  have x3 : evS cal L t46_3 (M (.fz (.int P)) (.ow (.dic (dI cs))) .no .no .no .no .no) = .nx (M (.fz (.int P)) (.ow (.dic (dI cs))) (.ow (.dic (dI ds))) .no .no .no .no) := by
    unfold t46_3
    refine (st_set_ow (ev_dcI2 (xs := ds) (m := M (.fz (.int P)) (.ow (.dic (dI cs))) .no .no .no .no .no) (src_it (ev_meth0R (fs := rndF q ds ed) (ev_var rfl) rfl c6b (fun _ z => nomatch z)) rfl rfl) rfl rfl (fun x hx => ⟨(M (.fz (.int P)) (.ow (.dic (dI cs))) .no .no .no .no .no).set 5 (.fz (.int x)), rfl, rfl, by rw [evAll], ev_var rfl, ev_c⟩) (nodup_asc b.ca) b.cl) (show 6 < 11 by decide)).trans rfl
  let N := fun (s7 s8 s9 s10 : Slot) => M (.fz (.int P)) (.ow (.dic (dI cs))) (.ow (.dic (dI ds))) s7 s8 s9 s10
  have x4 : evS cal L t46_4 (N .no .no .no .no) = .nx (N (.ow (.lst (tI CS))) .no .no .no) := by
    unfold t46_4
    refine (st_set_ow (ev_compI2 (m := N .no .no .no .no) (xs := rngI 0 P) (fun x => kk (decide (x % p ∈ cs)) (decide (x % q ∈ ds))) T.int (by rw [← rangeT_eq]; exact src_rng1 (ev_var rfl) (wideI_ok (by omega) (by omega))) rfl rfl (fun x hx => ?_) (by rw [len_rngI]; omega)) (show 7 < 11 by decide)).trans rfl
    let m1 := (N .no .no .no .no).set 5 (.fz (.int x))
    refine ⟨m1, rfl, rfl, ?_, fun _ => ⟨.fz (.int x), ev_var rfl, rfl⟩⟩
    have e1 := ev_keep (cal := cal) (m := m1) (k := kk) rfl (ev_inD (i := 4) (xs := cs) (ev_op2 (f := .mod) (ev_var (t := .int x) (i := 5) rfl) (pa m1 rfl) (modI hp)) rfl) (ev_inD (i := 6) (xs := ds) (ev_op2 (f := .mod) (ev_var (t := .int x) (i := 5) rfl) (pb m1 rfl) (modI hq)) rfl)
    rw [evAll, e1]
    cases kk (decide (x % p ∈ cs)) (decide (x % q ∈ ds)) <;> simp [Res.bind, evAll]
  have lCS : CS.length ≤ sizeLine := cok.cl
  have x5 : evS cal L t46_5 (N (.ow (.lst (tI CS))) .no .no .no) = .nx (N (.fz (.lst (tI CS))) (.ow (.dic (dI CS))) .no .no) := by
    unfold t46_5
    refine (st_set_ow (ev_dcI2 (xs := CS) (m := N (.fz (.lst (tI CS))) .no .no .no) ?_ rfl rfl (fun x hx => ⟨(N (.fz (.lst (tI CS))) .no .no .no).set 5 (.fz (.int x)), rfl, rfl, by rw [evAll], ev_var rfl, ev_c⟩) (nodup_asc cok.ca) lCS) (show 8 < 11 by decide)).trans rfl
    exact src_it (m1 := N (.ow (.lst (tI CS))) .no .no .no) (r := .bo 7) (by rw [evE]; rfl) rfl rfl
  let U := uniqS (od ++ ed)
  have x6 : evS cal L t46_6 (N (.fz (.lst (tI CS))) (.ow (.dic (dI CS))) .no .no) = .nx (N (.fz (.lst (tI CS))) (.ow (.dic (dI CS))) (.ow (.lst (tI U))) .no) := by
    unfold t46_6
    refine (st_set_ow (m1 := N (.fz (.lst (tI CS))) (.ow (.dic (dI CS))) .no .no) (o := .lst (tI U)) ?_ (show 9 < 11 by decide)).trans rfl
    have m1 : evE cal (.meth 0 7 "odd" [] (.var 0) .nil) (N (.fz (.lst (tI CS))) (.ow (.dic (dI CS))) .no .no) = .ok (.ow (.lst (tI od))) (N (.fz (.lst (tI CS))) (.ow (.dic (dI CS))) .no .no) := ev_meth0R (fs := rndF p cs od) (ev_var rfl) rfl c7a (fun _ z => nomatch z)
    have m2 : evE cal (.meth 0 7 "odd" [] (.var 1) .nil) (N (.fz (.lst (tI CS))) (.ow (.dic (dI CS))) .no .no) = .ok (.ow (.lst (tI ed))) (N (.fz (.lst (tI CS))) (.ow (.dic (dI CS))) .no .no) := ev_meth0R (fs := rndF q ds ed) (ev_var rfl) rfl c7b (fun _ z => nomatch z)
    have e1 : evE cal (.op .add (.cons (.meth 0 7 "odd" [] (.var 0) .nil) (.cons (.meth 0 7 "odd" [] (.var 1) .nil) .nil))) (N (.fz (.lst (tI CS))) (.ow (.dic (dI CS))) .no .no) = .ok (.ow (.lst (tI (od ++ ed)))) (N (.fz (.lst (tI CS))) (.ow (.dic (dI CS))) .no .no) := by
      rw [evE, evDs, m1]
      simp only [Res.bind]
      rw [evDs, m2]
      simp only [Res.bind, evDs, R.opd, O.frz, opR, ders, der, opF, op2, Option.bind_some, addF]
      rw [if_pos (by simp only [tI, List.length_map]; omega)]
      simp [tI]
    rw [evE, evDs, e1]
    simp only [Res.bind, evDs, R.opd, O.frz, opR, ders, der, opF, op1, Option.bind_some]
    have : uniqF (.lst (tI (od ++ ed))) = some (.ow (.lst (tI U))) := by
      show (intsT (tI (od ++ ed))).bind _ = _
      rw [ints_tI]
      exact if_pos (by rw [List.length_append]; omega)
    rw [this]
  have lU : U.length ≤ sizeLine := by have := uniqS_len (od ++ ed); rw [List.length_append] at this; show (uniqS (od ++ ed)).length ≤ _; omega
  have x7 : evS cal L t46_7 (N (.fz (.lst (tI CS))) (.ow (.dic (dI CS))) (.ow (.lst (tI U))) .no) = .nx (N (.fz (.lst (tI CS))) (.ow (.dic (dI CS))) (.fz (.lst (tI U))) (.ow (.lst (tI OD)))) := by
    unfold t46_7
    let K := N (.fz (.lst (tI CS))) (.ow (.dic (dI CS))) (.fz (.lst (tI U))) .no
    refine (st_set_ow (ev_compI2 (m := K) (xs := U) (fun x => kk (hasI p cs od x) (hasI q ds ed x) != decide (x % P ∈ CS)) T.int ?_ rfl rfl (fun x hx => ?_) lU) (show 10 < 11 by decide)).trans rfl
    · exact src_it (m1 := N (.fz (.lst (tI CS))) (.ow (.dic (dI CS))) (.ow (.lst (tI U))) .no) (r := .bo 9) (by rw [evE]; rfl) rfl rfl
    · let m1 := K.set 5 (.fz (.int x))
      refine ⟨m1, rfl, rfl, ?_, fun _ => ⟨.fz (.int x), ev_var rfl, rfl⟩⟩
      have ha : evE cal (.meth 0 100 "has" [false] (.var 0) (.cons (.var 5) .nil)) m1 = .ok (.fz (.bl (hasI p cs od x))) m1 := ev_meth1R (fs := rndF p cs od) (ev_var rfl) rfl (ev_var (t := .int x) rfl) (has_ok hΓ (L := L) (k := k + 3) hp)
      have hb : evE cal (.meth 0 100 "has" [false] (.var 1) (.cons (.var 5) .nil)) m1 = .ok (.fz (.bl (hasI q ds ed x))) m1 := ev_meth1R (fs := rndF q ds ed) (ev_var rfl) rfl (ev_var (t := .int x) rfl) (has_ok hΓ (L := L) (k := k + 3) hq)
      have e1 := ev_keep (cal := cal) (m := m1) (k := kk) rfl ha hb
      have e2 := ev_inD (cal := cal) (i := 8) (xs := CS) (ev_op2 (f := .mod) (ev_var (t := .int x) (i := 5) (m := m1) rfl) (ev_var (t := .int P) (i := 3) rfl) (modI h0)) rfl
      have e3 := ev_op2 (f := .ne) e1 e2 (r := .fz (.bl (kk (hasI p cs od x) (hasI q ds ed x) != decide (x % P ∈ CS)))) rfl
      rw [evAll, e3]
      cases (kk (hasI p cs od x) (hasI q ds ed x) != decide (x % P ∈ CS)) <;> simp [Res.bind, evAll]
  have x8 : evS cal L t46_8 (N (.fz (.lst (tI CS))) (.ow (.dic (dI CS))) (.fz (.lst (tI U))) (.ow (.lst (tI OD)))) = .rt (.ow (rN P CS OD)) (N (.fz (.lst (tI CS))) (.ow (.dic (dI CS))) (.fz (.lst (tI U))) (.fz (.lst (tI OD)))) := by
    unfold t46_8
    have c47 : cal 47 [.fz (.int P), .fz (.lst (tI CS)), .fz (.lst (tI OD))] = .ok (.ow (rN P CS OD)) [.no, .no, .no] := rof_ok hΓ (L := L) (k := k) cok
    rw [evS]
    have : evE cal (.call 47 [false, false, false] (.cons (.var 3) (.cons (.var 7) (.cons (.var 10) .nil)))) (N (.fz (.lst (tI CS))) (.ow (.dic (dI CS))) (.fz (.lst (tI U))) (.ow (.lst (tI OD)))) = .ok (.ow (rN P CS OD)) (N (.fz (.lst (tI CS))) (.ow (.dic (dI CS))) (.fz (.lst (tI U))) (.fz (.lst (tI OD)))) := by
      simp [evE, evDs, N, M, Res.bind, R.opd, callR, pass, esc, O.frz, c47, back]
    rw [this]
    rfl
  have hb : evSs cal L d46.body ([.fz (rnd p cs od), .fz (rnd q ds ed), .fz (kT kk)] ++ List.replicate (d46.ns - d46.np) .no) = .rt (.ow (rN P CS OD)) (N (.fz (.lst (tI CS))) (.ow (.dic (dI CS))) (.fz (.lst (tI U))) (.fz (.lst (tI OD)))) := by
    show evSs _ L (.cons t46_0 (.cons t46_1 (.cons t46_2 (.cons t46_3 (.cons t46_4 (.cons t46_5 (.cons t46_6 (.cons t46_7 (.cons t46_8 .nil))))))))) (M .no .no .no .no .no .no .no) = _
    rw [seq_nx x0, seq_nx x1, seq_nx x2, seq_nx x3, seq_nx x4, seq_nx x5, seq_nx x6, seq_nx x7]
    exact seq_rt x8
  rw [run_ow (d := d46) (args := [.fz (rnd p cs od), .fz (rnd q ds ed), .fz (kT kk)]) (hΓ 46 _ rfl) rfl hb]
  rfl
end
end RndP
set_option maxHeartbeats 2000000
namespace RndP
open PySem PySem.Spec PyProof.Rows L2 Mi MiDR RndM

/-! ### round sets as values -/
structure RS where
  p : Int
  cs : List Int
  od : List Int
noncomputable def RS.o (r : RS) : O := .ins 0 (rndF r.p r.cs r.od)
noncomputable def RS.t (r : RS) : T := rnd r.p r.cs r.od
noncomputable def RS.has (r : RS) (x : Int) : Bool := hasI r.p r.cs r.od x
noncomputable def RS.bool (r : RS) : Bool := decide (r.cs ≠ []) || decide (r.od ≠ [])
/-- of period dividing N, odd rounds in U -/
structure RS.In (N : Int) (U : List Int) (r : RS) : Prop where
  can : Can r.p r.cs r.od
  dv : r.p ∣ N
  sub : ∀ x ∈ r.od, x ∈ U
/-- the bounds -/
structure Bd (N : Int) (U : List Int) : Prop where
  n0 : 0 < N
  n1 : N ≤ 5040
  ua : U.Pairwise (· < ·)
  ul : U.length ≤ 8
noncomputable def mkR (p : Int) (cs od : List Int) : RS := ⟨(lp p cs).1, (lp p cs).2, od⟩
noncomputable def cmbR (k : Bool → Bool → Bool) (a b : RS) : RS := mkR (lcmI a.p b.p) (cCs k a.p a.cs b.p b.cs) (cOd k a.p a.cs a.od b.p b.cs b.od)
theorem lp_dvd {p : Int} {cs od : List Int} (ok : RndOk p cs od) : (lp p cs).1 ∣ p := by
  obtain ⟨d, f, e, d0, d1⟩ := lp_find (by have := ok.p1; omega) ok.ca ok.cb
  obtain ⟨_, q1, _⟩ := find_min _ _ (asc_rngI 1 (p + 1)) f
  rw [e]
  exact Int.dvd_of_emod_eq_zero ((per_F (by have := ok.p1; omega) d0).mp q1).1
section
variable {N : Int} {U : List Int} {a b : RS}
theorem RS.In.pos (h : a.In N U) : 0 < a.p := by have := h.can.ok.p1; omega
theorem RS.In.len (B : Bd N U) (h : a.In N U) : a.od.length ≤ 8 := Nat.le_trans (asc_sub U a.od h.can.ok.oa B.ua h.sub).length_le B.ul
theorem lcm_le (B : Bd N U) (ha : a.In N U) (hb : b.In N U) : lcmI a.p b.p ≤ 5040 := by
  have := Int.le_of_dvd B.n0 (lcm_dvd ha.pos hb.pos ha.dv hb.dv)
  have := B.n1
  omega
theorem comb_in (B : Bd N U) (ha : a.In N U) (hb : b.In N U) (k : Bool → Bool → Bool) : RndOk (lcmI a.p b.p) (cCs k a.p a.cs b.p b.cs) (cOd k a.p a.cs a.od b.p b.cs b.od) :=
  comb_ok ha.can.ok hb.can.ok (lcm_le B ha hb) (by have := ha.len B; have := hb.len B; omega)
theorem cmbR_in (B : Bd N U) (ha : a.In N U) (hb : b.In N U) (k : Bool → Bool → Bool) : (cmbR k a b).In N U := by
  have ok := comb_in B ha hb k
  refine ⟨lp_can ok, Int.dvd_trans (lp_dvd ok) (lcm_dvd ha.pos hb.pos ha.dv hb.dv), fun x hx => ?_⟩
  have := (uniqS_mem x _).mp (List.mem_filter.mp hx).1
  rcases List.mem_append.mp this with z | z
  · exact ha.sub x z
  · exact hb.sub x z
theorem cmbR_has (B : Bd N U) (ha : a.In N U) (hb : b.In N U) (k : Bool → Bool → Bool) (x : Int) : (cmbR k a b).has x = k (a.has x) (b.has x) :=
  (has_lp (comb_in B ha hb k) x).trans (has_comb ha.pos hb.pos x)
theorem RS.ext' {a b : RS} {N N' : Int} {U U' : List Int} (ha : a.In N U) (hb : b.In N' U') (h : ∀ x, 0 ≤ x → a.has x = b.has x) : a = b := by
  obtain ⟨h1, h2, h3⟩ := can_ext ha.can hb.can h
  cases a; cases b
  simp only at h1 h2 h3
  rw [h1, h2, h3]
/-- the complement -/
noncomputable def invR (a : RS) : RS := mkR a.p ((rngI 0 a.p).filter fun x => decide (x ∉ a.cs)) a.od
theorem inv_ok (B : Bd N U) (ha : a.In N U) : RndOk a.p ((rngI 0 a.p).filter fun x => decide (x ∉ a.cs)) a.od := by
  have hz : sizeLine = 16777216 := rfl
  have h := ha.can.ok
  have h1 := h.p1
  have h2 := h.p2
  refine ⟨h1, h2, asc_filter (asc_rngI _ _), fun x hx => mem_rngI.mp (List.mem_filter.mp hx).1, ?_, h.oa, h.ob, h.ol⟩
  have := List.length_filter_le (fun x => decide (x ∉ a.cs)) (rngI 0 a.p)
  rw [len_rngI] at this
  omega
theorem invR_in (B : Bd N U) (ha : a.In N U) : (invR a).In N U := ⟨lp_can (inv_ok B ha), Int.dvd_trans (lp_dvd (inv_ok B ha)) ha.dv, ha.sub⟩
theorem invR_has (B : Bd N U) (ha : a.In N U) (x : Int) : (invR a).has x = !a.has x := by
  refine (has_lp (inv_ok B ha) x).trans ?_
  unfold RS.has hasI
  have e : decide (x % a.p ∈ (rngI 0 a.p).filter fun x => decide (x ∉ a.cs)) = !decide (x % a.p ∈ a.cs) := by
    have : (x % a.p ∈ (rngI 0 a.p).filter fun x => decide (x ∉ a.cs)) ↔ ¬ (x % a.p ∈ a.cs) := by
      rw [List.mem_filter, mem_rngI, decide_eq_true_eq]
      exact ⟨fun h => h.2, fun h => ⟨⟨Int.emod_nonneg x (by have := ha.pos; omega), Int.emod_lt_of_pos x ha.pos⟩, h⟩⟩
    rw [decide_eq_decide.mpr this, decide_not]
  rw [e]
  cases decide (x % a.p ∈ a.cs) <;> cases decide (x ∈ a.od) <;> rfl
/-- an empty set has no rounds -/
theorem bool_has (h : a.In N U) : a.bool = false ↔ ∀ x, 0 ≤ x → a.has x = false := by
  have hp := h.pos
  unfold RS.bool
  constructor
  · intro hb x _
    rw [Bool.or_eq_false_iff, decide_eq_false_iff_not, decide_eq_false_iff_not] at hb
    have h1 : a.cs = [] := Decidable.of_not_not hb.1
    have h2 : a.od = [] := Decidable.of_not_not hb.2
    unfold RS.has hasI
    rw [h1, h2]
    rfl
  · intro hx
    have ok0 : RndOk 1 [] [] := ⟨by omega, by omega, .nil, by simp, by simp, .nil, by simp, by simp⟩
    have c0 : Can 1 [] [] := ⟨ok0, by decide +kernel⟩
    obtain ⟨_, h2, h3⟩ := can_ext h.can c0 fun x hx0 => by
      have := hx x hx0
      show a.has x = _
      rw [this]; rfl
    rw [h2, h3]; rfl
end
section
variable {Γ : Nat → Option Def} {L k : Nat} (hΓ : ∀ f d, pg f = some d → Γ f = some d)
include hΓ
variable {N : Int} {U : List Int} {a b : RS} (B : Bd N U) (ha : a.In N U) (hb : b.In N U)
include B ha hb
theorem bin_ok {f : Nat} {d : Def} {kk : Bool → Bool → Bool} (hf : pg f = some d) (hd : d = ⟨2, 2, [false, false], .cons (.ret (.call 46 [false, false, false] (.cons (.var 0) (.cons (.var 1) (.cons (.tup (.cons (.c (.bl (kk false false))) (.cons (.c (.bl (kk false true))) (.cons (.c (.bl (kk true false))) (.cons (.c (.bl (kk true true))) .nil))))) .nil))))) .nil⟩) :
    callF Γ L (k + 6) f [.fz a.t, .fz b.t] = .ok (.ow (cmbR kk a b).o) [.no, .no] := by
  let M := [Slot.fz a.t, .fz b.t]
  have c := combined_ok hΓ (L := L) (k := k) (kk := kk) ha.can.ok hb.can.ok (lcm_le B ha hb) (by have := ha.len B; have := hb.len B; omega)
  have hbd : evSs (callF Γ L (k + 5)) L d.body ([.fz a.t, .fz b.t] ++ List.replicate (d.ns - d.np) .no) = .rt (.ow (cmbR kk a b).o) M := by
    subst hd
    show evSs _ L (.cons (.ret _) .nil) M = _
    refine seq_rt ?_
    have et : evE (callF Γ L (k + 5)) (.tup (.cons (.c (.bl (kk false false))) (.cons (.c (.bl (kk false true))) (.cons (.c (.bl (kk true false))) (.cons (.c (.bl (kk true true))) .nil))))) M = .ok (.fz (kT kk)) M :=
      ev_tup (ts := [.bl (kk false false), .bl (kk false true), .bl (kk true false), .bl (kk true true)]) (ds_cons ev_c rfl (ds_cons ev_c rfl (ds_cons ev_c rfl (ds_cons (ts := []) ev_c rfl ds_nil)))) (show 4 ≤ sizeLine by decide)
    have e1 : evE (callF Γ L (k + 5)) (.call 46 [false, false, false] (.cons (.var 0) (.cons (.var 1) (.cons (.tup (.cons (.c (.bl (kk false false))) (.cons (.c (.bl (kk false true))) (.cons (.c (.bl (kk true false))) (.cons (.c (.bl (kk true true))) .nil))))) .nil)))) M = .ok (.ow (cmbR kk a b).o) M := by
      have c' : callF Γ L (k + 5) 46 [.fz a.t, .fz b.t, .fz (kT kk)] = .ok (.ow (cmbR kk a b).o) [.no, .no, .no] := c
      rw [evE, evDs, ev_var (t := a.t) rfl]
      simp only [Res.bind]
      rw [evDs, ev_var (t := b.t) rfl]
      simp only [Res.bind]
      rw [evDs, et]
      simp [Res.bind, evDs, R.opd, callR, pass, esc, c', back]
    rw [evS, e1]
    rfl
  rw [run_ow (d := d) (args := [.fz a.t, .fz b.t]) (hΓ f _ hf) (by subst hd; rfl) hbd]
  subst hd
  rfl
theorem and_ok : callF Γ L (k + 6) 40 [.fz a.t, .fz b.t] = .ok (.ow (cmbR (fun u v => u && v) a b).o) [.no, .no] := bin_ok hΓ B ha hb (d := d40) rfl rfl
theorem or_ok : callF Γ L (k + 6) 98 [.fz a.t, .fz b.t] = .ok (.ow (cmbR (fun u v => u || v) a b).o) [.no, .no] := bin_ok hΓ B ha hb (d := d98) rfl rfl
theorem sub_ok : callF Γ L (k + 6) 41 [.fz a.t, .fz b.t] = .ok (.ow (cmbR (fun u v => u && !v) a b).o) [.no, .no] := bin_ok hΓ B ha hb (d := d41) rfl rfl
omit hb in
theorem invert_ok : callF Γ L (k + 5) 43 [.fz a.t] = .ok (.ow (invR a).o) [.no] := by
  have hz : sizeLine = 16777216 := rfl
  have h1 := ha.can.ok.p1
  have h2 := ha.can.ok.p2
  let cal := callF Γ L (k + 4)
  let left := (rngI 0 a.p).filter fun x => decide (x ∉ a.cs)
  let M := fun s => [Slot.fz a.t, s, .no]
  have f0 : ∀ (m : List Slot) (f : PySem.Str) (t : T), m[0]? = some (.fz a.t) → (rndF a.p a.cs a.od).lookup f = some t → evE cal (.fld 0 (.var 0) f) m = .ok (.fz t) m := fun m f t hm hl => ev_fld (fs := rndF a.p a.cs a.od) hm hl
  have x0 : evS cal L t43_0 (M .no) = .nx (M (.ow (.lst (tI left)))) := by
    unfold t43_0
    refine (st_set_ow (ev_compI2 (m := M .no) (xs := rngI 0 a.p) (fun x => decide (x ∉ a.cs)) T.int (by rw [← rangeT_eq]; exact src_rng1 (f0 _ _ _ rfl lk_p) (wideI_ok (by omega) (by omega))) rfl rfl (fun x hx => ?_) (by rw [len_rngI]; omega)) (show 1 < 3 by decide)).trans rfl
    refine ⟨(M .no).set 2 (.fz (.int x)), rfl, rfl, ?_, fun _ => ⟨.fz (.int x), ev_var rfl, rfl⟩⟩
    have e1 : evE cal (.op .notin (.cons (.var 2) (.cons (.fld 0 (.var 0) "own_classes") .nil))) ((M .no).set 2 (.fz (.int x))) = .ok (.fz (.bl (decide (x ∉ a.cs)))) ((M .no).set 2 (.fz (.int x))) := ev_op2 (ev_var (t := .int x) rfl) (f0 _ _ _ rfl lk_c) ((in_tI not x a.cs).trans (by rw [decide_not]; rfl))
    rw [evAll, e1]
    by_cases h : x ∉ a.cs
    · rw [decide_eq_true h]; simp [Res.bind, evAll]
    · rw [decide_eq_false h]; rfl
  have c47 : cal 47 [.fz (.int a.p), .fz (.lst (tI left)), .fz (.lst (tI a.od))] = .ok (.ow (invR a).o) [.no, .no, .no] := rof_ok hΓ (L := L) (k := k) (inv_ok B ha)
  have x1 : evS cal L t43_1 (M (.ow (.lst (tI left)))) = .rt (.ow (invR a).o) (M (.fz (.lst (tI left)))) := by
    unfold t43_1
    have el : evE cal (.op .list (.cons (.fld 0 (.var 0) "own_odd") .nil)) (M (.ow (.lst (tI left)))) = .ok (.ow (.lst (tI a.od))) (M (.ow (.lst (tI left)))) := ev_op1 (f0 _ _ _ rfl lk_o) (by show some (R.ow (.lst ((dI a.od).map fun kv => unkey kv.1))) = _; rw [keys_dI])
    have ep : evE cal (.fld 0 (.var 0) "own_period") (M (.ow (.lst (tI left)))) = .ok (.fz (.int a.p)) (M (.ow (.lst (tI left)))) := f0 _ _ _ rfl lk_p
    have : evE cal (.call 47 [false, false, false] (.cons (.fld 0 (.var 0) "own_period") (.cons (.var 1) (.cons (.op .list (.cons (.fld 0 (.var 0) "own_odd") .nil)) .nil)))) (M (.ow (.lst (tI left)))) = .ok (.ow (invR a).o) (M (.fz (.lst (tI left)))) := by
      rw [evE, evDs, ep]
      simp only [Res.bind]
      rw [evDs, evE]
      simp only [M, List.getElem?_cons_succ, List.getElem?_cons_zero, Res.bind]
      rw [evDs, el]
      simp [Res.bind, evDs, M, R.opd, callR, pass, esc, O.frz, c47, back]
    rw [evS, this]
    rfl
  have hbd : evSs cal L d43.body ([.fz a.t] ++ List.replicate (d43.ns - d43.np) .no) = .rt (.ow (invR a).o) (M (.fz (.lst (tI left)))) := by
    show evSs _ L (.cons t43_0 (.cons t43_1 .nil)) (M .no) = _
    rw [seq_nx x0]
    exact seq_rt x1
  rw [run_ow (d := d43) (args := [.fz a.t]) (hΓ 43 _ rfl) rfl hbd]
  rfl
end
end RndP
set_option maxHeartbeats 2000000
namespace RndP
open PySem PySem.Spec PyProof.Rows L2 Mi MiDR RndM

/-! ### texts of small sets -/
theorem istr_len : ∀ n : Nat, n < 100 → (istr (n : Int)).length ≤ 4 := by decide +kernel
theorem istr_le {x : Int} (h0 : 0 ≤ x) (h1 : x < 100) : (istr x).length ≤ 4 := by
  obtain ⟨n, rfl⟩ := Int.eq_ofNat_of_zero_le h0
  exact istr_len n (by omega)
theorem small_le {x : Int} (h0 : 0 ≤ x) (h1 : x < 1000000) : Small x := by
  unfold Small
  by_cases z : x = 0
  · subst z; decide
  · have : x.natAbs.log2 ≤ 64 := Nat.le_of_lt ((Nat.log2_lt (by omega)).mpr (by omega))
    omega
theorem sum_le : ∀ ws : List PySem.Str, (∀ w ∈ ws, w.length ≤ 4) → (ws.map (·.length)).sum ≤ 4 * ws.length
  | [], _ => Nat.le_refl _
  | a :: r, h => by
    have h1 := h a (by simp)
    have h2 := sum_le r fun w hw => h w (by simp [hw])
    simp only [List.map_cons, List.sum_cons, List.length_cons]
    omega
theorem words_le {p : Int} {cs od : List Int} (p0 : 0 ≤ p) (p1 : p < 100) (hc : ∀ x ∈ cs, 0 ≤ x ∧ x < 100) (ho : ∀ x ∈ od, 0 ≤ x ∧ x < 100) : ∀ w ∈ rWords p cs od, w.length ≤ 4 := fun w hw => by
  unfold rWords at hw
  have e : ∀ xs : List Int, (∀ x ∈ xs, 0 ≤ x ∧ x < 100) → ∀ w ∈ xs.map istr, w.length ≤ 4 := fun xs h w hw => by
    obtain ⟨x, hx, rfl⟩ := List.mem_map.mp hw
    exact istr_le (h x hx).1 (h x hx).2
  rcases List.mem_append.mp hw with hw | hw
  · rcases List.mem_append.mp hw with hw | hw
    · split at hw
      · simp only [List.mem_cons, List.not_mem_nil, or_false] at hw
        subst hw; decide
      · exact e cs hc w hw
    · simp only [List.mem_cons, List.not_mem_nil, or_false] at hw
      rcases hw with rfl | rfl
      · decide
      · exact istr_le p0 p1
  · split at hw
    · simp at hw
    · rcases List.mem_cons.mp hw with rfl | hw
      · decide
      · exact e od ho w hw
theorem words_len {p : Int} {cs od : List Int} : (rWords p cs od).length ≤ cs.length + od.length + 4 := by
  unfold rWords
  rw [List.length_append, List.length_append]
  have h1 : (if cs = [] then ([("none" : PySem.Str)] : List PySem.Str) else cs.map istr).length ≤ cs.length + 1 := by split <;> simp
  have h2 : (if od = [] then ([] : List PySem.Str) else ("odd" : PySem.Str) :: od.map istr).length ≤ od.length + 1 := by split <;> simp
  simp only [List.length_cons, List.length_nil]
  omega
theorem txt_ok {p : Int} {cs od : List Int} (p0 : 0 ≤ p) (p1 : p < 100) (hc : ∀ x ∈ cs, 0 ≤ x ∧ x < 100) (ho : ∀ x ∈ od, 0 ≤ x ∧ x < 100) (lc : cs.length ≤ 1000) (lo : od.length ≤ 1000) : TxtOk p cs od ∧ (rText p cs od).length ≤ 16000000 := by
  have h1 := sum_le _ (words_le p0 p1 hc ho)
  have h2 := words_len (p := p) (cs := cs) (od := od)
  refine ⟨⟨?_, small_le p0 (by omega), fun x hx => small_le (hc x hx).1 (by have := (hc x hx).2; omega), fun x hx => small_le (ho x hx).1 (by have := (ho x hx).2; omega), by omega, by omega⟩, ?_⟩
  · unfold Mi.JoinOk
    omega
  · have := len_join (" " : PySem.Str) (rWords p cs od)
    have h3 : PySem.Str.length (" " : PySem.Str) = 1 := by decide
    rw [h3] at this
    show (Txt.join " " (rWords p cs od)).length ≤ _
    omega
theorem len_in {xs : List Int} {p : Int} (ha : xs.Pairwise (· < ·)) (hb : ∀ x ∈ xs, 0 ≤ x ∧ x < p) : xs.length ≤ p.toNat := by
  have := (asc_sub (rngI 0 p) xs ha (asc_rngI 0 p) fun x hx => mem_rngI.mpr (hb x hx)).length_le
  rw [len_rngI] at this
  simpa using this
end RndP
set_option maxHeartbeats 2000000
namespace RndP
open PySem PySem.Spec PyProof.Rows L2 Mi MiDR RndM

local macro_rules
  | `(tactic| infer_instance) => `(tactic| first
    | refine dp_nil ?_ | refine dp_cons ?_ | refine wp_var rfl ?_ | refine wp_bo rfl ?_ | refine wp_c ?_ | refine wp_op ?_ | refine wp_lst ?_ | refine wp_tup ?_
    | refine wp_call ?_ | refine wp_prop ?_ | refine wp_meth ?_ | refine wp_mk ?_ | refine wp_bop ?_ | refine wp_uop ?_ | refine wp_fld ?_ | refine wp_spc ?_ | refine wp_ceq ?_ | refine wp_inn ?_ | refine wp_nt ?_ | refine wp_fst ?_ | refine jp_cons ?_ | refine jp_nil ?_ | refine wp_isc ?_ | refine wp_dsc rfl rfl ?_ | refine wp_dic0 ?_ | refine wp_dgt ?_ | refine wp_ccm ?_ | refine wp_anP ?_ | refine wp_orP ?_
    | refine bp_nil ?_ | refine bp_cons ?_ | refine wp_set ?_ | refine wp_ret ?_ | refine wp_stf ?_ | refine wp_par ?_ | refine wp_ife ?_ | refine wp_ex ?_
    | refine wk_go rfl ?_ | refine wC.fz (by assumption) ?_ | refine wC.ow (by assumption) ?_ | refine wo_inI ?_ | refine wo_inD ?_ | refine wo_notinI ?_ | refine wo_mod (by omega) ?_ | refine wo_addS ?_ ?_ | exact ⟨rfl, rfl⟩ | refine ⟨rfl, ?_⟩ | refine wO.of rfl ?_ | refine ap_nil ?_ | exact ⟨rfl, rfl⟩
    | refine ⟨_, _, _, _, _, rfl, rfl, rfl, ?_⟩ | refine ⟨_, _, _, rfl, rfl, ?_⟩ | refine ⟨_, _, _, rfl, rfl, rfl, ?_⟩ | refine ⟨_, _, rfl, rfl, ?_⟩ | refine ⟨_, _, rfl, ?_⟩ | refine ⟨_, rfl, rfl, ?_⟩ | refine ⟨_, rfl, ?_⟩ | refine ⟨rfl, _, _, rfl, ?_⟩ | refine ⟨⟨_, rfl⟩, ?_⟩ | refine And.intro (fun _ z => nomatch z) ?_ | exact rfl)

/-! ### answers as values -/
structure AN where
  s : RS
  u : RS
noncomputable def AN.o (a : AN) : O := .ins 15 [("sure", a.s.t), ("unsure", a.u.t)]
noncomputable def AN.t (a : AN) : T := .ins 15 [("sure", a.s.t), ("unsure", a.u.t)]
structure AN.In (N : Int) (U : List Int) (a : AN) : Prop where
  s : a.s.In N U
  u : a.u.In N U
  d : ∀ x, 0 ≤ x → (a.s.has x && a.u.has x) = false
section
variable {Γ : Nat → Option Def} {L k : Nat} (hΓ : ∀ f d, pg f = some d → Γ f = some d)
include hΓ
variable {N : Int} {U : List Int} (B : Bd N U)
include B
theorem ainit_ok {a : AN} (h : a.In N U) : callF Γ L (k + 7) 33 [.ow (.ins 15 []), .fz a.s.t, .fz a.u.t] = .ok (.fz .non) [.ow a.o, .no, .no] := by
  have c40 : callF Γ L (k + 6) 40 [.fz a.s.t, .fz a.u.t] = _ := and_ok hΓ B h.s h.u
  have c12 : callF Γ L (k + 6) 12 [.fz (cmbR (fun u v => u && v) a.s a.u).t] = .ok (.fz (.bl (cmbR (fun u v => u && v) a.s a.u).bool)) [.no] := bool_ok hΓ (L := L) (k := k + 5) (p := (cmbR (fun u v => u && v) a.s a.u).p) (cs := (cmbR (fun u v => u && v) a.s a.u).cs) (od := (cmbR (fun u v => u && v) a.s a.u).od)
  have hb : (cmbR (fun u v => u && v) a.s a.u).bool = false := (bool_has (cmbR_in B h.s h.u _)).mpr fun x hx => by rw [cmbR_has B h.s h.u]; exact h.d x hx
  refine wC.eq_fz (wp_run (d := d33) (hΓ _ _ rfl) rfl ?_)
  generalize callF Γ L (k + 6) = cal at *
  unfold d33
  repeat infer_instance
  refine wif0 hb ?_
  repeat infer_instance
end
/-! the operators -/
noncomputable abbrev kAnd : Bool → Bool → Bool := fun u v => u && v
noncomputable abbrev kOr : Bool → Bool → Bool := fun u v => u || v
noncomputable abbrev kSub : Bool → Bool → Bool := fun u v => u && !v
noncomputable def andA (a b : AN) : AN := ⟨cmbR kAnd a.s b.s, cmbR kSub (cmbR kAnd (cmbR kOr a.s a.u) (cmbR kOr b.s b.u)) (cmbR kAnd a.s b.s)⟩
noncomputable def orA (a b : AN) : AN := ⟨cmbR kOr a.s b.s, cmbR kSub (cmbR kOr a.u b.u) (cmbR kOr a.s b.s)⟩
noncomputable def invA (a : AN) : AN := ⟨invR (cmbR kOr a.s a.u), a.u⟩
noncomputable def eqR (x y : RS) : Bool := decide (x.p = y.p) && (decide (x.cs = y.cs) && decide (x.od = y.od))
noncomputable def eqA (a b : AN) : Bool := eqR a.s b.s && eqR a.u b.u
theorem eqR_iff {x y : RS} : eqR x y = true ↔ x = y := by
  unfold eqR
  rw [Bool.and_eq_true, Bool.and_eq_true, decide_eq_true_eq, decide_eq_true_eq, decide_eq_true_eq]
  cases x; cases y
  simp
theorem eqA_iff {x y : AN} : eqA x y = true ↔ x = y := by
  unfold eqA
  rw [Bool.and_eq_true, eqR_iff, eqR_iff]
  cases x; cases y
  simp
section
variable {N : Int} {U : List Int} (B : Bd N U) {a b : AN} (ha : a.In N U) (hb : b.In N U)
include B ha
theorem inv_s (x : Int) : (invA a).s.has x = !(a.s.has x || a.u.has x) := by
  show (invR _).has x = _
  rw [invR_has B (cmbR_in B ha.s ha.u _), cmbR_has B ha.s ha.u]
theorem invA_in : (invA a).In N U := ⟨invR_in B (cmbR_in B ha.s ha.u _), ha.u, fun x _ => by
  rw [inv_s B ha]
  show (_ && a.u.has x) = false
  cases a.s.has x <;> cases a.u.has x <;> rfl⟩
include hb
theorem and_s (x : Int) : (andA a b).s.has x = (a.s.has x && b.s.has x) := cmbR_has B ha.s hb.s _ x
theorem and_u (x : Int) : (andA a b).u.has x = (((a.s.has x || a.u.has x) && (b.s.has x || b.u.has x)) && !(a.s.has x && b.s.has x)) := by
  show (cmbR _ _ _).has x = _
  rw [cmbR_has B (cmbR_in B (cmbR_in B ha.s ha.u _) (cmbR_in B hb.s hb.u _) _) (cmbR_in B ha.s hb.s _), cmbR_has B (cmbR_in B ha.s ha.u _) (cmbR_in B hb.s hb.u _), cmbR_has B ha.s ha.u, cmbR_has B hb.s hb.u, cmbR_has B ha.s hb.s]
theorem or_s (x : Int) : (orA a b).s.has x = (a.s.has x || b.s.has x) := cmbR_has B ha.s hb.s _ x
theorem or_u (x : Int) : (orA a b).u.has x = ((a.u.has x || b.u.has x) && !(a.s.has x || b.s.has x)) := by
  show (cmbR _ _ _).has x = _
  rw [cmbR_has B (cmbR_in B ha.u hb.u _) (cmbR_in B ha.s hb.s _), cmbR_has B ha.u hb.u, cmbR_has B ha.s hb.s]
theorem andA_in : (andA a b).In N U := ⟨cmbR_in B ha.s hb.s _, cmbR_in B (cmbR_in B (cmbR_in B ha.s ha.u _) (cmbR_in B hb.s hb.u _) _) (cmbR_in B ha.s hb.s _) _, fun x _ => by
  rw [and_s B ha hb, and_u B ha hb]
  cases a.s.has x && b.s.has x <;> simp⟩
theorem orA_in : (orA a b).In N U := ⟨cmbR_in B ha.s hb.s _, cmbR_in B (cmbR_in B ha.u hb.u _) (cmbR_in B ha.s hb.s _) _, fun x _ => by
  rw [or_s B ha hb, or_u B ha hb]
  cases a.s.has x || b.s.has x <;> simp⟩
omit ha hb in
theorem AN.ext' {a b : AN} (ha : a.In N U) (hb : b.In N U) (h : ∀ x, 0 ≤ x → a.s.has x = b.s.has x ∧ a.u.has x = b.u.has x) : a = b := by
  have h1 := RS.ext' ha.s hb.s fun x hx => (h x hx).1
  have h2 := RS.ext' ha.u hb.u fun x hx => (h x hx).2
  cases a; cases b
  simp only at h1 h2
  rw [h1, h2]
end
section
variable {Γ : Nat → Option Def} {L k : Nat} (hΓ : ∀ f d, pg f = some d → Γ f = some d)
include hΓ
variable {N : Int} {U : List Int} (B : Bd N U) {a b : AN} (ha : a.In N U) (hb : b.In N U)
include B ha
theorem ainv_ok : callF Γ L (k + 8) 37 [.fz a.t] = .ok (.ow (invA a).o) [.no] := by
  have c98 : callF Γ L (k + 7) 98 [.fz a.s.t, .fz a.u.t] = _ := or_ok hΓ B ha.s ha.u
  have c43 : callF Γ L (k + 7) 43 [.fz (cmbR kOr a.s a.u).t] = _ := invert_ok hΓ B (cmbR_in B ha.s ha.u _)
  have c33 := ainit_ok hΓ (L := L) (k := k) B (invA_in B ha)
  refine wC.eq_ow (wp_run (d := d37) (hΓ _ _ rfl) rfl ?_)
  generalize callF Γ L (k + 7) = cal at *
  unfold d37
  repeat infer_instance
theorem aout_ok : callF Γ L (k + 8) 106 [.fz a.t] = .ok (.ow (invA a).s.o) [.no] := by
  have c98 : callF Γ L (k + 7) 98 [.fz a.s.t, .fz a.u.t] = _ := or_ok hΓ B ha.s ha.u
  have c43 : callF Γ L (k + 7) 43 [.fz (cmbR kOr a.s a.u).t] = _ := invert_ok hΓ B (cmbR_in B ha.s ha.u _)
  refine wC.eq_ow (wp_run (d := d106) (hΓ _ _ rfl) rfl ?_)
  generalize callF Γ L (k + 7) = cal at *
  unfold d106
  repeat infer_instance
include hb
theorem aand_ok : callF Γ L (k + 8) 35 [.fz a.t, .fz b.t] = .ok (.ow (andA a b).o) [.no, .no] := by
  have c40 : callF Γ L (k + 7) 40 [.fz a.s.t, .fz b.s.t] = _ := and_ok hΓ B ha.s hb.s
  have c98 : callF Γ L (k + 7) 98 [.fz a.s.t, .fz a.u.t] = _ := or_ok hΓ B ha.s ha.u
  have c98' : callF Γ L (k + 7) 98 [.fz b.s.t, .fz b.u.t] = _ := or_ok hΓ B hb.s hb.u
  have c40' : callF Γ L (k + 7) 40 [.fz (cmbR kOr a.s a.u).t, .fz (cmbR kOr b.s b.u).t] = _ := and_ok hΓ B (cmbR_in B ha.s ha.u _) (cmbR_in B hb.s hb.u _)
  have c41 : callF Γ L (k + 7) 41 [.fz (cmbR kAnd (cmbR kOr a.s a.u) (cmbR kOr b.s b.u)).t, .fz (cmbR kAnd a.s b.s).t] = _ := sub_ok hΓ B (cmbR_in B (cmbR_in B ha.s ha.u _) (cmbR_in B hb.s hb.u _) _) (cmbR_in B ha.s hb.s _)
  have c33 := ainit_ok hΓ (L := L) (k := k) B (andA_in B ha hb)
  refine wC.eq_ow (wp_run (d := d35) (hΓ _ _ rfl) rfl ?_)
  generalize callF Γ L (k + 7) = cal at *
  unfold d35
  repeat infer_instance
theorem aor_ok : callF Γ L (k + 8) 36 [.fz a.t, .fz b.t] = .ok (.ow (orA a b).o) [.no, .no] := by
  have c98 : callF Γ L (k + 7) 98 [.fz a.s.t, .fz b.s.t] = _ := or_ok hΓ B ha.s hb.s
  have c98' : callF Γ L (k + 7) 98 [.fz a.u.t, .fz b.u.t] = _ := or_ok hΓ B ha.u hb.u
  have c41 : callF Γ L (k + 7) 41 [.fz (cmbR kOr a.u b.u).t, .fz (cmbR kOr a.s b.s).t] = _ := sub_ok hΓ B (cmbR_in B ha.u hb.u _) (cmbR_in B ha.s hb.s _)
  have c33 := ainit_ok hΓ (L := L) (k := k) B (orA_in B ha hb)
  refine wC.eq_ow (wp_run (d := d36) (hΓ _ _ rfl) rfl ?_)
  generalize callF Γ L (k + 7) = cal at *
  unfold d36
  repeat infer_instance
omit B in
theorem aeq_ok : callF Γ L (k + 2) 107 [.fz a.t, .fz b.t] = .ok (.fz (.bl (eqA a b))) [.no, .no] := by
  have c16 := eq_ok hΓ (L := L) (k := k) (p := a.s.p) (p' := b.s.p) (cs := a.s.cs) (cs' := b.s.cs) ha.s.can.ok.oa hb.s.can.ok.oa
  have c16' := eq_ok hΓ (L := L) (k := k) (p := a.u.p) (p' := b.u.p) (cs := a.u.cs) (cs' := b.u.cs) ha.u.can.ok.oa hb.u.can.ok.oa
  refine wC.eq_fz (wp_run (d := d107) (hΓ _ _ rfl) rfl ?_)
  generalize callF Γ L (k + 1) = cal at *
  unfold d107
  repeat infer_instance
end
section
variable {Γ : Nat → Option Def} {L k : Nat} (hΓ : ∀ f d, pg f = some d → Γ f = some d)
include hΓ
variable {N : Int} {U : List Int} {a b : AN}
/-- == with something else -/
theorem aeq_x {t : T} (ht : ∀ c fs, t ≠ .ins c fs) : callF Γ L (k + 1) 107 [.fz a.t, .fz t] = .ok (.fz (.bl false)) [.no, .no] := by
  refine wC.eq_fz (wp_run (d := d107) (hΓ _ _ rfl) rfl ?_)
  generalize callF Γ L k = cal at *
  unfold d107
  refine bp_cons (wp_ret (wp_an ?_))
  cases t with
  | ins c fs => exact absurd rfl (ht c fs)
  | _ => 
    repeat infer_instance
    refine wif0 rfl ?_
    repeat infer_instance
theorem asettled_ok : callF Γ L (k + 2) 110 [.fz a.t] = .ok (.fz (.bl (!a.u.bool))) [.no] := by
  have c12 : callF Γ L (k + 1) 12 [.fz a.u.t] = .ok (.fz (.bl a.u.bool)) [.no] := bool_ok hΓ (L := L) (k := k) (p := a.u.p) (cs := a.u.cs) (od := a.u.od)
  refine wC.eq_fz (wp_run (d := d110) (hΓ _ _ rfl) rfl ?_)
  generalize callF Γ L (k + 1) = cal at *
  unfold d110
  repeat infer_instance
noncomputable def RS.txt (r : RS) : PySem.Str := rText r.p r.cs r.od
noncomputable def RS.tok (r : RS) : Prop := TxtOk r.p r.cs r.od ∧ r.txt.length ≤ 7000000
noncomputable def AN.txt (a : AN) : PySem.Str := if a.u.bool = true then PySem.Str.empty ++ a.s.txt ++ " open " ++ a.u.txt else a.s.txt
theorem atext_ok (hs : a.s.tok) (hu : a.u.tok) : callF Γ L (k + 2) 108 [.fz a.t] = .ok (.fz (.str a.txt)) [.no] := by
  have c12 : callF Γ L (k + 1) 12 [.fz a.u.t] = .ok (.fz (.bl a.u.bool)) [.no] := bool_ok hΓ (L := L) (k := k) (p := a.u.p) (cs := a.u.cs) (od := a.u.od)
  have c10 : callF Γ L (k + 1) 10 [.fz a.s.t] = .ok (.fz (.str a.s.txt)) [.no] := text_ok hΓ (L := L) (k := k) hs.1
  have c10' : callF Γ L (k + 1) 10 [.fz a.u.t] = .ok (.fz (.str a.u.txt)) [.no] := text_ok hΓ (L := L) (k := k) hu.1
  have h1 := hs.2
  have h2 := hu.2
  have hz : sizeLine = 16777216 := rfl
  have e1 : ∀ x : PySem.Str, (PySem.Str.empty ++ x).length = x.length := fun x => by rw [PySem.Str.length_append]; exact Nat.zero_add _
  have l1 : (PySem.Str.empty ++ a.s.txt).length ≤ sizeLine := by rw [e1]; omega
  have e2 : PySem.Str.length " open " = 6 := by decide
  have l2 : (PySem.Str.empty ++ a.s.txt ++ " open ").length ≤ sizeLine := by rw [PySem.Str.length_append, e1, e2]; omega
  have l3 : (PySem.Str.empty ++ a.s.txt ++ " open " ++ a.u.txt).length ≤ sizeLine := by rw [PySem.Str.length_append, PySem.Str.length_append, e1, e2]; omega
  refine wC.eq_fz (wp_run (d := d108) (hΓ _ _ rfl) rfl ?_)
  generalize callF Γ L (k + 1) = cal at *
  unfold d108 AN.txt
  repeat infer_instance
  cases hb : a.u.bool with
  | false =>
    refine wif1 rfl ?_
    repeat infer_instance
  | true =>
    refine wif0 rfl ?_
    repeat infer_instance
    refine ⟨l1, ?_⟩
    repeat infer_instance
    refine ⟨l2, ?_⟩
    repeat infer_instance
    refine ⟨l3, ?_⟩
    repeat infer_instance
end
end RndP
set_option maxHeartbeats 2000000
namespace RndP
open PySem PySem.Spec PyProof.Rows L2 Mi MiDR RndM
local macro_rules
  | `(tactic| infer_instance) => `(tactic| first
    | refine dp_nil ?_ | refine dp_cons ?_ | refine wp_var rfl ?_ | refine wp_bo rfl ?_ | refine wp_c ?_ | refine wp_op ?_ | refine wp_lst ?_ | refine wp_tup ?_
    | refine wp_call ?_ | refine wp_prop ?_ | refine wp_meth ?_ | refine wp_mk ?_ | refine wp_bop ?_ | refine wp_uop ?_ | refine wp_fld ?_ | refine wp_spc ?_ | refine wp_ceq ?_ | refine wp_inn ?_ | refine wp_nt ?_ | refine wp_fst ?_ | refine jp_cons ?_ | refine jp_nil ?_ | refine wp_isc ?_ | refine wp_dsc rfl rfl ?_ | refine wp_dic0 ?_ | refine wp_dgt ?_ | refine wp_ccm ?_ | refine wp_anP ?_ | refine wp_orP ?_ | refine wp_ite ?_
    | refine sp_it ?_ | refine sp_rng1 ?_ | refine sp_enum ?_ | refine sp_zip ?_ | refine wp_lr ?_
    | refine bp_nil ?_ | refine bp_cons ?_ | refine wp_set ?_ | refine wp_ret ?_ | refine wp_stf ?_ | refine wp_par ?_ | refine wp_ife ?_ | refine wp_ex ?_
    | refine wk_go rfl ?_ | refine wC.fz (by assumption) ?_ | refine wC.ow (by assumption) ?_ | refine wo_inI ?_ | refine wo_inD ?_ | refine wo_notinI ?_ | refine wo_mod (by omega) ?_ | refine wo_addS ?_ ?_ | exact ⟨rfl, rfl⟩ | refine ⟨rfl, ?_⟩ | refine wO.of rfl ?_ | refine ap_nil ?_
    | refine ⟨_, _, _, _, _, rfl, rfl, rfl, ?_⟩ | refine ⟨_, _, _, rfl, rfl, ?_⟩ | refine ⟨_, _, _, rfl, rfl, rfl, ?_⟩ | refine ⟨_, _, rfl, rfl, ?_⟩ | refine ⟨_, _, rfl, ?_⟩ | refine ⟨_, rfl, rfl, ?_⟩ | refine ⟨_, rfl, ?_⟩ | refine ⟨rfl, _, _, rfl, ?_⟩ | refine ⟨⟨_, rfl⟩, ?_⟩ | refine And.intro (fun _ z => nomatch z) ?_ | exact rfl)

noncomputable def RS.sp (r : RS) : T := .lst [.int r.p, .lst (tI r.cs), .lst (tI r.od)]
noncomputable def RS.spo (r : RS) : O := .lst [.int r.p, .lst (tI r.cs), .lst (tI r.od)]
inductive W3 where
  | s | u | o
noncomputable def W3.str : W3 → PySem.Str
  | .s => "sure"
  | .u => "unsure"
  | .o => "out"
noncomputable def w3 (s u : Bool) : W3 := if s = true then .s else if u = true then .u else .o
noncomputable def both : W3 → W3 → W3
  | .o, _ => .o
  | _, .o => .o
  | .s, .s => .s
  | _, _ => .u
noncomputable def wnot : W3 → W3
  | .s => .o
  | .o => .s
  | .u => .u
section
variable {Γ : Nat → Option Def} {L k : Nat} (hΓ : ∀ f d, pg f = some d → Γ f = some d)
include hΓ
theorem aspec_ok {a : AN} : callF Γ L (k + 2) 34 [.fz a.t] = .ok (.ow (.lst [a.s.sp, a.u.sp])) [.no] := by
  have h9 : ∀ r : RS, callF Γ L (k + 1) 9 [.fz r.t] = .ok (.fz (.int r.p)) [.no] := fun r => period_ok hΓ (L := L) (k := k)
  have h6 : ∀ r : RS, callF Γ L (k + 1) 6 [.fz r.t] = .ok (.ow (.lst (tI r.cs))) [.no] := fun r => classes_ok hΓ (L := L) (k := k)
  have h7 : ∀ r : RS, callF Γ L (k + 1) 7 [.fz r.t] = .ok (.ow (.lst (tI r.od))) [.no] := fun r => odd_ok hΓ (L := L) (k := k)
  refine wC.eq_ow (wp_run (d := d34) (hΓ _ _ rfl) rfl ?_)
  generalize callF Γ L (k + 1) = cal at *
  unfold d34
  refine bp_cons (wp_ret (wp_comp (α := RS) ?_))
  repeat infer_instance
  refine ⟨[a.s, a.u], RS.t, fun _ => true, RS.sp, rfl, rfl, rfl, fun x hx => ⟨_, rfl, rfl, ap_nil ⟨rfl, rfl⟩, fun _ => ?_⟩, by show 2 ≤ sizeLine; decide, ?_⟩
  · have c9 := h9 x
    have c6 := h6 x
    have c7 := h7 x
    unfold e34_0
    repeat infer_instance
  · repeat infer_instance
theorem lhas_ok {r : RS} {x : Int} (hp : 0 < r.p) : callF Γ L (k + 1) 39 [.fz r.sp, .fz (.int x)] = .ok (.fz (.bl (r.has x))) [.no, .no] := by
  refine wC.eq_fz (wp_run (d := d39) (hΓ _ _ rfl) rfl ?_)
  generalize callF Γ L k = cal at *
  unfold d39
  repeat infer_instance
theorem word_ok {a b : RS} {x : Int} (ha : 0 < a.p) (hb : 0 < b.p) : callF Γ L (k + 2) 103 [.fz (.lst [a.sp, b.sp]), .fz (.int x)] = .ok (.fz (.str (w3 (a.has x) (b.has x)).str)) [.no, .no] := by
  have c1 := lhas_ok hΓ (L := L) (k := k) (x := x) ha
  have c2 := lhas_ok hΓ (L := L) (k := k) (x := x) hb
  refine wC.eq_fz (wp_run (d := d103) (hΓ _ _ rfl) rfl ?_)
  generalize callF Γ L (k + 1) = cal at *
  unfold d103
  repeat infer_instance
  cases h1 : a.has x with
  | true =>
    refine wif1 rfl ?_
    repeat infer_instance
  | false =>
    refine wif0 rfl ?_
    repeat infer_instance
    cases h2 : b.has x with
    | true =>
      refine wif1 rfl ?_
      repeat infer_instance
    | false =>
      refine wif0 rfl ?_
      repeat infer_instance
theorem both_ok (a b : W3) : callF Γ L (k + 1) 104 [.fz (.str a.str), .fz (.str b.str)] = .ok (.fz (.str (both a b).str)) [.no, .no] := by
  refine wC.eq_fz (wp_run (d := d104) (hΓ _ _ rfl) rfl ?_)
  generalize callF Γ L k = cal at *
  unfold d104
  cases a <;> cases b <;> repeat (first | infer_instance | refine wif1 (by decide +kernel) ?_ | refine wif0 (by decide +kernel) ?_)
theorem not_ok (a : W3) : callF Γ L (k + 1) 105 [.fz (.str a.str)] = .ok (.fz (.str (wnot a).str)) [.no] := by
  refine wC.eq_fz (wp_run (d := d105) (hΓ _ _ rfl) rfl ?_)
  generalize callF Γ L k = cal at *
  unfold d105
  cases a <;> repeat infer_instance
theorem arepr_ok {a : AN} (hs : a.s.tok) (hu : a.u.tok) : callF Γ L (k + 3) 109 [.fz a.t] = .ok (.fz (.str (PySem.Str.empty ++ "Answer(" ++ a.txt ++ ")"))) [.no] := by
  have c := atext_ok hΓ (L := L) (k := k) hs hu
  have h1 := hs.2
  have h2 := hu.2
  have hz : sizeLine = 16777216 := rfl
  have e1 : ∀ x : PySem.Str, (PySem.Str.empty ++ x).length = x.length := fun x => by rw [PySem.Str.length_append]; exact Nat.zero_add _
  have e2 : PySem.Str.length " open " = 6 := by decide
  have e3 : PySem.Str.length "Answer(" = 7 := by decide
  have e4 : PySem.Str.length ")" = 1 := by decide
  have hl : a.txt.length ≤ 15000000 := by
    unfold AN.txt
    split
    · rw [PySem.Str.length_append, PySem.Str.length_append, e1, e2]; omega
    · omega
  have l1 : (PySem.Str.empty ++ "Answer(").length ≤ sizeLine := by rw [e1, e3]; omega
  have l2 : (PySem.Str.empty ++ "Answer(" ++ a.txt).length ≤ sizeLine := by rw [PySem.Str.length_append, e1, e3]; omega
  have l3 : (PySem.Str.empty ++ "Answer(" ++ a.txt ++ ")").length ≤ sizeLine := by rw [PySem.Str.length_append, PySem.Str.length_append, e1, e3, e4]; omega
  refine wC.eq_fz (wp_run (d := d109) (hΓ _ _ rfl) rfl ?_)
  generalize callF Γ L (k + 2) = cal at *
  unfold d109
  repeat infer_instance
  refine ⟨l1, ?_⟩
  repeat infer_instance
  refine ⟨l2, ?_⟩
  repeat infer_instance
  refine ⟨l3, ?_⟩
  repeat infer_instance
end
end RndP
set_option maxHeartbeats 2000000
namespace RndP
open PySem PySem.Spec PyProof.Rows L2 Mi MiDR RndM
local macro_rules
  | `(tactic| infer_instance) => `(tactic| first
    | refine dp_nil ?_ | refine dp_cons ?_ | refine wp_var rfl ?_ | refine wp_bo rfl ?_ | refine wp_c ?_ | refine wp_op ?_ | refine wp_lst ?_ | refine wp_tup ?_
    | refine wp_call ?_ | refine wp_prop ?_ | refine wp_meth ?_ | refine wp_mk ?_ | refine wp_bop ?_ | refine wp_uop ?_ | refine wp_fld ?_ | refine wp_spc ?_ | refine wp_ceq ?_ | refine wp_inn ?_ | refine wp_nt ?_ | refine wp_fst ?_ | refine jp_cons ?_ | refine jp_nil ?_ | refine wp_isc ?_ | refine wp_dsc rfl rfl ?_ | refine wp_dic0 ?_ | refine wp_dgt ?_ | refine wp_ccm ?_ | refine wp_anP ?_ | refine wp_orP ?_ | refine wp_ite ?_
    | refine sp_it ?_ | refine sp_rng1 ?_ | refine sp_enum ?_ | refine sp_zip ?_ | refine wp_lr ?_ | refine wp_frU ?_
    | refine bp_nil ?_ | refine bp_cons ?_ | refine wp_set ?_ | refine wp_ret ?_ | refine wp_stf ?_ | refine wp_par ?_ | refine wp_ife ?_ | refine wp_ex ?_
    | refine wk_go rfl ?_ | refine wC.fz (by assumption) ?_ | refine wC.ow (by assumption) ?_ | refine wo_idxI (by omega) (by omega) ?_ | refine wo_srtI ?_ | refine wo_listD ?_ | refine wo_inI ?_ | refine wo_inD ?_ | refine wo_notinI ?_ | refine wo_mod (by omega) ?_ | refine wo_addS ?_ ?_ | exact ⟨rfl, rfl⟩ | refine ⟨rfl, ?_⟩ | refine wO.of rfl ?_ | refine ap_nil ?_
    | refine ⟨_, _, _, _, _, rfl, rfl, rfl, ?_⟩ | refine ⟨_, _, _, rfl, rfl, ?_⟩ | refine ⟨_, _, _, rfl, rfl, rfl, ?_⟩ | refine ⟨_, _, rfl, rfl, ?_⟩ | refine ⟨_, _, rfl, ?_⟩ | refine ⟨_, rfl, rfl, ?_⟩ | refine ⟨_, rfl, ?_⟩ | refine ⟨rfl, _, _, rfl, ?_⟩ | refine ⟨⟨_, rfl⟩, ?_⟩ | refine And.intro (fun _ z => nomatch z) ?_ | exact rfl)

/-! ### drawn answers -/
/-- the mark of a round -/
noncomputable def mkAt (ms : List Int) (x : Int) : Int := ms.getD x.toNat 0
noncomputable def saC (p : Int) (ms : List Int) (μ : Int) : List Int := (rngI 0 p).filter fun x => mkAt ms x == μ
noncomputable def saO (p : Int) (ms : List Int) (kvs : List (Int × Int)) (μ : Int) : List Int := (sortS (kvs.map (·.1))).filter fun x => !((mkAt ms (x % p) == μ) == (valP kvs x == μ))
structure SA (p : Int) (ms : List Int) (kvs : List (Int × Int)) : Prop where
  p1 : 1 ≤ p
  p2 : p ≤ 12
  ml : (ms.length : Int) = p
  nd : (kvs.map (·.1)).Nodup
  kb : ∀ x ∈ kvs.map (·.1), 0 ≤ x ∧ x < 40
  kl : kvs.length ≤ 4
theorem sa_turn {cal : Nat → List Mi.Slot → CRes} {L : Nat} {p : Int} {ms : List Int} {kvs : List (Int × Int)} (S : SA p ms kvs) {s0 s3 s7 s9 : Mi.Slot} {μ : Int} {sp : List T} (hs : sp.length ≤ 10) {D : En}
    (q : D.nx [s0, .fz (.int p), .ow (.lst (tI ms)), s3, .ow (.dic (dI2 kvs)), .ow (.lst (sp ++ [.lst [.int p, .lst (tI (saC p ms μ)), .lst (tI (saO p ms kvs μ))]])), .fz (.int μ), .fz (.lst (tI (saC p ms μ))), .no, .fz (.lst (tI (saO p ms kvs μ)))]) :
    wB cal L l32_0 [s0, .fz (.int p), .ow (.lst (tI ms)), s3, .ow (.dic (dI2 kvs)), .ow (.lst sp), .fz (.int μ), s7, .no, s9] D := by
  obtain ⟨p1, p2, ml, nd, kb, kl⟩ := S
  have hz : sizeLine = 16777216 := rfl
  unfold l32_0
  refine bp_cons (wp_set (wp_comp (α := Int) ?_))
  repeat infer_instance
  refine ⟨⟨by omega, by omega⟩, rngI 0 p, T.int, fun x => mkAt ms x == μ, T.int, rfl, rfl, rfl, fun x hx => ⟨_, rfl, rfl, ?_, fun _ => ?_⟩, by rw [len_rngI]; omega, ?_⟩
  · have := mem_rngI.mp hx
    refine ap_one ?_
    repeat infer_instance
  · unfold e32_2
    repeat infer_instance
  refine ⟨_, rfl, bp_cons (wp_set (wp_comp (α := Int) ?_))⟩
  repeat infer_instance
  refine ⟨sortS (kvs.map (·.1)), T.int, fun x => !((mkAt ms (x % p) == μ) == (valP kvs x == μ)), T.int, rfl, rfl, rfl, fun x hx => ⟨_, rfl, rfl, ?_, fun _ => ?_⟩, by rw [sortS_len, List.length_map]; omega, ?_⟩
  · have hk := (sortS_mem x _).mp hx
    have m0 := Int.emod_nonneg x (show p ≠ 0 by omega)
    have m1 := Int.emod_lt_of_pos x (show 0 < p by omega)
    refine ap_one ?_
    repeat infer_instance
    refine wo_idxD hk ?_
    repeat infer_instance
  · unfold e32_3
    repeat infer_instance
  refine ⟨_, rfl, bp_cons (wp_app ⟨sp, rfl, ?_⟩)⟩
  repeat infer_instance
  exact ⟨by omega, bp_nil q⟩
section
variable {Γ : Nat → Option Def} {L k : Nat} (hΓ : ∀ f d, pg f = some d → Γ f = some d)
include hΓ
theorem sa_ok {o : O} {b : Nat} (B : Bg b o) (hb : 100 ≤ b) : ∃ p ms kvs o', callF Γ L (k + 3) 32 [.ow o] = .ok (.ow (.lst [.lst [.int p, .lst (tI (saC p ms 1)), .lst (tI (saO p ms kvs 1))], .lst [.int p, .lst (tI (saC p ms 2)), .lst (tI (saO p ms kvs 2))]])) [.ow o'] ∧ Bg (b - 100) o' ∧ SA p ms kvs := by
  have D : Draws (callF Γ L (k + 2)) 15 17 := draws_ok (hΓ 15 d15 rfl) (hΓ 17 d17 rfl)
  suffices h : wC (callF Γ L (k + 3)) 32 [.ow o] fun r outs => ∃ p ms kvs o', (r = .ow (.lst [.lst [.int p, .lst (tI (saC p ms 1)), .lst (tI (saO p ms kvs 1))], .lst [.int p, .lst (tI (saC p ms 2)), .lst (tI (saO p ms kvs 2))]]) ∧ outs = [.ow o']) ∧ Bg (b - 100) o' ∧ SA p ms kvs by
    unfold wC at h
    obtain ⟨r, outs, e, _, p, ms, kvs, o', ⟨rfl, rfl⟩, h1, h2⟩ := h
    exact ⟨p, ms, kvs, o', e, h1, h2⟩
  refine wp_run (d := d32) (hΓ _ _ rfl) rfl ?_
  generalize callF Γ L (k + 2) = cal at *
  unfold d32
  have hz : sizeLine = 16777216 := rfl
  repeat infer_instance
  refine wc_of D B (by omega) rfl rfl fun y o1 hy B1 => ?_
  obtain ⟨n, rfl, n0, n1⟩ : ∃ n, y = .int n ∧ 0 < n ∧ n ≤ 12 := by
    simp only [List.mem_cons, List.not_mem_nil, or_false] at hy
    rcases hy with rfl | rfl | rfl <;> exact ⟨_, rfl, by omega, by omega⟩
  repeat infer_instance
  refine wc_take D B1 (by omega) n0 (by omega) fun d o2 h0 h1 B2 => ?_
  repeat infer_instance
  -- the marks
  refine wp_compI ?_
  repeat infer_instance
  refine ⟨⟨by omega, by omega⟩, fun xs acc m => ∃ o' ms, m = [.ow o', .fz (.int (1 + d)), .no, .no, .no, .no, .no, .no, .no, .no] ∧ acc = tI ms ∧ ms.length + xs.length = (1 + d).toNat ∧ Bg (b - 2 - ms.length) o', rfl, ⟨o2, [], rfl, rfl, by rw [List.length_map, len_rngI]; simp, B2⟩, ?_, ?_⟩
  · rintro x xs acc m ⟨o3, ms, rfl, rfl, hl, B3⟩
    simp only [List.length_cons] at hl
    refine ⟨_, rfl, ap_nil ⟨true, rfl, fun _ => ?_, fun z => by cases z⟩⟩
    unfold e32_0
    repeat infer_instance
    refine wc_take D B3 (by omega) (by omega) (by omega) fun e o4 h2 h3 B4 => ?_
    repeat infer_instance
    refine ⟨by rw [List.length_map]; omega, o4, ms ++ [e], rfl, by simp, by simp; omega, B4.mono (by simp; omega)⟩
  rintro acc m ⟨o3, ms, rfl, rfl, hl, B3⟩
  simp only [List.length_nil, Nat.add_zero] at hl
  repeat infer_instance
  -- the turned ones
  refine wp_compI ?_
  repeat infer_instance
  refine wc_take D B3 (by omega) (by omega) (by omega) fun n2 o4 h2 h3 B4 => ?_
  repeat infer_instance
  refine ⟨⟨by omega, by omega⟩, fun xs acc m => ∃ o' l, m = [.ow o', .fz (.int (1 + d)), .ow (.lst (tI ms)), .no, .no, .no, .no, .no, .no, .no] ∧ acc = tP l ∧ (∀ q ∈ l, 0 ≤ q.1 ∧ q.1 < 40) ∧ l.length + xs.length ≤ 4 ∧ Bg (b - 20 - 3 * l.length) o', rfl, ⟨o4, [], rfl, rfl, by simp, by rw [List.length_map, len_rngI]; simp; omega, B4.mono (by simp; omega)⟩, ?_, ?_⟩
  · rintro x xs acc m ⟨o5, l, rfl, rfl, hq, hl5, B5⟩
    simp only [List.length_cons] at hl5
    refine ⟨_, rfl, ap_nil ⟨true, rfl, fun _ => ?_, fun z => by cases z⟩⟩
    unfold e32_1
    repeat infer_instance
    refine wc_of D B5 (by omega) rfl rfl fun y o6 hy B6 => ?_
    obtain ⟨n, rfl, n0, n1⟩ : ∃ n, y = .int n ∧ 0 < n ∧ n ≤ 40 := by
      simp only [List.mem_cons, List.not_mem_nil, or_false] at hy
      rcases hy with rfl | rfl <;> exact ⟨_, rfl, by omega, by omega⟩
    repeat infer_instance
    refine wc_take D B6 (by omega) n0 (by omega) fun u o7 h4 h5 B7 => ?_
    repeat infer_instance
    refine wc_take D B7 (by omega) (by omega) (by omega) fun v o8 h6 h7 B8 => ?_
    repeat infer_instance
    refine ⟨by rw [List.length_map]; omega, o8, l ++ [(u, v)], rfl, by simp, fun q hq' => ?_, by simp; omega, B8.mono (by simp; omega)⟩
    rcases List.mem_append.mp hq' with h | h
    · exact hq q h
    · simp only [List.mem_cons, List.not_mem_nil, or_false] at h
      subst h
      exact ⟨h4, by show u < 40; omega⟩
  rintro acc m ⟨o5, l, rfl, rfl, hq, hl5, B5⟩
  simp only [List.length_nil, Nat.add_zero] at hl5
  repeat infer_instance
  refine wo_dict fun kvs nd hk lk => ?_
  have S : SA (1 + d) ms kvs := ⟨by omega, by omega, by omega, nd, fun x hx => by
    obtain ⟨q, h, rfl⟩ := List.mem_map.mp hx
    exact hq q (hk q h), by omega⟩
  repeat infer_instance
  refine wf_cons (m1 := [.ow o5, .fz (.int (1 + d)), .ow (.lst (tI ms)), .no, .ow (.dic (dI2 kvs)), .ow (.lst []), .fz (.int 1), .no, .no, .no]) rfl (sa_turn S (by simp) ?_)
  refine wf_cons (m1 := [.ow o5, .fz (.int (1 + d)), .ow (.lst (tI ms)), .no, .ow (.dic (dI2 kvs)), .ow (.lst _), .fz (.int 2), .fz _, .no, .fz _]) rfl (sa_turn S (by simp) (wf_nil ?_))
  repeat infer_instance
  exact ⟨1 + d, ms, kvs, o5, ⟨rfl, rfl⟩, B5.mono (by omega), S⟩
end
end RndP
set_option maxHeartbeats 2000000
namespace RndP
open PySem PySem.Spec PyProof.Rows L2 Mi MiDR RndM
theorem dec_iff {P : Prop} [Decidable P] {b : Bool} (h : P ↔ b = true) : decide P = b := by
  cases b with
  | true => exact decide_eq_true (h.mpr rfl)
  | false => exact decide_eq_false fun z => by have := h.mp z; cases this
/-! ### what is drawn -/
section
variable {p : Int} {ms : List Int} {kvs : List (Int × Int)} (S : SA p ms kvs)
include S
theorem sa_odd (μ : Int) : (saO p ms kvs μ).Pairwise (· < ·) ∧ (∀ x ∈ saO p ms kvs μ, x ∈ kvs.map (·.1)) ∧ (saO p ms kvs μ).length ≤ 4 := by
  refine ⟨asc_filter (sortS_asc S.nd), fun x hx => (sortS_mem x _).mp (List.mem_filter.mp hx).1, ?_⟩
  have := List.length_filter_le (fun x => !((mkAt ms (x % p) == μ) == (valP kvs x == μ))) (sortS (kvs.map (·.1)))
  rw [sortS_len, List.length_map] at this
  have := S.kl
  unfold saO
  omega
theorem sa_rnd (μ : Int) : RndOk p (saC p ms μ) (saO p ms kvs μ) := by
  obtain ⟨o1, o2, o3⟩ := sa_odd S μ
  have h1 := S.p1
  have h2 := S.p2
  have hz : sizeLine = 16777216 := rfl
  have := List.length_filter_le (fun x => mkAt ms x == μ) (rngI 0 p)
  rw [len_rngI] at this
  refine ⟨h1, by omega, asc_filter (asc_rngI _ _), fun x hx => mem_rngI.mp (List.mem_filter.mp hx).1, ?_, o1, fun x hx => (S.kb x (o2 x hx)).1, by omega⟩
  unfold saC
  omega
theorem sa_has (μ x : Int) : hasI p (saC p ms μ) (saO p ms kvs μ) x = ((if x ∈ kvs.map (·.1) then valP kvs x else mkAt ms (x % p)) == μ) := by
  have h1 := S.p1
  have m0 := Int.emod_nonneg x (show p ≠ 0 by omega)
  have m1 := Int.emod_lt_of_pos x (show 0 < p by omega)
  have e1 : decide (x % p ∈ saC p ms μ) = (mkAt ms (x % p) == μ) := by
    have : (x % p ∈ saC p ms μ) ↔ (mkAt ms (x % p) == μ) = true := by
      unfold saC
      rw [List.mem_filter, mem_rngI]
      exact ⟨fun h => h.2, fun h => ⟨⟨m0, m1⟩, h⟩⟩
    exact dec_iff this
  unfold hasI
  rw [e1]
  by_cases hx : x ∈ kvs.map (·.1)
  · rw [if_pos hx]
    have e2 : decide (x ∈ saO p ms kvs μ) = !((mkAt ms (x % p) == μ) == (valP kvs x == μ)) := by
      have : (x ∈ saO p ms kvs μ) ↔ (!((mkAt ms (x % p) == μ) == (valP kvs x == μ))) = true := by
        unfold saO
        rw [List.mem_filter]
        exact ⟨fun h => h.2, fun h => ⟨(sortS_mem x _).mpr hx, h⟩⟩
      exact dec_iff this
    rw [e2]
    cases (mkAt ms (x % p) == μ) <;> cases (valP kvs x == μ) <;> rfl
  · rw [if_neg hx]
    have e2 : decide (x ∈ saO p ms kvs μ) = false := decide_eq_false fun z => hx ((sa_odd S μ).2.1 x z)
    rw [e2]
    cases (mkAt ms (x % p) == μ) <;> rfl
end
/-- the drawn answer -/
noncomputable def saA (p : Int) (ms : List Int) (kvs : List (Int × Int)) : AN := ⟨mkR p (saC p ms 1) (saO p ms kvs 1), mkR p (saC p ms 2) (saO p ms kvs 2)⟩
theorem mkR_has {p : Int} {cs od : List Int} (ok : RndOk p cs od) (x : Int) : (mkR p cs od).has x = hasI p cs od x := has_lp ok x
theorem saA_in {p N : Int} {U : List Int} {ms : List Int} {kvs : List (Int × Int)} (S : SA p ms kvs) (hd : p ∣ N) (hU : ∀ x ∈ kvs.map (·.1), x ∈ U) : (saA p ms kvs).In N U := by
  refine ⟨⟨lp_can (sa_rnd S 1), Int.dvd_trans (lp_dvd (sa_rnd S 1)) hd, fun x hx => hU x ((sa_odd S 1).2.1 x hx)⟩, ⟨lp_can (sa_rnd S 2), Int.dvd_trans (lp_dvd (sa_rnd S 2)) hd, fun x hx => hU x ((sa_odd S 2).2.1 x hx)⟩, fun x _ => ?_⟩
  show ((mkR _ _ _).has x && (mkR _ _ _).has x) = false
  rw [mkR_has (sa_rnd S 1), mkR_has (sa_rnd S 2), sa_has S, sa_has S]
  generalize (if x ∈ kvs.map (·.1) then valP kvs x else mkAt ms (x % p)) = w
  by_cases h : w = 1
  · subst h; rfl
  · have : (w == 1) = false := by simpa using h
    rw [this]; rfl
/-! words -/
theorem w3_and (s u t v : Bool) : w3 (s && t) (((s || u) && (t || v)) && !(s && t)) = both (w3 s u) (w3 t v) := by cases s <;> cases u <;> cases t <;> cases v <;> rfl
theorem w3_or (s u t v : Bool) (h1 : (s && u) = false) (h2 : (t && v) = false) : w3 (s || t) ((u || v) && !(s || t)) = wnot (both (wnot (w3 s u)) (wnot (w3 t v))) := by cases s <;> cases u <;> cases t <;> cases v <;> first | rfl | cases h1 | cases h2
theorem w3_inv (s u : Bool) (h1 : (s && u) = false) : w3 (!(s || u)) u = wnot (w3 s u) := by cases s <;> cases u <;> first | rfl | cases h1
noncomputable def AN.w (a : AN) (x : Int) : W3 := w3 (a.s.has x) (a.u.has x)
section
variable {N : Int} {U : List Int} (B : Bd N U) {a b : AN} (ha : a.In N U) (hb : b.In N U) {x : Int}
include B ha
theorem inv_w (hx : 0 ≤ x) : (invA a).w x = wnot (a.w x) := by
  unfold AN.w
  rw [inv_s B ha]
  exact w3_inv _ _ (ha.d x hx)
include hb
theorem and_w : (andA a b).w x = both (a.w x) (b.w x) := by
  unfold AN.w
  rw [and_s B ha hb, and_u B ha hb]
  exact w3_and _ _ _ _
theorem or_w (hx : 0 ≤ x) : (orA a b).w x = wnot (both (wnot (a.w x)) (wnot (b.w x))) := by
  unfold AN.w
  rw [or_s B ha hb, or_u B ha hb]
  exact w3_or _ _ _ _ (ha.d x hx) (hb.d x hx)
omit ha hb in
theorem ext_w (ha : a.In N U) (hb : b.In N U) (h : ∀ x, 0 ≤ x → a.w x = b.w x) : a = b := AN.ext' B ha hb fun x hx => by
  have e := h x hx
  have d1 := ha.d x hx
  have d2 := hb.d x hx
  unfold AN.w at e
  cases h1 : a.s.has x <;> cases h2 : a.u.has x <;> cases h3 : b.s.has x <;> cases h4 : b.u.has x <;> rw [h1, h2, h3, h4] at e <;> rw [h1, h2] at d1 <;> rw [h3, h4] at d2 <;> first | (cases d1; done) | (cases d2; done) | exact ⟨rfl, rfl⟩ | (cases e; done)
end
theorem tok_ok {p : Int} {cs od : List Int} (p0 : 0 ≤ p) (p1 : p < 100) (hc : ∀ x ∈ cs, 0 ≤ x ∧ x < 100) (ho : ∀ x ∈ od, 0 ≤ x ∧ x < 100) (lc : cs.length ≤ 1000) (lo : od.length ≤ 1000) : (RS.mk p cs od).tok := by
  refine ⟨(txt_ok p0 p1 hc ho lc lo).1, ?_⟩
  have h1 := sum_le _ (words_le p0 p1 hc ho)
  have h2 := words_len (p := p) (cs := cs) (od := od)
  have := len_join (" " : PySem.Str) (rWords p cs od)
  have h3 : PySem.Str.length (" " : PySem.Str) = 1 := by decide
  rw [h3] at this
  show (Txt.join " " (rWords p cs od)).length ≤ _
  omega
end RndP
set_option maxHeartbeats 4000000
namespace K33
open PySem PySem.Spec PyProof.Rows L2 Mi MiDR RndM RndP
local macro_rules
  | `(tactic| infer_instance) => `(tactic| first
    | refine dp_nil ?_ | refine dp_cons ?_ | refine wp_var rfl ?_ | refine wp_bo rfl ?_ | refine wp_c ?_ | refine wp_op ?_ | refine wp_lst ?_ | refine wp_tup ?_
    | refine wp_call ?_ | refine wp_prop ?_ | refine wp_meth ?_ | refine wp_mk ?_ | refine wp_bop ?_ | refine wp_uop ?_ | refine wp_fld ?_ | refine wp_spc ?_ | refine wp_ceq ?_ | refine wp_inn ?_ | refine wp_nt ?_ | refine wp_fst ?_ | refine jp_cons ?_ | refine jp_nil ?_ | refine wp_isc ?_ | refine wp_dsc rfl rfl ?_ | refine wp_dic0 ?_ | refine wp_dgt ?_ | refine wp_ccm ?_ | refine wp_anP ?_ | refine wp_orP ?_ | refine wp_ite ?_
    | refine sp_it ?_ | refine sp_rng1 ?_ | refine sp_enum ?_ | refine sp_zip ?_ | refine wp_lr ?_ | refine wp_frU ?_
    | refine bp_nil ?_ | refine bp_cons ?_ | refine wp_set ?_ | refine wp_ret ?_ | refine wp_stf ?_ | refine wp_par ?_ | refine wp_ife ?_ | refine wp_ex ?_
    | refine wk_go rfl ?_ | refine wC.fz (by assumption) ?_ | refine wC.ow (by assumption) ?_ | refine wo_idxI (by omega) (by omega) ?_ | refine wo_srtI ?_ | refine wo_listD ?_ | refine wo_inI ?_ | refine wo_inD ?_ | refine wo_notinI ?_ | refine wo_mod (by omega) ?_ | refine wo_addS ?_ ?_ | refine wo_addL ?_ ?_ | refine wo_neN ?_ | refine wo_eqN ?_ | exact ⟨rfl, rfl⟩ | refine ⟨rfl, ?_⟩ | refine wO.of rfl ?_ | refine ap_nil ?_
    | refine ⟨_, _, _, _, _, rfl, rfl, rfl, ?_⟩ | refine ⟨_, _, _, rfl, rfl, ?_⟩ | refine ⟨_, _, _, rfl, rfl, rfl, ?_⟩ | refine ⟨_, _, rfl, rfl, ?_⟩ | refine ⟨_, _, rfl, ?_⟩ | refine ⟨_, rfl, rfl, ?_⟩ | refine ⟨_, rfl, ?_⟩ | refine ⟨rfl, _, _, rfl, ?_⟩ | refine ⟨⟨_, rfl⟩, ?_⟩ | refine And.intro (fun _ z => nomatch z) ?_ | exact rfl)
theorem hΓ : ∀ f d, pg f = some d → Γ f = some d := fun f d h => by
  unfold Γ
  by_cases e : f = 31
  · subst e
    have : pg 31 = none := rfl
    rw [this] at h; cases h
  · rw [if_neg e]; exact h
noncomputable abbrev kk : Nat := 13
noncomputable abbrev LL : Nat := 0
theorem hroom : L2.Room (2 * (kk + 1)) callerA := ⟨rfl, by decide, by decide⟩
/-- what the law's calls keep -/
structure Cal (cal : Nat → List Mi.Slot → CRes) : Prop where
  inv : ∀ {N U} (B : Bd N U) {a : AN}, a.In N U → cal 37 [.fz a.t] = .ok (.ow (invA a).o) [.no]
  out : ∀ {N U} (B : Bd N U) {a : AN}, a.In N U → cal 106 [.fz a.t] = .ok (.ow (invA a).s.o) [.no]
  and : ∀ {N U} (B : Bd N U) {a b : AN}, a.In N U → b.In N U → cal 35 [.fz a.t, .fz b.t] = .ok (.ow (andA a b).o) [.no, .no]
  or : ∀ {N U} (B : Bd N U) {a b : AN}, a.In N U → b.In N U → cal 36 [.fz a.t, .fz b.t] = .ok (.ow (orA a b).o) [.no, .no]
  eq : ∀ {N U} {a b : AN}, a.In N U → b.In N U → cal 107 [.fz a.t, .fz b.t] = .ok (.fz (.bl (eqA a b))) [.no, .no]
  eqx : ∀ {a : AN} {t : T}, (∀ c fs, t ≠ .ins c fs) → cal 107 [.fz a.t, .fz t] = .ok (.fz (.bl false)) [.no, .no]
  settled : ∀ a : AN, cal 110 [.fz a.t] = .ok (.fz (.bl (!a.u.bool))) [.no]
  text : ∀ {a : AN}, a.s.tok → a.u.tok → cal 108 [.fz a.t] = .ok (.fz (.str a.txt)) [.no]
  repr : ∀ {a : AN}, a.s.tok → a.u.tok → cal 109 [.fz a.t] = .ok (.fz (.str (PySem.Str.empty ++ "Answer(" ++ a.txt ++ ")"))) [.no]
  spec : ∀ a : AN, cal 34 [.fz a.t] = .ok (.ow (.lst [a.s.sp, a.u.sp])) [.no]
  word : ∀ {a b : RS} (x : Int), 0 < a.p → 0 < b.p → cal 103 [.fz (.lst [a.sp, b.sp]), .fz (.int x)] = .ok (.fz (.str (w3 (a.has x) (b.has x)).str)) [.no, .no]
  both : ∀ a b : W3, cal 104 [.fz (.str a.str), .fz (.str b.str)] = .ok (.fz (.str (RndP.both a b).str)) [.no, .no]
  nt : ∀ a : W3, cal 105 [.fz (.str a.str)] = .ok (.fz (.str (wnot a).str)) [.no]
  rnd : ∀ {p cs od}, RndOk p cs od → cal 24 [.fz (.lst [.int p, .lst (tI cs), .lst (tI od)])] = .ok (.ow (mkR p cs od).o) [.no]
  least : ∀ {p cs od}, RndOk p cs od → cal 5 [.fz (.lst [.int p, .lst (tI cs), .lst (tI od)])] = .ok (.ow (mkR p cs od).spo) [.no]
  rtext : ∀ {r : RS}, r.tok → cal 8 [.fz r.sp] = .ok (.fz (.str r.txt)) [.no]
  stext : ∀ {r : RS}, r.tok → cal 10 [.fz r.t] = .ok (.fz (.str r.txt)) [.no]
  contains : ∀ {r : RS} {x : Int}, 0 < r.p → 0 ≤ x → cal 99 [.fz r.t, .fz (.int x)] = .ok (.fz (.bl (r.has x))) [.no, .no]
  init : ∀ {N U} (B : Bd N U) {a : AN}, a.In N U → cal 33 [.ow (.ins 15 []), .fz a.s.t, .fz a.u.t] = .ok (.fz .non) [.ow a.o, .no, .no]
  same : ∀ (n : Nat) (t : T), Pl n t → n < 8 → cal 13 [.fz t, .fz t] = .ok (.fz (.bl true)) [.no, .no]
  draw : ∀ {o : O} {b : Nat}, Bg b o → 100 ≤ b → ∃ p ms kvs o', cal 32 [.ow o] = .ok (.ow (.lst [.lst [.int p, .lst (tI (saC p ms 1)), .lst (tI (saO p ms kvs 1))], .lst [.int p, .lst (tI (saC p ms 2)), .lst (tI (saO p ms kvs 2))]])) [.ow o'] ∧ Bg (b - 100) o' ∧ SA p ms kvs
theorem cal_ok : Cal (callF Γ LL kk) where
  inv B := fun h => ainv_ok hΓ B h (k := 5)
  out B := fun h => aout_ok hΓ B h (k := 5)
  and B := fun h h' => aand_ok hΓ B h h' (k := 5)
  or B := fun h h' => aor_ok hΓ B h h' (k := 5)
  eq := fun h h' => aeq_ok hΓ h h' (k := 11)
  eqx := fun h => aeq_x hΓ h (k := 12)
  settled := fun _ => asettled_ok hΓ (k := 11)
  text := fun h h' => atext_ok hΓ h h' (k := 11)
  repr := fun h h' => arepr_ok hΓ h h' (k := 10)
  spec := fun _ => aspec_ok hΓ (k := 11)
  word := fun x h h' => word_ok hΓ h h' (k := 11)
  both := fun a b => both_ok hΓ a b (k := 12)
  nt := fun a => not_ok hΓ a (k := 12)
  rnd := fun h => lawrounds_ok hΓ h (k := 9)
  least := fun h => ls_ok hΓ h (k := 12)
  rtext := fun h => st_ok hΓ h.1 (k := 12)
  stext := fun h => text_ok hΓ h.1 (k := 12)
  contains := fun h h' => in_ok hΓ h h' (k := 11)
  init B := fun h => ainit_ok hΓ B h (k := 6)
  same := fun n t h hn => same_refl (hΓ 13 d13 rfl) n t 13 h (by omega)
  draw := fun B hb => sa_ok hΓ B hb (k := 10)
noncomputable def found (a b : AN) : List AN := [andA a b, orA a b, invA a, invA (andA a (invA b))]
noncomputable def one (p : Int) (ms : List Int) (kvs : List (Int × Int)) : T := .lst [.lst [.int p, .lst (tI (saC p ms 1)), .lst (tI (saO p ms kvs 1))], .lst [.int p, .lst (tI (saC p ms 2)), .lst (tI (saO p ms kvs 2))]]
noncomputable def fT (a : AN) : T := .lst [a.s.sp, a.u.sp]
section
variable {cal : Nat → List Mi.Slot → CRes} (C : Cal cal) {N : Int} {U : List Int} (B : Bd N U) {p q : Int} {ms mt : List Int} {kvs lvs : List (Int × Int)} (S1 : SA p ms kvs) (S2 : SA q mt lvs) (ha : (saA p ms kvs).In N U) (hb : (saA q mt lvs).In N U)
include C S1 in
theorem word_one {x : Int} : cal 103 [.fz (one p ms kvs), .fz (.int x)] = .ok (.fz (.str ((saA p ms kvs).w x).str)) [.no, .no] := by
  have h := C.word (a := ⟨p, saC p ms 1, saO p ms kvs 1⟩) (b := ⟨p, saC p ms 2, saO p ms kvs 2⟩) x (by have := S1.p1; show 0 < p; omega) (by have := S1.p1; show 0 < p; omega)
  have e : w3 (RS.has ⟨p, saC p ms 1, saO p ms kvs 1⟩ x) (RS.has ⟨p, saC p ms 2, saO p ms kvs 2⟩ x) = (saA p ms kvs).w x := by
    unfold AN.w
    show w3 (hasI _ _ _ _) (hasI _ _ _ _) = w3 ((mkR _ _ _).has x) ((mkR _ _ _).has x)
    rw [mkR_has (sa_rnd S1 1), mkR_has (sa_rnd S1 2)]
  rw [e] at h
  exact h
theorem word_f {N : Int} {U : List Int} {a : AN} (C : Cal cal) (h : a.In N U) {x : Int} : cal 103 [.fz (fT a), .fz (.int x)] = .ok (.fz (.str (a.w x).str)) [.no, .no] := C.word x h.s.pos h.u.pos
theorem okT_str (w : W3) : okT (.str w.str) = true := by cases w <;> decide +kernel
include C B S1 S2 ha hb
theorem turn {x : Int} (hx : 0 ≤ x) {s0 s1 s6 s9 s10 s11 : Mi.Slot} (h6 : s6 = .ow (.lst ((found (saA p ms kvs) (saA q mt lvs)).map fT)) ∨ s6 = .fz (.lst ((found (saA p ms kvs) (saA q mt lvs)).map fT))) {D : En}
    (qn : ∀ s9 s10 s11, D.nx [s0, s1, .fz (one p ms kvs), .fz (one q mt lvs), .fz (saA p ms kvs).t, .fz (saA q mt lvs).t, .fz (.lst ((found (saA p ms kvs) (saA q mt lvs)).map fT)), .fz (.int x), .no, s9, s10, s11, .no, .no, .no, .no]) :
    wB cal LL l31_0 [s0, s1, .fz (one p ms kvs), .fz (one q mt lvs), .fz (saA p ms kvs).t, .fz (saA q mt lvs).t, s6, .fz (.int x), .no, s9, s10, s11, .no, .no, .no, .no] D := by
  have w1 := word_one C S1 (x := x)
  have w2 := word_one C S2 (x := x)
  have hz : sizeLine = 16777216 := rfl
  have co := C.out B ha
  have cc := C.contains (r := (invA (saA p ms kvs)).s) (x := x) (invA_in B ha).s.pos hx
  generalize hA : saA p ms kvs = a at *
  generalize hB : saA q mt lvs = b at *
  have n1 := C.nt (a.w x)
  have n2 := C.nt (b.w x)
  have b1 := C.both (a.w x) (b.w x)
  have b2 := C.both (wnot (a.w x)) (wnot (b.w x))
  have n3 := C.nt (RndP.both (wnot (a.w x)) (wnot (b.w x)))
  have b3 := C.both (a.w x) (wnot (b.w x))
  have n4 := C.nt (RndP.both (a.w x) (wnot (b.w x)))
  have key : ∀ c ∈ found a b, cal 103 [.fz (fT c), .fz (.int x)] = .ok (.fz (.str (c.w x).str)) [.no, .no] := fun c hc => by
    have : c.In N U := by
      simp only [found, List.mem_cons, List.not_mem_nil, or_false] at hc
      rcases hc with rfl | rfl | rfl | rfl
      · exact andA_in B ha hb
      · exact orA_in B ha hb
      · exact invA_in B ha
      · exact invA_in B (andA_in B ha (invA_in B hb))
    exact word_f C this
  have fin : (found a b).map (fun c => T.str (c.w x).str) = [T.str (RndP.both (a.w x) (b.w x)).str, .str (wnot (RndP.both (wnot (a.w x)) (wnot (b.w x)))).str, .str (wnot (a.w x)).str, .str (wnot (RndP.both (a.w x) (wnot (b.w x)))).str] := by
    simp only [found, List.map_cons, List.map_nil]
    rw [and_w B ha hb, or_w B ha hb hx, inv_w B ha hx, inv_w B (andA_in B ha (invA_in B hb)) hx, and_w B ha (invA_in B hb), inv_w B hb hx]
  have hv : Mi.eqT (.str (a.w x).str) (.str "out") = (invA a).s.has x := by
    rw [inv_s B ha]
    unfold AN.w
    cases a.s.has x <;> cases a.u.has x <;> decide +kernel
  unfold l31_0
  rcases h6 with rfl | rfl
  all_goals
    repeat infer_instance
    refine wp_comp (α := AN) ?_
    repeat infer_instance
    refine ⟨found a b, fT, fun _ => true, fun c => .str (c.w x).str, rfl, rfl, rfl, fun c hc => ⟨_, rfl, rfl, ap_nil ⟨rfl, rfl⟩, fun _ => ?_⟩, by show 4 ≤ sizeLine; decide, ?_⟩
    · have k := key c hc
      unfold e31_1
      repeat infer_instance
    rw [filt_true, fin]
    repeat infer_instance
    refine wo_nePl rfl (po_flats (n := 0) (by rw [List.all_cons, List.all_cons, List.all_cons, List.all_cons, okT_str, okT_str, okT_str, okT_str]; rfl)) (by decide) ?_
    repeat infer_instance
    refine wif0 (by
      show (false || !(((invA a).s.has x) == Mi.eqT (.str (a.w x).str) (.str "out"))) = false
      rw [hv]
      cases (invA a).s.has x <;> rfl) ?_
    repeat infer_instance
    exact qn _ _ _
end
section
variable {p : Int} {ms : List Int} {kvs : List (Int × Int)} (S : SA p ms kvs)
include S
theorem sa_tok (μ : Int) : (mkR p (saC p ms μ) (saO p ms kvs μ)).tok := by
  have h1 := S.p1
  have h2 := S.p2
  have ok := sa_rnd S μ
  obtain ⟨o1, o2, o3⟩ := sa_odd S μ
  have cn := lp_can ok
  have q1 := cn.ok.p1
  have := Int.le_of_dvd (show 0 < p by omega) (lp_dvd ok)
  have lc := len_in cn.ok.ca cn.ok.cb
  exact tok_ok (by omega) (by omega) (fun x hx => by have := cn.ok.cb x hx; omega) (fun x hx => by have := S.kb x (o2 x hx); omega) (by omega) (by omega)
end
theorem bothI : ∀ w : W3, RndP.both w w = w := fun w => by cases w <;> rfl
theorem bothC : ∀ w v : W3, RndP.both w v = RndP.both v w := fun w v => by cases w <;> cases v <;> rfl
theorem nn : ∀ w : W3, wnot (wnot w) = w := fun w => by cases w <;> rfl
section
variable {cal : Nat → List Mi.Slot → CRes} (C : Cal cal) {N : Int} {U : List Int} (B : Bd N U) {p q : Int} {ms mt : List Int} {kvs lvs : List (Int × Int)} (S1 : SA p ms kvs) (S2 : SA q mt lvs) (ha : (saA p ms kvs).In N U) (hb : (saA q mt lvs).In N U)
theorem eqT' {cal : Nat → List Mi.Slot → CRes} (C : Cal cal) {N : Int} {U : List Int} {a b : AN} (ha : a.In N U) (hb : b.In N U) (e : a = b) : cal 107 [.fz a.t, .fz b.t] = .ok (.fz (.bl true)) [.no, .no] := by
  have h := C.eq ha hb
  rw [eqA_iff.mpr e] at h
  exact h
noncomputable def sl (ns : List Int) (s1 : Mi.Slot) (o t : T) (a b : AN) (s6 s7 s9 s10 s11 s13 s14 s15 : Mi.Slot) : List Mi.Slot := [.fz (.scr ns), s1, .fz o, .fz t, .fz a.t, .fz b.t, s6, s7, .no, s9, s10, s11, .no, s13, s14, s15]
include C B ha hb
/-- the operators' laws -/
theorem step5 {ns : List Int} {o t : T} {s1 s6 s7 s9 s10 s11 s13 s14 s15 : Mi.Slot} {D : En} (qn : D.nx (sl ns s1 o t (saA p ms kvs) (saA q mt lvs) s6 s7 s9 s10 s11 s13 s14 s15)) : wT cal LL t31_5 (sl ns s1 o t (saA p ms kvs) (saA q mt lvs) s6 s7 s9 s10 s11 s13 s14 s15) D := by
  generalize saA p ms kvs = a at *
  generalize saA q mt lvs = b at *
  have ia := invA_in B ha
  have ib := invA_in B hb
  have ab := andA_in B ha hb
  have c1 := C.inv B ha
  have c2 := C.inv B ia
  have e1 := eqT' C (invA_in B ia) ha (ext_w B (invA_in B ia) ha fun x hx => by rw [inv_w B ia hx, inv_w B ha hx, nn])
  have c3 := C.and B ha ha
  have e2 := eqT' C (andA_in B ha ha) ha (ext_w B (andA_in B ha ha) ha fun x hx => by rw [and_w B ha ha, bothI])
  have c4 := C.or B ha ha
  have e3 := eqT' C (orA_in B ha ha) ha (ext_w B (orA_in B ha ha) ha fun x hx => by rw [or_w B ha ha hx, bothI, nn])
  have c5 := C.and B ha hb
  have c6 := C.inv B ab
  have c7 := C.inv B hb
  have c8 := C.or B ia ib
  have e4 := eqT' C (invA_in B ab) (orA_in B ia ib) (ext_w B (invA_in B ab) (orA_in B ia ib) fun x hx => by rw [inv_w B ab hx, and_w B ha hb, or_w B ia ib hx, inv_w B ha hx, inv_w B hb hx, nn, nn])
  have c9 := C.and B hb ha
  have e5 := eqT' C ab (andA_in B hb ha) (ext_w B ab (andA_in B hb ha) fun x hx => by rw [and_w B ha hb, and_w B hb ha, bothC])
  unfold t31_5 sl
  repeat infer_instance
  refine wif0 rfl ?_
  repeat infer_instance
  exact qn
theorem step3 {ns : List Int} {o t : T} {s1 s7 s9 s10 s11 s13 s14 s15 : Mi.Slot} {s6 : Mi.Slot} {D : En} (qn : D.nx (sl ns s1 o t (saA p ms kvs) (saA q mt lvs) (.ow (.lst ((found (saA p ms kvs) (saA q mt lvs)).map fT))) s7 s9 s10 s11 s13 s14 s15)) : wT cal LL t31_3 (sl ns s1 o t (saA p ms kvs) (saA q mt lvs) s6 s7 s9 s10 s11 s13 s14 s15) D := by
  generalize saA p ms kvs = a at *
  generalize saA q mt lvs = b at *
  have ib := invA_in B hb
  have c1 := C.and B ha hb
  have d1 := C.spec (andA a b)
  have c2 := C.or B ha hb
  have d2 := C.spec (orA a b)
  have c3 := C.inv B ha
  have d3 := C.spec (invA a)
  have c4 := C.inv B hb
  have c5 := C.and B ha ib
  have c6 := C.inv B (andA_in B ha ib)
  have d4 := C.spec (invA (andA a (invA b)))
  unfold t31_3 sl
  repeat infer_instance
  exact qn
include S1 S2
theorem step4 {ns : List Int} {s1 s13 s14 s15 : Mi.Slot} {D : En} (h13 : s13 = .no) (h14 : s14 = .no) (h15 : s15 = .no) (qn : ∀ s6 s7 s9 s10 s11, D.nx (sl ns s1 (one p ms kvs) (one q mt lvs) (saA p ms kvs) (saA q mt lvs) s6 s7 s9 s10 s11 s13 s14 s15)) : wT cal LL t31_4 (sl ns s1 (one p ms kvs) (one q mt lvs) (saA p ms kvs) (saA q mt lvs) (.ow (.lst ((found (saA p ms kvs) (saA q mt lvs)).map fT))) .no .no .no .no s13 s14 s15) D := by
  subst h13 h14 h15
  have hz : sizeLine = 16777216 := rfl
  unfold t31_4 sl
  refine wp_fr ?_
  repeat infer_instance
  refine ⟨⟨by omega, by omega⟩, ?_⟩
  refine ⟨by rw [List.length_map, len_rngI]; omega, ?_⟩
  repeat infer_instance
  refine wp_comp (α := Int) ?_
  repeat infer_instance
  refine ⟨⟨by omega, by omega⟩, rngI 0 12, T.int, fun _ => true, fun k => .int (10 ^ 20 + k), rfl, rfl, rfl, fun k hk => ⟨_, rfl, rfl, ap_nil ⟨rfl, rfl⟩, fun _ => ?_⟩, by rw [len_rngI]; omega, ?_⟩
  · unfold e31_0
    repeat infer_instance
  rw [filt_true]
  repeat infer_instance
  · show (tI (rngI 0 200)).length + _ ≤ _
    rw [List.length_map, List.length_map, len_rngI, len_rngI]; omega
  repeat infer_instance
  refine ⟨fun xs m => (∃ s6 s7 s9 s10 s11, (s6 = .ow (.lst ((found (saA p ms kvs) (saA q mt lvs)).map fT)) ∨ s6 = .fz (.lst ((found (saA p ms kvs) (saA q mt lvs)).map fT))) ∧ m = sl ns s1 (one p ms kvs) (one q mt lvs) (saA p ms kvs) (saA q mt lvs) s6 s7 s9 s10 s11 .no .no .no) ∧ ∀ x ∈ xs, ∃ n : Int, x = .int n ∧ 0 ≤ n, ⟨⟨_, .no, .no, .no, .no, .inl rfl, rfl⟩, fun x hx => ?_⟩, ?_, ?_⟩
  · rcases List.mem_append.mp hx with h | h
    · obtain ⟨n, hn, rfl⟩ := List.mem_map.mp h
      exact ⟨n, rfl, (mem_rngI.mp hn).1⟩
    · obtain ⟨n, hn, rfl⟩ := List.mem_map.mp h
      refine ⟨_, rfl, ?_⟩
      have := (mem_rngI.mp hn).1
      show (0 : Int) ≤ 10 ^ 20 + n
      omega
  · rintro x xs m ⟨⟨s6, s7, s9, s10, s11, h6, rfl⟩, hx⟩
    obtain ⟨n, rfl, hn⟩ := hx x List.mem_cons_self
    refine ⟨_, rfl, turn C B S1 S2 ha hb hn h6 fun s9 s10 s11 => ⟨⟨_, _, s9, s10, s11, .inr rfl, rfl⟩, fun y hy => hx y (List.mem_cons_of_mem _ hy)⟩⟩
  · rintro m ⟨⟨s6, s7, s9, s10, s11, h6, rfl⟩, _⟩
    exact qn _ _ _ _ _
theorem step67 {ns : List Int} {s1 s6 s7 s9 s10 s11 : Mi.Slot} {t : T} {rest : Ss} {D : En} (qn : wB cal LL rest (sl ns s1 (one p ms kvs) t (saA p ms kvs) (saA q mt lvs) s6 s7 s9 s10 s11 (.fz (.lst [(saA p ms kvs).s.sp, (saA p ms kvs).u.sp])) (.ow (.lst [.str (saA p ms kvs).s.txt, .str (saA p ms kvs).u.txt])) .no) D) :
    wB cal LL (.cons t31_6 (.cons t31_7 rest)) (sl ns s1 (one p ms kvs) t (saA p ms kvs) (saA q mt lvs) s6 s7 s9 s10 s11 .no .no .no) D := by
  unfold t31_6 t31_7 sl
  refine bp_cons (wp_set (wp_comp (α := Int) ?_))
  repeat infer_instance
  refine ⟨[1, 2], fun μ => .lst [.int p, .lst (tI (saC p ms μ)), .lst (tI (saO p ms kvs μ))], fun _ => true, fun μ => (mkR p (saC p ms μ) (saO p ms kvs μ)).sp, rfl, rfl, rfl, fun μ hμ => ⟨_, rfl, rfl, ap_nil ⟨rfl, rfl⟩, fun _ => ?_⟩, by show 2 ≤ sizeLine; decide, ?_⟩
  · have := C.least (sa_rnd S1 μ)
    unfold e31_2
    repeat infer_instance
  refine ⟨_, rfl, bp_cons (wp_set (wp_comp (α := Int) ?_))⟩
  repeat infer_instance
  refine ⟨[1, 2], fun μ => (mkR p (saC p ms μ) (saO p ms kvs μ)).sp, fun _ => true, fun μ => .str (mkR p (saC p ms μ) (saO p ms kvs μ)).txt, rfl, rfl, rfl, fun μ hμ => ⟨_, rfl, rfl, ap_nil ⟨rfl, rfl⟩, fun _ => ?_⟩, by show 2 ≤ sizeLine; decide, ?_⟩
  · have := C.rtext (sa_tok S1 μ)
    unfold e31_3
    repeat infer_instance
  refine ⟨_, rfl, qn⟩
omit B S2 hb in
/-- the text -/
theorem step8 {ns : List Int} {s1 s6 s7 s9 s10 s11 : Mi.Slot} {t : T} {b : AN} {D : En} (qn : D.nx (sl ns s1 (one p ms kvs) t (saA p ms kvs) b s6 s7 s9 s10 s11 (.fz (.lst [(saA p ms kvs).s.sp, (saA p ms kvs).u.sp])) (.ow (.lst [.str (saA p ms kvs).s.txt, .str (saA p ms kvs).u.txt])) (.fz (.str (saA p ms kvs).txt)))) :
    wT cal LL t31_8 (sl ns s1 (one p ms kvs) t (saA p ms kvs) b s6 s7 s9 s10 s11 (.fz (.lst [(saA p ms kvs).s.sp, (saA p ms kvs).u.sp])) (.ow (.lst [.str (saA p ms kvs).s.txt, .str (saA p ms kvs).u.txt])) .no) D := by
  have hz : sizeLine = 16777216 := rfl
  have k1 : (saA p ms kvs).s.tok := sa_tok S1 1
  have k2 : (saA p ms kvs).u.tok := sa_tok S1 2
  generalize saA p ms kvs = a at *
  have l1 := k1.2
  have l2 := k2.2
  have e2 : PySem.Str.length " open " = 6 := by decide
  have e0 : PySem.Str.length "" = 0 := by decide
  unfold t31_8 sl
  repeat infer_instance
  have hk : ((!decide (a.u.cs = [])) || (!decide (a.u.od = []))) = a.u.bool := by
    unfold RS.bool
    rw [decide_not, decide_not]
  rw [hk]
  cases hb : a.u.bool with
  | true =>
    refine wif1 rfl ?_
    repeat infer_instance
    · omega
    repeat infer_instance
    · rw [PySem.Str.length_append]; omega
    refine ⟨_, rfl, ?_⟩
    have : a.s.txt ++ (" open " ++ a.u.txt) = a.txt := by
      unfold AN.txt
      rw [if_pos hb, PySem.Str.empty_append, PySem.Str.append_assoc]
    rw [this]
    exact qn
  | false =>
    refine wif0 rfl ?_
    repeat infer_instance
    · omega
    refine ⟨_, rfl, ?_⟩
    have : a.s.txt ++ "" = a.txt := by
      unfold AN.txt
      rw [if_neg (by rw [hb]; decide)]
      exact PySem.Str.append_empty _
    rw [this]
    exact qn
omit B S2 hb ha in
theorem step9 {ns : List Int} {s1 s6 s7 s9 s10 s11 : Mi.Slot} {o t : T} {a b : AN} (k1 : a.s.tok) (k2 : a.u.tok) {D : En} (qn : D.nx (sl ns s1 o t a b s6 s7 s9 s10 (.ow (.lst [.str a.txt, .str (PySem.Str.empty ++ "Answer(" ++ a.txt ++ ")"), .bl (!a.u.bool), .str a.s.txt, .str a.u.txt])) (.fz (.lst [a.s.sp, a.u.sp])) (.ow (.lst [.str a.s.txt, .str a.u.txt])) (.fz (.str a.txt)))) :
    wT cal LL t31_9 (sl ns s1 o t a b s6 s7 s9 s10 s11 (.fz (.lst [a.s.sp, a.u.sp])) (.ow (.lst [.str a.s.txt, .str a.u.txt])) (.fz (.str a.txt))) D := by
  have hz : sizeLine = 16777216 := rfl
  have l1 := k1.2
  have l2 := k2.2
  have e2 : PySem.Str.length " open " = 6 := by decide
  have e3 : PySem.Str.length "Answer(" = 7 := by decide
  have e4 : PySem.Str.length ")" = 1 := by decide
  have hl : a.txt.length ≤ 15000000 := by
    unfold AN.txt
    split
    · rw [PySem.Str.empty_append, PySem.Str.length_append, PySem.Str.length_append, e2]; omega
    · omega
  have hk : (decide (a.u.cs = []) && decide (a.u.od = [])) = !a.u.bool := by
    unfold RS.bool
    rw [decide_not, decide_not]
    cases decide (a.u.cs = []) <;> cases decide (a.u.od = []) <;> rfl
  unfold t31_9 sl
  repeat infer_instance
  · omega
  repeat infer_instance
  · rw [PySem.Str.length_append]; omega
  repeat infer_instance
  rw [show (T.bl (decide (a.u.cs = []) && decide (a.u.od = []))) = T.bl (!a.u.bool) from by rw [hk]]
  rw [PySem.Str.empty_append] at qn
  exact qn
omit B S1 S2 hb ha in
theorem step10 {ns : List Int} {s1 s6 s7 s9 s10 s13 s14 s15 : Mi.Slot} {o t : T} {a b : AN} (k1 : a.s.tok) (k2 : a.u.tok) {D : En} (qn : ∀ s11, D.nx (sl ns s1 o t a b s6 s7 s9 s10 s11 s13 s14 s15)) :
    wT cal LL t31_10 (sl ns s1 o t a b s6 s7 s9 s10 (.ow (.lst [.str a.txt, .str (PySem.Str.empty ++ "Answer(" ++ a.txt ++ ")"), .bl (!a.u.bool), .str a.s.txt, .str a.u.txt])) s13 s14 s15) D := by
  have c1 := C.text k1 k2
  have c2 := C.repr k1 k2
  have c3 := C.settled a
  have c4 := C.stext k1
  have c5 := C.stext k2
  have c6 := C.same 1 (.lst [.str a.txt, .str (PySem.Str.empty ++ "Answer(" ++ a.txt ++ ")"), .bl (!a.u.bool), .str a.s.txt, .str a.u.txt]) (.lst (fun x hx => .flat (by
    simp only [List.mem_cons, List.not_mem_nil, or_false] at hx
    rcases hx with rfl | rfl | rfl | rfl | rfl <;> rfl)) (show 5 ≤ sizeLine by decide)) (by decide)
  unfold t31_10 sl
  repeat infer_instance
  refine wif0 rfl ?_
  repeat infer_instance
  exact qn _
omit S2 hb in
theorem step11 {ns : List Int} {s1 s6 s7 s9 s10 s11 s14 : Mi.Slot} {t : T} {b : AN} {z : PySem.Str} {D : En} (qn : ∀ m, D.rt (.fz (.bl true)) m) :
    wT cal LL t31_11 (sl ns s1 (one p ms kvs) t (saA p ms kvs) b s6 s7 s9 s10 s11 (.fz (.lst [(saA p ms kvs).s.sp, (saA p ms kvs).u.sp])) s14 (.fz (.str z))) D := by
  have r1 := C.rnd (sa_rnd S1 1)
  have r2 := C.rnd (sa_rnd S1 2)
  have i1 : cal 33 [.ow (.ins 15 []), .fz (mkR p (saC p ms 1) (saO p ms kvs 1)).t, .fz (mkR p (saC p ms 2) (saO p ms kvs 2)).t] = .ok (.fz .non) [.ow (saA p ms kvs).o, .no, .no] := C.init B ha
  have e1 := eqT' C ha ha rfl
  have e2 := C.eqx (a := saA p ms kvs) (t := .str z) (fun _ _ h => nomatch h)
  have e3 := C.eqx (a := saA p ms kvs) (t := .non) (fun _ _ h => nomatch h)
  have d1 := C.spec (saA p ms kvs)
  have hz : sizeLine = 16777216 := rfl
  have ql : ∀ r : RS, r.cs.length ≤ sizeLine → r.od.length ≤ sizeLine → Pl 2 r.sp := fun r h1 h2 => .lst (fun x hx => by
    simp only [List.mem_cons, List.not_mem_nil, or_false] at hx
    rcases hx with rfl | rfl | rfl
    · exact .flat rfl
    · exact .lst (fun y hy => .flat (by obtain ⟨n, _, rfl⟩ := List.mem_map.mp hy; rfl)) (by rw [List.length_map]; exact h1)
    · exact .lst (fun y hy => .flat (by obtain ⟨n, _, rfl⟩ := List.mem_map.mp hy; rfl)) (by rw [List.length_map]; exact h2)) (show 3 ≤ sizeLine by decide)
  have c6 := C.same 3 (.lst [(saA p ms kvs).s.sp, (saA p ms kvs).u.sp]) (.lst (fun x hx => by
    simp only [List.mem_cons, List.not_mem_nil, or_false] at hx
    rcases hx with rfl | rfl
    · exact ql _ ha.s.can.ok.cl (by have := ha.s.len B; omega)
    · exact ql _ ha.u.can.ok.cl (by have := ha.u.len B; omega)) (show 2 ≤ sizeLine by decide)) (by decide)
  unfold t31_11 sl
  repeat infer_instance
  exact qn _
end
noncomputable def sl' (ns : List Int) : List Mi.Slot := [.fz (.scr ns), .no, .no, .no, .no, .no, .no, .no, .no, .no, .no, .no, .no, .no, .no, .no]
theorem law_true (ns : List Int) (_ : ns.length ≤ 63) : ∃ outs, callF Γ LL (kk + 1) 31 [.fz (.scr ns)] = .ok (.fz (.bl true)) outs := by
  obtain ⟨o, eb, B0⟩ := bag_mk (Γ := Γ) (L := LL) (k := 12) (hΓ 2 d2 rfl) (ns := ns)
  have eb' : callF Γ LL kk 2 [.fz (.scr ns)] = .ok (.ow o) [.no] := eb
  clear eb
  have C := cal_ok
  suffices h : wC (callF Γ LL (kk + 1)) 31 [.fz (.scr ns)] fun r _ => r = .fz (.bl true) by
    unfold wC at h
    obtain ⟨r, outs, e, _, rfl⟩ := h
    exact ⟨outs, e⟩
  refine wp_run (d := d31) rfl rfl ?_
  generalize callF Γ LL kk = cal at *
  obtain ⟨p, ms, kvs, o1, e1, B1, S1⟩ := C.draw B0 (by decide)
  obtain ⟨q, mt, lvs, o2, e2, B2, S2⟩ := C.draw B1 (by decide)
  have hp1 := S1.p1
  have hp2 := S1.p2
  have hq1 := S2.p1
  have hq2 := S2.p2
  have n0 : 1 ≤ p * q := Int.mul_pos (by omega) (by omega)
  have n1 : p * q ≤ 144 := by
    have := Int.mul_le_mul hp2 hq2 (by omega) (by omega)
    omega
  have B : Bd (p * q) (uniqS (kvs.map (·.1) ++ lvs.map (·.1))) := ⟨by omega, by omega, uniqS_asc _, by
    have := uniqS_len (kvs.map (·.1) ++ lvs.map (·.1))
    rw [List.length_append, List.length_map, List.length_map] at this
    have := S1.kl
    have := S2.kl
    omega⟩
  have ha : (saA p ms kvs).In (p * q) (uniqS (kvs.map (·.1) ++ lvs.map (·.1))) := saA_in S1 (Int.dvd_mul_right p q) fun x hx => (uniqS_mem x _).mpr (List.mem_append_left _ hx)
  have hb : (saA q mt lvs).In (p * q) (uniqS (kvs.map (·.1) ++ lvs.map (·.1))) := saA_in S2 (Int.dvd_mul_left p q) fun x hx => (uniqS_mem x _).mpr (List.mem_append_right _ hx)
  have r1 := C.rnd (sa_rnd S1 1)
  have r2 := C.rnd (sa_rnd S1 2)
  have r3 := C.rnd (sa_rnd S2 1)
  have r4 := C.rnd (sa_rnd S2 2)
  have i1 : cal 33 [.ow (.ins 15 []), .fz (mkR p (saC p ms 1) (saO p ms kvs 1)).t, .fz (mkR p (saC p ms 2) (saO p ms kvs 2)).t] = .ok (.fz .non) [.ow (saA p ms kvs).o, .no, .no] := C.init B ha
  have i2 : cal 33 [.ow (.ins 15 []), .fz (mkR q (saC q mt 1) (saO q mt lvs 1)).t, .fz (mkR q (saC q mt 2) (saO q mt lvs 2)).t] = .ok (.fz .non) [.ow (saA q mt lvs).o, .no, .no] := C.init B hb
  generalize hr : (Ss.cons t31_3 (.cons t31_4 (.cons t31_5 (.cons t31_6 (.cons t31_7 (.cons t31_8 (.cons t31_9 (.cons t31_10 (.cons t31_11 .nil))))))))) = rest
  show wB cal LL (.cons t31_0 (.cons t31_1 (.cons t31_2 (.cons t31_3 (.cons t31_4 (.cons t31_5 (.cons t31_6 (.cons t31_7 (.cons t31_8 (.cons t31_9 (.cons t31_10 (.cons t31_11 .nil)))))))))))) (sl' ns) _
  rw [hr]
  unfold sl'
  repeat infer_instance
  subst hr
  refine bp_cons (step3 C B ha hb (ns := ns) (s1 := .ow o2) (o := one p ms kvs) (t := one q mt lvs) (s6 := .no) (s7 := .no) (s9 := .no) (s10 := .no) (s11 := .no) (s13 := .no) (s14 := .no) (s15 := .no) ?_)
  refine bp_cons (step4 C B S1 S2 ha hb rfl rfl rfl fun s6 s7 s9 s10 s11 => ?_)
  refine bp_cons (step5 C B ha hb ?_)
  refine step67 C B S1 S2 ha hb ?_
  refine bp_cons (step8 C S1 ha ?_)
  have k1 : (saA p ms kvs).s.tok := sa_tok S1 1
  have k2 : (saA p ms kvs).u.tok := sa_tok S1 2
  refine bp_cons (step9 C S1 k1 k2 ?_)
  refine bp_cons (step10 C k1 k2 fun s11 => ?_)
  exact bp_cons (step11 C B S1 ha fun m => And.intro (fun _ z => nomatch z) rfl)
end K33
set_option maxHeartbeats 0
open PySem PySem.Spec PyProof.Rows L2 Mi MiDR K33
theorem PySem.Challenge.cw_loneround_k33_whole_answers_combined_holds : PySem.Challenge.rw_loneround_k33_whole_answers_combined.Holds := by
  w_on; o_law
  o_head hk
  case hw => w_witness2
  case hc =>
    refine L2.walk_ofE (l := PySem.Challenge.rw_loneround_k33_whole_answers_combined) (n := 63) (k := 2 * (K33.kk + 1)) (x := "_law_script") (CX := CXA (PySem.Challenge.rw_loneround_k33_whole_answers_combined).prog) rfl (by decide) (by kernel_rfl) K33.hroom ?F (fun _ _ _ _ z => cxA_no z)
    case F =>
      intro w mg fa h Y Gn hmg0
      obtain ⟨K, KX, c⟩ := Y
      have hmg : mg ("law" : PySem.Str) = some (.ref fa) := by
        have e : (HandSHeadRun.topDef (PySem.W.OpenLaw.row PySem.Challenge.rw_loneround_k33_whole_answers_combined).prog 46).name = ("law" : PySem.Str) := by kernel_rfl
        rw [← e]
        exact hmg0
      have t := top_of KX Gn c
      obtain ⟨fd, F⟩ := c.def_ 0 (d := D31) rfl
      have ea := hmg.symm.trans (t.glo 76 "law" rfl)
      cases ea
      have b := L2.FunD.bindsA (ps := p31) F fun _ _ _ _ _ _ us hl => match us, hl with | [_], _ => rfl
      refine ⟨K, fd, spM ⟨K, clsOf K cn⟩ (callF K33.Γ K33.LL (K33.kk + 1)) 31, KX, fun s v => b s [v] rfl, fun H a ns hl hO hS => ?_, fun base hb hn => ?_⟩
      · obtain ⟨outs, ho⟩ := K33.law_true ns hl
        exact law_sp ho hO hS _
      · exact cxA (Mi.fn_ok (G := ⟨K, clsOf K cn⟩) F sc31 rfl (d := d31) rfl rfl rfl rfl (by decide) (b31 (K33.all (G := ⟨K, clsOf K cn⟩) t K33.kk)))
