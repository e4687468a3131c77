import PyProof.Rows.All
import Wide.All
import OpenK.AllK
import Wide.FinOn
import HandS.ForMost
import HandS.TupAny
import HandS.IsInst
import HandS.Defaults
import HandS.Wide
import HandS.Gcd
import KE.KEqDeep
import HandS.SlotsOwn
import OpenK.KMeth
import HandS.SortKw
import HandS.NamedTupSort
import HandS.Flt
import HandS.Style
import KE.DataMinMax
import HandS.Deep
import HandS.Strs
import KE.KDictDisplayH
import KE.KDictCopyH
import KE.KDictOf
import KE.KSortTupG
import HandS.DictTup
import HandS.Conv
import HandS.Zip0
import KE.KItemsList
import HandS.Zip
import HandS.ExcInit
import HandS.ExcField
import KE.KExcSuper
import KE.KStateDown
import HandS.Ends
import HandS.More
import HandS.Words
import HandS.WordsExc
import HandS.Head0
import HandS.Head1
import HandS.Head2
import HandS.HeadEnd
import HandS.HeadHook1
import HandS.HeadHook2
import HandS.Head3
import HandS.Nested
import HandS.ExcSuper
import HandS.ClsMeth
import HandS.ExcOwn
import PyProof.InstNe
import PySem.Challenge.RW_fivebases_k34_whole_functions_put_in
set_option Elab.async false
set_option linter.all false
set_option maxRecDepth 100000
set_option maxHeartbeats 1000000
/-! FA: data, how they lie in the abstract heap, a def's slots. -/
namespace FB
open PySem L2

/-- data: what a value of the program is, without addresses -/
inductive D where
  | non | bl (b : Bool) | int (i : Int) | str (x : Str) | ktup
  | tup (xs : List D) | ptup (xs : List D) | lst (xs : List D) | ins (c : Nat) (fs : List D)
  deriving Inhabited

/-- the attributes of the classes -/
def cnames : Nat → List Str
  | 0 => ["n", "d"]
  | _ => ["base", "terms"]

/-- an empty tuple of the module's own -/
def KTup (K : PySem.W.Frag) (a : Addr) : Prop := ∃ (o : Obj) (n : Nat), K.lookup a = some o ∧ o.cls = .type "tuple" ∧ o.data = .seq #[] n
theorem KTup.sq {K : PySem.W.Frag} {a : Addr} (h : KTup K a) (H : Hp) : SqT K H a [] := by
  obtain ⟨o, n, h1, h2, h3⟩ := h
  exact .inr ⟨o, #[], n, h1, h2, h3, Nat.zero_le _, .nil⟩

mutual
/-- the value v is the datum d, in F -/
inductive Enc (K : PySem.W.Frag) (CA : Nat → Addr) (F : Hp) : V → D → Prop where
  | non : Enc K CA F .non .non
  | bl {b : Bool} : Enc K CA F (.bl b) (.bl b)
  | int {i : Int} : Enc K CA F (.int i) (.int i)
  | str {x : Str} : Enc K CA F (.str x) (.str x)
  | ktup {a : Addr} : KTup K a → Enc K CA F (.ref a) .ktup
  | tup {a : Addr} {vs : List V} {ds : List D} : F a = some (.tup vs) → EncL K CA F vs ds → Enc K CA F (.ref a) (.tup ds)
  | ptup {a : Addr} {o : Obj} {vs : List V} {ds : List D} : F a = some (.frz o (.tup vs)) → (o.cls = .type "tuple" ∧ o.dict = none) → EncL K CA F vs ds → Enc K CA F (.ref a) (.ptup ds)
  | lst {a : Addr} {vs : List V} {ds : List D} : F a = some (.lst vs) → EncL K CA F vs ds → Enc K CA F (.ref a) (.lst ds)
  | ins {a dx : Addr} {c : Nat} {vs : List V} {ds : List D} : F a = some (.ins (CA c) dx ((cnames c).zip vs)) → vs.length = (cnames c).length → EncL K CA F vs ds → Enc K CA F (.ref a) (.ins c ds)
inductive EncL (K : PySem.W.Frag) (CA : Nat → Addr) (F : Hp) : List V → List D → Prop where
  | nil : EncL K CA F [] []
  | cons {v : V} {d : D} {vs : List V} {ds : List D} : Enc K CA F v d → EncL K CA F vs ds → EncL K CA F (v :: vs) (d :: ds)
end

section
variable {K : PySem.W.Frag} {CA : Nat → Addr} {F F' H H' : Hp}
mutual
theorem Enc.mono (e : Same F F') : ∀ {v : V} {d : D}, Enc K CA F v d → Enc K CA F' v d
  | _, _, .non => .non
  | _, _, .bl => .bl
  | _, _, .int => .int
  | _, _, .str => .str
  | _, _, .ktup h => .ktup h
  | _, _, .tup h r => .tup (e _ _ h) (EncL.mono e r)
  | _, _, .ptup h d r => .ptup (e _ _ h) d (EncL.mono e r)
  | _, _, .lst h r => .lst (e _ _ h) (EncL.mono e r)
  | _, _, .ins h l r => .ins (e _ _ h) l (EncL.mono e r)
theorem EncL.mono (e : Same F F') : ∀ {vs : List V} {ds : List D}, EncL K CA F vs ds → EncL K CA F' vs ds
  | _, _, .nil => .nil
  | _, _, .cons r t => .cons (Enc.mono e r) (EncL.mono e t)
end
theorem EncL.len : ∀ {vs : List V} {ds : List D}, EncL K CA F vs ds → vs.length = ds.length
  | _, _, .nil => rfl
  | _, _, .cons _ t => congrArg Nat.succ (EncL.len t)
theorem EncL.get : ∀ {vs : List V} {ds : List D} {i : Nat} {d : D}, EncL K CA F vs ds → ds[i]? = some d → ∃ v, vs[i]? = some v ∧ Enc K CA F v d
  | _, _, _, _, .nil, h => by simp at h
  | _, _, 0, _, .cons r _, h => by simp at h; subst h; exact ⟨_, rfl, r⟩
  | _, _, i + 1, _, .cons _ t, h => by
    obtain ⟨v, h1, h2⟩ := EncL.get (i := i) t (by simpa using h)
    exact ⟨v, by simpa using h1, h2⟩
theorem EncL.getV : ∀ {vs : List V} {ds : List D} {i : Nat} {v : V}, EncL K CA F vs ds → vs[i]? = some v → ∃ d, ds[i]? = some d ∧ Enc K CA F v d
  | _, _, _, _, .nil, h => by simp at h
  | _, _, 0, _, .cons r _, h => by simp at h; subst h; exact ⟨_, rfl, r⟩
  | _, _, i + 1, _, .cons _ t, h => by
    obtain ⟨v, h1, h2⟩ := EncL.getV (i := i) t (by simpa using h)
    exact ⟨v, by simpa using h1, h2⟩
theorem EncL.app : ∀ {vs ws : List V} {ds es : List D}, EncL K CA F vs ds → EncL K CA F ws es → EncL K CA F (vs ++ ws) (ds ++ es)
  | _, _, _, _, .nil, s => s
  | _, _, _, _, .cons r t, s => .cons r (EncL.app t s)
theorem EncL.drop : ∀ {vs : List V} {ds : List D} (n : Nat), EncL K CA F vs ds → EncL K CA F (vs.drop n) (ds.drop n)
  | _, _, 0, h => h
  | _, _, _ + 1, .nil => .nil
  | _, _, n + 1, .cons _ t => EncL.drop n t
theorem EncL.take : ∀ {vs : List V} {ds : List D} (n : Nat), EncL K CA F vs ds → EncL K CA F (vs.take n) (ds.take n)
  | _, _, 0, _ => .nil
  | _, _, _ + 1, .nil => .nil
  | _, _, n + 1, .cons r t => .cons r (EncL.take n t)
theorem EncL.set {v : V} {d : D} (h : Enc K CA F v d) : ∀ {vs : List V} {ds : List D} (n : Nat), EncL K CA F vs ds → EncL K CA F (vs.set n v) (ds.set n d)
  | _, _, _, .nil => .nil
  | _, _, 0, .cons _ t => .cons h t
  | _, _, n + 1, .cons r t => .cons r (EncL.set h n t)
theorem EncL.rev {vs : List V} {ds : List D} (h : EncL K CA F vs ds) : EncL K CA F vs.reverse ds.reverse := by
  induction vs generalizing ds with
  | nil => cases h; exact .nil
  | cons v vs ih =>
    cases h with
    | cons r t =>
      rw [List.reverse_cons, List.reverse_cons]
      exact (ih t).app (.cons r .nil)

/-! ### the ints of data -/
def ints? : List D → Option (List Int)
  | [] => some []
  | .int i :: r => (ints? r).map (i :: ·)
  | _ :: _ => none
theorem ints_eq : ∀ {ds : List D} {is : List Int}, ints? ds = some is → ds = is.map D.int
  | [], is, h => by
    have e : is = [] := (Option.some.inj h).symm
    rw [e]; rfl
  | .int i :: r, is, h => by
    have h1 : (ints? r).map (i :: ·) = some is := h
    cases q : ints? r with
    | none => rw [q] at h1; cases h1
    | some js =>
      rw [q] at h1
      have e : is = i :: js := (Option.some.inj h1).symm
      rw [e, ints_eq q]; rfl
  | .non :: _, _, h => nomatch (show (none : Option (List Int)) = some _ from h)
  | .bl _ :: _, _, h => nomatch (show (none : Option (List Int)) = some _ from h)
  | .str _ :: _, _, h => nomatch (show (none : Option (List Int)) = some _ from h)
  | .ktup :: _, _, h => nomatch (show (none : Option (List Int)) = some _ from h)
  | .tup _ :: _, _, h => nomatch (show (none : Option (List Int)) = some _ from h)
  | .ptup _ :: _, _, h => nomatch (show (none : Option (List Int)) = some _ from h)
  | .lst _ :: _, _, h => nomatch (show (none : Option (List Int)) = some _ from h)
  | .ins _ _ :: _, _, h => nomatch (show (none : Option (List Int)) = some _ from h)
theorem ints_map : ∀ is : List Int, ints? (is.map D.int) = some is
  | [] => rfl
  | i :: r => by show (ints? (r.map D.int)).map (i :: ·) = _; rw [ints_map r]; rfl
theorem EncL.ints : ∀ {is : List Int} {vs : List V}, EncL K CA F vs (is.map D.int) → vs = is.map V.int
  | [], _, .nil => rfl
  | _ :: _, _, .cons .int t => congrArg (List.cons _) (EncL.ints t)
theorem EncL.ofInts : ∀ is : List Int, EncL K CA F (is.map V.int) (is.map D.int)
  | [] => .nil
  | _ :: r => .cons .int (EncL.ofInts r)

/-! ### from (F, H) to (F', H'): nothing that stood has changed, what is one's own stays out of F' -/
structure Ext (F H F' H' : Hp) : Prop where
  f : Same F F'
  h : Same H H'
  s : Same F' H'
  n : ∀ a u, H a = some u → F a = none → F' a = none ∨ ∃ xs, u = .tup xs
theorem Ext.refl (h : Same F H) : Ext F H F H := ⟨Same.refl F, Same.refl H, h, fun _ _ _ e => .inl e⟩
theorem Ext.trans {F1 H1 F2 H2 : Hp} (a : Ext F H F1 H1) (b : Ext F1 H1 F2 H2) : Ext F H F2 H2 :=
  ⟨a.f.trans b.f, a.h.trans b.h, b.s, fun p u e n => by
    rcases a.n p u e n with q | q
    · exact b.n p u (a.h p u e) q
    · exact .inr q⟩
/-- a new object, known to F from then on -/
theorem Ext.new {p : Addr} {o : HO} (h : Same F H) (hp : H p = none) : Ext F H (upd F p o) (upd H p o) := by
  have fp : F p = none := h.free hp
  refine ⟨fun b u e => ?_, fun b u e => ?_, fun b u e => ?_, fun a u e n => ?_⟩
  · rw [upd_ne (ne_of_none e fp)]; exact e
  · rw [upd_ne (ne_of_none e hp)]; exact e
  · by_cases q : b = p
    · subst q; rw [upd_same] at e ⊢; exact e
    · rw [upd_ne q] at e ⊢; exact h b u e
  · have np : a ≠ p := ne_of_none e hp
    rw [upd_ne np]; exact .inl n
/-- a new object, not known to F -/
theorem Ext.own {p : Addr} {o : HO} (h : Same F H) (hp : H p = none) : Ext F H F (upd H p o) := by
  refine ⟨Same.refl F, fun b u e => ?_, fun b u e => ?_, fun a u e n => .inl n⟩
  · rw [upd_ne (ne_of_none e hp)]; exact e
  · rw [upd_ne (ne_of_none (h b u e) hp)]; exact h b u e
/-- a tuple that stands becomes known -/
theorem Ext.know {p : Addr} {xs : List V} (h : Same F H) (hp : H p = some (.tup xs)) : Ext F H (upd F p (.tup xs)) H := by
  refine ⟨fun b u e => ?_, Same.refl H, fun b u e => ?_, fun a u e n => ?_⟩
  · by_cases q : b = p
    · subst q
      have := h b u e
      rw [hp] at this
      rw [upd_same, this]
    · rw [upd_ne q]; exact e
  · by_cases q : b = p
    · subst q; rw [upd_same] at e; rw [hp, e]
    · rw [upd_ne q] at e; exact h b u e
  · by_cases q : a = p
    · subst q; rw [hp] at e; exact .inr ⟨xs, (Option.some.inj e).symm⟩
    · rw [upd_ne q]; exact .inl n
end

/-! ### slots -/
inductive Sl where
  | non | val (d : D) | lst (ds : List D) | dct (kvs : List (List Int × D)) (lk : Bool) | dk (d : D) | ins (c : Nat) (ds : List D)
  deriving Inhabited
def Sl.own : Sl → Bool
  | .lst _ => true
  | .dct _ false => true
  | .dk _ => true
  | .ins _ _ => true
  | _ => false
abbrev En := List Sl

/-- a dict's pairs -/
inductive EncK (K : PySem.W.Frag) (CA : Nat → Addr) (F : Hp) : List (List Key × V) → List (List Int × D) → Prop where
  | nil : EncK K CA F [] []
  | cons {v : V} {d : D} {k : List Int} {vs : List (List Key × V)} {ds : List (List Int × D)} : Enc K CA F v d → EncK K CA F vs ds → EncK K CA F ((k.map Sum.inl, v) :: vs) ((k, d) :: ds)
theorem EncK.mono {K : PySem.W.Frag} {CA : Nat → Addr} {F F' : Hp} (e : Same F F') : ∀ {vs : List (List Key × V)} {ds : List (List Int × D)}, EncK K CA F vs ds → EncK K CA F' vs ds
  | _, _, .nil => .nil
  | _, _, .cons r t => .cons (r.mono e) (EncK.mono e t)

/-- the dict at a has one entry, its key an empty tuple of the module's own -/
def DkAt (P : Program) (w : World) (a : Addr) (b : Addr) (v : V) : HO := .ext fun h => (a == sysModules) = false ∧ ∃ (u : Value) (o : Obj) (es : Array DictEntry) (ep : Nat), RelV v u ∧ h.get? a = some o ∧ o.ExactDict ∧ o.data = .dict es ep ∧
  es.toList = [PySem.entryOfKey (PySem.tupleKind (mixKind P w)) (([] : List Key), b, u)]

structure Md where
  P : Program
  w : World
  K : PySem.W.Frag
  mg : Str → Option Value
  base : Heap
  k : Nat
  CA : Nat → Addr
  self : Addr := 0

/-- a slot's content; H0 the heap at the def's entry -/
def SlotOk (M : Md) (H0 F H : Hp) : Sl → Option V → Prop
  | .non, _ => True
  | .val d, o => ∃ v, o = some v ∧ Enc M.K M.CA F v d
  | .lst ds, o => ∃ a vs, o = some (.ref a) ∧ H0 a = none ∧ F a = none ∧ H a = some (.lst vs) ∧ EncL M.K M.CA F vs ds
  | .dct kvs false, o => ∃ a kv', o = some (.ref a) ∧ H0 a = none ∧ F a = none ∧ H a = some (.dT kv') ∧ EncK M.K M.CA F kv' kvs
  | .dct kvs true, o => ∃ a od kv', o = some (.ref a) ∧ H0 a = some (.frz od (.dT kv')) ∧ EncK M.K M.CA F kv' kvs
  | .dk d, o => ∃ a b v, o = some (.ref a) ∧ H0 a = none ∧ F a = none ∧ H a = some (DkAt M.P M.w a b v) ∧ KTup M.K b ∧ Enc M.K M.CA F v d
  | .ins c ds, o => ∃ a dx vs, o = some (.ref a) ∧ H0 a = none ∧ F a = none ∧ H a = some (.ins (M.CA c) dx ((cnames c).zip vs)) ∧ vs.length ≤ (cnames c).length ∧ EncL M.K M.CA F vs ds ∧ a = M.self

structure SOk (M : Md) (F0 H0 F H : Hp) (env : En) (σ : L2.St) : Prop where
  x : Ext F0 H0 F H
  len : σ.length = env.length
  sl : ∀ (i : Nat) (s : Sl) (o : Option V), env[i]? = some s → σ[i]? = some o → SlotOk M H0 F H s o
  ap : ∀ (i j : Nat) (s t : Sl) (a : Addr), i ≠ j → env[i]? = some s → env[j]? = some t → s.own = true → t.own = true → σ[i]? = some (some (.ref a)) → σ[j]? = some (some (.ref a)) → False

section
variable {M : Md} {F0 H0 F H F' H' : Hp} {env : En} {σ : L2.St}
theorem SlotOk.step {s : Sl} {o : Option V} (h : SlotOk M H0 F H s o) (e : Ext F H F' H') : SlotOk M H0 F' H' s o := by
  have own : ∀ {a u}, H a = some u → F a = none → (∀ xs, u ≠ .tup xs) → F' a = none := fun h1 h2 h3 => by
    rcases e.n _ _ h1 h2 with q | ⟨xs, q⟩
    · exact q
    · exact absurd q (h3 xs)
  cases s with
  | non => trivial
  | val d => obtain ⟨v, h1, h2⟩ := h; exact ⟨v, h1, h2.mono e.f⟩
  | lst ds =>
    obtain ⟨a, vs, h1, h2, h3, h4, h5⟩ := h
    exact ⟨a, vs, h1, h2, own h4 h3 (fun _ q => nomatch q), e.h _ _ h4, h5.mono e.f⟩
  | dct kvs lk =>
    cases lk with
    | false =>
      obtain ⟨a, kv', h1, h2, h3, h4, h5⟩ := h
      exact ⟨a, kv', h1, h2, own h4 h3 (fun _ q => nomatch q), e.h _ _ h4, h5.mono e.f⟩
    | true =>
      obtain ⟨a, od, kv', h1, h2, h5⟩ := h
      exact ⟨a, od, kv', h1, h2, h5.mono e.f⟩
  | dk d =>
    obtain ⟨a, b, v, h1, h2, h3, h4, h5, h6⟩ := h
    exact ⟨a, b, v, h1, h2, own h4 h3 (fun _ q => nomatch q), e.h _ _ h4, h5, h6.mono e.f⟩
  | ins c ds =>
    obtain ⟨a, dx, vs, h1, h2, h3, h4, h5, h6, h7⟩ := h
    exact ⟨a, dx, vs, h1, h2, own h4 h3 (fun _ q => nomatch q), e.h _ _ h4, h5, h6.mono e.f, h7⟩
theorem SOk.step (h : SOk M F0 H0 F H env σ) (e : Ext F H F' H') : SOk M F0 H0 F' H' env σ :=
  ⟨h.x.trans e, h.len, fun i s o h1 h2 => (h.sl i s o h1 h2).step e, h.ap⟩
theorem SOk.fh (h : SOk M F0 H0 F H env σ) : Same F H := h.x.s
theorem SOk.at (h : SOk M F0 H0 F H env σ) {i : Nat} {s : Sl} (e : env[i]? = some s) : ∃ o, σ[i]? = some o ∧ SlotOk M H0 F H s o := by
  have hi : i < σ.length := by rw [h.len]; exact (List.getElem?_eq_some_iff.mp e).1
  exact ⟨σ[i], by simp [hi], h.sl i s _ e (by simp [hi])⟩
theorem SOk.val (h : SOk M F0 H0 F H env σ) {i : Nat} {d : D} (e : env[i]? = some (.val d)) : ∃ v, σ[i]? = some (some v) ∧ Enc M.K M.CA F v d := by
  obtain ⟨o, h1, v, h2, h3⟩ := h.at e
  exact ⟨v, by rw [h1, h2], h3⟩
/-- a slot takes a value -/
theorem SOk.set (h : SOk M F0 H0 F H env σ) {i : Nat} {v : V} {d : D} (e : Enc M.K M.CA F v d) : SOk M F0 H0 F H (env.set i (.val d)) (σ.set i (some v)) := by
  refine ⟨h.x, by rw [List.length_set, List.length_set, h.len], fun j s o h1 h2 => ?_, fun j l s t a hn h1 h2 o1 o2 h3 h4 => ?_⟩
  · by_cases q : i = j
    · subst q
      rw [List.getElem?_set_self'] at h1 h2
      cases q1 : env[i]? with
      | none => rw [q1] at h1; cases h1
      | some z =>
        rw [q1] at h1
        have e1 : s = .val d := (Option.some.inj h1).symm
        subst e1
        cases q2 : σ[i]? with
        | none => rw [q2] at h2; cases h2
        | some z2 =>
          rw [q2] at h2
          have e2 : o = some v := (Option.some.inj h2).symm
          subst e2
          exact ⟨v, rfl, e⟩
    · rw [List.getElem?_set_ne q] at h1 h2
      exact h.sl j s o h1 h2
  · have f : ∀ {j : Nat} {s : Sl}, (env.set i (.val d))[j]? = some s → s.own = true → i ≠ j := fun {j s} h1 o1 q => by
      subst q
      rw [List.getElem?_set_self'] at h1
      cases q1 : env[i]? with
      | none => rw [q1] at h1; cases h1
      | some z =>
        rw [q1] at h1
        have e1 : s = .val d := (Option.some.inj h1).symm
        subst e1
        cases o1
    have n1 := f h1 o1
    have n2 := f h2 o2
    rw [List.getElem?_set_ne n1] at h1 h3
    rw [List.getElem?_set_ne n2] at h2 h4
    exact h.ap j l s t a hn h1 h2 o1 o2 h3 h4
end
end FB

set_option Elab.async false
set_option linter.all false
set_option maxRecDepth 100000
set_option maxHeartbeats 1000000
/-! FBi: the small language, its value. -/
namespace FB
open PySem L2

/-- operations on values -/
inductive Bi where
  | add | sub | mul | neg | fdiv | lt | le | gt | ge | eq | ne | inS | notInS | inT | notInT
  | len | sum | min2 | min3 | max2 | maxL | tupOf | ptupOf | lstOf | sorted | sortedR | intOf | gcd | ix | sl (lo hi : Bool) | rev
  | isInt | isBool | isTuple | isStr | isSeq | isC (c : Nat) | zipL | indexT | tupD | lstD | absI | modI | powI
  deriving DecidableEq

/-- the functions -/
inductive Fn where
  | is_integer | ratio | r_add | r_sub | r_mul | r_eq | r_over | r_is_zero | zero | is_partition | size | partitions_below | partitions
  | part_at | turned | holds | trimmed | rows | with_strip | joined | count_fillings | spreads | count_matrices | zero_one_matrices | whole_matrices
  | mergings | entry | check | monomial_row | combined | forward | backward | fillings_table | from_monomials | converted | as_ratio | check_part
  | added_parts | symmetric | s_add | s_multiple | s_degree | s_is_zero | s_part_of | one | in_base | check_degree | multiplied | put
  | law_partitions | law_list | law_power | law_monomials | law_smaller | law_schur | law_value | law_at | law_monomial_list
  deriving DecidableEq

/-- a target: a name, a pair of names -/
inductive Tg where
  | nm (i : Nat) | pr (i j : Nat)

inductive IE where
  | var (i : Nat) | cst (d : D) | nil | cons (a r : IE)
  | bi (b : Bi) (args : IE) | call (f : Fn) (args : IE)
  | not (a : IE) | and (a b : IE) | or (a b : IE) | ite (c a b : IE) | chain (p q : Bi) (a b c : IE)
  | fld (c j : Nat) (a : IE)
  | ixO (i : Nat) (a : IE) | dget (i : Nat) (a : IE) | dget2 (i : Nat) (a b : IE) | din (neg : Bool) (a : IE) (i : Nat) | sortD (i : Nat)
  | lc (k : Nat) (arg : IE) (tg : Tg) (test elt : IE) (vs : List Nat)

inductive IS where
  | skip | seq (a b : IS) | asg (i : Nat) (e : IE) | newL (i : Nat) (e : IE) | newD (i : Nat) | newD1 (i : Nat) (k v : IE) | newDk (i : Nat) (k v : IE) | movD (i j : Nat) | cpyD (i j : Nat)
  | app (i : Nat) (e : IE) | ext (i : Nat) (e : IE) | setL (i : Nat) (a e : IE) | setD (i : Nat) (a e : IE) | frz (i : Nat)
  | forE (k : Nat) (arg : IE) (tg : Tg) (body : IS) | ite (c : IE) (a b : IS) | ret (e : IE) | exp (e : IE) | fld (c j : Nat) (e : IE) | fail

/-! ### values -/
def D.isInts : D → Option (List Int)
  | .tup ds => ints? ds
  | .ktup => some []
  | .lst ds => ints? ds
  | _ => none
/-- equality of data: ints, texts, tuples of ints -/
def eqD : D → D → Option Bool
  | .int i, .int j => some (decide (i = j))
  | .str x, .str y => some (decide (x = y))
  | .tup a, .tup b => match ints? a, ints? b with
    | some i, some j => some (decide (i = j))
    | _, _ => none
  | _, _ => none
/-- an int that the machine multiplies and divides without asking -/
def small (i : Int) : Bool := Nat.blt i.natAbs (2 ^ 4000)
def insA (x : Int) : List Int → List Int
  | [] => [x]
  | y :: r => if x ≤ y then x :: y :: r else y :: insA x r
def sortA : List Int → List Int
  | [] => []
  | x :: r => insA x (sortA r)
def maxI : List Int → Option Int
  | [] => none
  | [x] => some x
  | x :: r => (maxI r).map fun m => if m > x then m else x
def strs? : List D → Option (List Str)
  | [] => some []
  | .str i :: r => (strs? r).map (i :: ·)
  | _ :: _ => none
def items? : D → Option (List D)
  | .tup ds => some ds
  | .lst ds => some ds
  | .ktup => some []
  | .ptup ds => some ds
  | _ => none
def zipD : List D → List D → List D
  | a :: r, b :: s => .tup [a, b] :: zipD r s
  | _, _ => []
/-- tuples of ints -/
def tups? : List D → Option (List (List Int))
  | [] => some []
  | .tup d :: r => match ints? d, tups? r with
    | some a, some b => some (a :: b)
    | _, _ => none
  | _ :: _ => none
/-- the first place of k -/
def findL (k : List Int) : List (List Int) → Nat → Option Nat
  | [], _ => none
  | j :: r, i => if j = k then some i else findL k r (i + 1)
def bival : Bi → List D → Option D
  | .add, [.int i, .int j] => some (.int (i + j))
  | .add, [.tup a, .tup b] => if (a.length + b.length).ble 10000 then some (.tup (a ++ b)) else none
  | .add, [.lst a, .lst b] => if (a.length + b.length).ble 10000 then some (.lst (a ++ b)) else none
  | .sub, [.int i, .int j] => some (.int (i - j))
  | .mul, [.int i, .int j] => if small i && small j then some (.int (i * j)) else none
  | .neg, [.int i] => some (.int (-i))
  | .fdiv, [.int i, .int j] => if small j && decide (0 < j) then some (.int (i / j)) else none
  | .lt, [.int i, .int j] => some (.bl (decide (i < j)))
  | .le, [.int i, .int j] => some (.bl (decide (i ≤ j)))
  | .gt, [.int i, .int j] => some (.bl (decide (j < i)))
  | .ge, [.int i, .int j] => some (.bl (decide (j ≤ i)))
  | .eq, [a, b] => (eqD a b).map .bl
  | .ne, [a, b] => (eqD a b).map fun c => .bl (!c)
  | .inT, [.str x, .tup l] => (strs? l).map fun s => .bl (s.any fun y => decide (y = x))
  | .notInT, [.str x, .tup l] => (strs? l).map fun s => .bl (!(s.any fun y => decide (y = x)))
  | .inS, [.str x, .str y] => some (.bl (!(Builtin.Str.occurrences y x 0 y.length 1).isEmpty))
  | .notInS, [.str x, .str y] => some (.bl (!(!(Builtin.Str.occurrences y x 0 y.length 1).isEmpty)))
  | .len, [.str x] => if x.length.ble 10000 then some (.int x.length) else none
  | .len, [a] => (items? a).map fun ds => .int ds.length
  | .sum, [a] => a.isInts.map fun l => .int l.sum
  | .min2, [.int i, .int j] => some (.int (if j < i then j else i))
  | .min3, [.int i, .int j, .int l] => some (.int (if l < (if j < i then j else i) then l else (if j < i then j else i)))
  | .max2, [.int i, .int j] => some (.int (if j > i then j else i))
  | .maxL, [.lst l] => (ints? l).bind fun is => (maxI is).map .int
  | .tupOf, [.lst l] => some (.tup l)
  | .ptupOf, [.lst l] => some (.ptup l)
  | .tupOf, [.tup l] => some (.tup l)
  | .lstOf, [a] => (items? a).map .lst
  | .sorted, [a] => a.isInts.map fun l => .lst ((sortA l).map .int)
  | .sortedR, [a] => a.isInts.map fun l => .lst ((sortA l).reverse.map .int)
  | .intOf, [.bl b] => some (.int (if b then 1 else 0))
  | .gcd, [.int i, .int j] => if small i && small j then some (.int (Int.gcd i j : Nat)) else none
  | .ix, [.str x, .int i] => if x.length.ble 10000 then (atI x.cps.toList i).map fun c => .str ⟨#[c]⟩ else none
  | .ix, [.tup l, .int i] => atI l i
  | .ix, [.lst l, .int i] => atI l i
  | .sl true true, [.tup l, .int i, .int j] => some (.tup ((l.drop (HT.sIx l.length 0 (some i))).take (HT.sIx l.length l.length (some j) - HT.sIx l.length 0 (some i))))
  | .sl true false, [.tup l, .int i] => some (.tup ((l.drop (HT.sIx l.length 0 (some i))).take (HT.sIx l.length l.length none - HT.sIx l.length 0 (some i))))
  | .sl false true, [.tup l, .int j] => some (.tup ((l.drop (HT.sIx l.length 0 none)).take (HT.sIx l.length l.length (some j) - HT.sIx l.length 0 none)))
  | .sl true false, [.lst l, .int i] => some (.lst ((l.drop (HT.sIx l.length 0 (some i))).take (HT.sIx l.length l.length none - HT.sIx l.length 0 (some i))))
  | .sl false true, [.lst l, .int j] => some (.lst ((l.drop (HT.sIx l.length 0 none)).take (HT.sIx l.length l.length (some j) - HT.sIx l.length 0 none)))
  | .rev, [.tup l] => some (.tup l.reverse)
  | .isInt, [.int _] => some (.bl true)
  | .isInt, [.tup _] => some (.bl false)
  | .isBool, [.int _] => some (.bl false)
  | .isTuple, [.tup _] => some (.bl true)
  | .isTuple, [.int _] => some (.bl false)
  | .isStr, [.str _] => some (.bl true)
  | .isSeq, [.lst _] => some (.bl true)
  | .isSeq, [.tup _] => some (.bl true)
  | .isC c, [.ins e _] => if c = e then some (.bl true) else none
  | .isC _, [.int _] => some (.bl false)
  | .zipL, [.ptup a, .tup b] => if a.length = b.length ∧ 0 < a.length then some (.lst (zipD a b)) else none
  | .indexT, [.ptup l, .tup k] => (ints? k).bind fun k => (tups? l).bind fun l => (findL k l 0).map fun (n : Nat) => .int n
  | .tupD, ds => if ds.length.ble 10000 then some (.tup ds) else none
  | .lstD, ds => if ds.length.ble 10000 then some (.lst ds) else none
  | _, _ => none

def tgSet : Tg → D → En → Option En
  | .nm i, d, env => some (env.set i (.val d))
  | .pr i j, .tup [x, y], env => some ((env.set i (.val x)).set j (.val y))
  | _, _, _ => none
def wipeE (env : En) : List Nat → En
  | [] => env
  | v :: vs => (wipeE env vs).set v .non
/-- the turns of a comprehension -/
def lcGo (fT fE : En → Option D) (tg : Tg) (env : En) : List D → Option (List D)
  | [] => some []
  | x :: r => match tgSet tg x env with
    | some e1 => match fT e1 with
      | some (.bl true) => match fE e1 with
        | some y => match lcGo fT fE tg env r with
          | some ys => some (y :: ys)
          | none => none
        | none => none
      | some (.bl false) => lcGo fT fE tg env r
      | _ => none
    | none => none
def okR (i : Int) : Bool := decide (-(2 ^ 62) ≤ i) && decide (i < 2 ^ 62)
/-- what is walked: 0 a list or tuple, 1 range(n), 2 range(a, b), 3 range(a, b, -1) -/
def walked : Nat → D → Option (List D)
  | 0, .lst ds => some ds
  | 0, .tup ds => some ds
  | 0, .ptup ds => some ds
  | 1, .tup [.int n] => if okR n then some ((List.range n.toNat).map fun (i : Nat) => .int (0 + (i : Int))) else none
  | 2, .tup [.int a, .int b] => if okR a && okR b then some ((List.range (b - a).toNat).map fun (i : Nat) => .int (a + (i : Int))) else none
  | 3, .tup [.int a, .int b] => if okR a && okR b then some ((List.range (a - b).toNat).map fun (i : Nat) => .int (a + (i : Int) * (-1))) else none
  | _, _ => none
def lookK (kvs : List (List Int × D)) (k : List Int) : Option D := (kvs.find? fun kv => decide (kv.1 = k)).map (·.2)
def putD (kvs : List (List Int × D)) (k : List Int) (v : D) : List (List Int × D) :=
  if kvs.any (fun kv => decide (kv.1 = k)) then kvs.map (fun kv => if kv.1 = k then (kv.1, v) else kv) else kvs ++ [(k, v)]
/-- a tuple's hash -/
def hashT (k : List Int) : Int := reduceHash (Builtin.Tuple.tupleHashOf (k.map hashInt))
def distinct : List Int → Bool
  | [] => true
  | x :: r => !(r.any fun y => decide (x = y)) && distinct r
/-- lexicographic order -/
def insK (x : List Int) : List (List Int) → List (List Int)
  | [] => [x]
  | y :: r => if HT.lexLt y x then y :: insK x r else x :: y :: r
def sortK : List (List Int) → List (List Int)
  | [] => []
  | x :: r => insK x (sortK r)

section
variable (Φ : Fn → List D → Option D)
def evalE : IE → En → Option D
  | .var i, env => match env[i]? with
    | some (.val d) => some d
    | _ => none
  | .cst d, _ => some d
  | .nil, _ => some (.tup [])
  | .cons a r, env => match evalE a env with
    | some d => match evalE r env with
      | some (.tup ds) => some (.tup (d :: ds))
      | _ => none
    | none => none
  | .bi b args, env => match evalE args env with
    | some (.tup ds) => bival b ds
    | _ => none
  | .call f args, env => match evalE args env with
    | some (.tup ds) => Φ f ds
    | _ => none
  | .not a, env => match evalE a env with
    | some (.bl b) => some (.bl (!b))
    | _ => none
  | .and a b, env => match evalE a env with
    | some (.bl true) => match evalE b env with
      | some (.bl c) => some (.bl c)
      | _ => none
    | some (.bl false) => some (.bl false)
    | _ => none
  | .or a b, env => match evalE a env with
    | some (.bl false) => match evalE b env with
      | some (.bl c) => some (.bl c)
      | _ => none
    | some (.bl true) => some (.bl true)
    | _ => none
  | .ite c a b, env => match evalE c env with
    | some (.bl true) => evalE a env
    | some (.bl false) => evalE b env
    | _ => none
  | .chain p q a b c, env => match evalE a env with
    | some x => match evalE b env with
      | some y => match bival p [x, y] with
        | some (.bl true) => match evalE c env with
          | some z => bival q [y, z]
          | none => none
        | some (.bl false) => some (.bl false)
        | _ => none
      | none => none
    | none => none
  | .fld c j a, env => match evalE a env with
    | some (.ins e fs) => if c = e then fs[j]? else none
    | _ => none
  | .ixO i a, env => match env[i]?, evalE a env with
    | some (.lst ds), some (.int n) => atI ds n
    | _, _ => none
  | .dget i a, env => match env[i]?, evalE a env with
    | some (.dct kvs _), some (.tup k) => (ints? k).bind fun k => lookK kvs k
    | some (.dk v), some .ktup => some v
    | _, _ => none
  | .dget2 i a b, env => match env[i]?, evalE a env, evalE b env with
    | some (.dct kvs _), some (.tup k), some x => (ints? k).bind fun k => some ((lookK kvs k).getD x)
    | some (.dk v), some (.tup []), some _ => some v
    | _, _, _ => none
  | .din neg a i, env => match env[i]?, evalE a env with
    | some (.dct kvs _), some (.tup k) => (ints? k).bind fun k => some (.bl (if neg then !(lookK kvs k).isSome else (lookK kvs k).isSome))
    | _, _ => none
  | .sortD i, env => match env[i]? with
    | some (.dct kvs false) => if (kvs.length).ble 63 && kvs.all (fun kv => !kv.1.isEmpty) then some (.lst ((sortK (kvs.map (·.1))).map fun k => .tup (k.map .int))) else none
    | some (.dk _) => some (.lst [.ktup])
    | _ => none
  | .lc k arg tg test elt vs, env => match k with
    | 4 => match arg with
      | .var i => match env[i]? with
        | some (.dct kvs false) => match lcGo (evalE test) (evalE elt) tg (wipeE (env.set i (.dct kvs true)) vs) (kvs.map fun kv => .tup (kv.1.map .int)) with
          | some ys => if kvs.length.ble 10000 then some (.lst ys) else none
          | none => none
        | _ => none
      | _ => none
    | _ => match evalE arg env with
      | some x => match walked k x with
        | some ds => match lcGo (evalE test) (evalE elt) tg (wipeE env vs) ds with
          | some ys => if ds.length.ble 10000 then some (.lst ys) else none
          | none => none
        | none => none
      | none => none

/-- the dicts that were walked are forgotten -/
def clr1 : Sl → Sl
  | .dct _ true => .non
  | s => s
def clr (e : En) : En := e.map clr1
/-- what a statement comes to -/
inductive Fl where
  | nx (e : En) | rt (d : D)
def forGo (body : En → Option Fl) (tg : Tg) : List D → En → Option Fl
  | [], env => some (.nx env)
  | x :: r, env => match tgSet tg x env with
    | some e1 => match body e1 with
      | some (.nx e2) => forGo body tg r e2
      | some (.rt d) => some (.rt d)
      | none => none
    | none => none
def evalS : IS → En → Option Fl
  | .skip, env => some (.nx env)
  | .seq a b, env => match evalS a env with
    | some (.nx e) => evalS b e
    | some (.rt d) => some (.rt d)
    | none => none
  | .asg i e, env => (evalE Φ e env).map fun d => .nx (env.set i (.val d))
  | .newL i e, env => match evalE Φ e env with
    | some (.lst ds) => some (.nx (env.set i (.lst ds)))
    | _ => none
  | .newD i, env => some (.nx (env.set i (.dct [] false)))
  | .newD1 i k v, env => match evalE Φ k env, evalE Φ v env with
    | some (.tup k), some x => (ints? k).bind fun k => some (.nx (env.set i (.dct [(k, x)] false)))
    | _, _ => none
  | .newDk i k v, env => match evalE Φ k env, evalE Φ v env with
    | some .ktup, some x => some (.nx (env.set i (.dk x)))
    | _, _ => none
  | .movD i j, env => match env[j]? with
    | some (.dct kvs false) => if i = j then none else some (.nx ((env.set j .non).set i (.dct kvs false)))
    | _ => none
  | .cpyD i j, env => match env[j]? with
    | some (.dct kvs false) => if kvs.length.ble 10000 && distinct (kvs.map fun kv => hashT kv.1) then some (.nx (env.set i (.dct kvs false))) else none
    | _ => none
  | .app i e, env => match env[i]?, evalE Φ e env with
    | some (.lst ds), some d => if ds.length.ble 10000 then some (.nx (env.set i (.lst (ds ++ [d])))) else none
    | _, _ => none
  | .ext i e, env => match env[i]?, evalE Φ e env with
    | some (.lst ds), some (.lst es) => if (ds.length + es.length).ble 10000 then some (.nx (env.set i (.lst (ds ++ es)))) else none
    | _, _ => none
  | .setL i a e, env => match env[i]?, evalE Φ a env, evalE Φ e env with
    | some (.lst ds), some (.int n), some d => (ixN ds.length n).map fun j => .nx (env.set i (.lst (ds.set j d)))
    | _, _, _ => none
  | .setD i a e, env => match env[i]?, evalE Φ a env, evalE Φ e env with
    | some (.dct kvs false), some (.tup k), some d => (ints? k).bind fun k => if kvs.length.ble 10000 then some (.nx (env.set i (.dct (putD kvs k d) false))) else none
    | _, _, _ => none
  | .frz i, env => match env[i]? with
    | some (.lst ds) => some (.nx (env.set i (.val (.lst ds))))
    | _ => none
  | .forE k arg tg body, env => match k with
    | 4 => match arg with
      | .var i => match env[i]? with
        | some (.dct kvs false) => match forGo (evalS body) tg (kvs.map fun kv => .tup (kv.1.map .int)) (env.set i (.dct kvs true)) with
          | some (.nx e) => some (.nx (clr e))
          | r => r
        | _ => none
      | _ => none
    | _ => match evalE Φ arg env with
      | some x => match walked k x with
        | some ds => forGo (evalS body) tg ds env
        | none => none
      | none => none
  | .ite c a b, env => match evalE Φ c env with
    | some (.bl true) => evalS a env
    | some (.bl false) => evalS b env
    | _ => none
  | .ret e, env => (evalE Φ e env).map .rt
  | .exp e, env => match evalE Φ e env with
    | some _ => some (.nx env)
    | none => none
  | .fld c j e, env => match env.head?, evalE Φ e env with
    | some (.ins k fs), some d => if k = c && fs.length == j && Nat.blt j (cnames c).length then some (.nx (env.set 0 (.ins c (fs ++ [d])))) else none
    | _, _ => none
  | .fail, _ => none
end
end FB

set_option Elab.async false
set_option linter.all false
set_option maxRecDepth 100000
set_option maxHeartbeats 1000000
/-! FBs: what it means that the small language tells the truth; names, control. -/
namespace FB
open PySem L2

theorem PE.imp {X : Cx} {e : Expr} {t t' : TE} (h : PE X e t) (i : ∀ σ H Q, t' σ H Q → t σ H Q) : PE X e t' := ⟨fun pins s σ H Q I w => h.run pins s σ H Q I (i σ H Q w)⟩
theorem PT.imp {X : Cx} {e : Expr} {t t' : TT} (h : PT X e t) (i : ∀ σ H Q, t' σ H Q → t σ H Q) : PT X e t' := ⟨fun pins s σ H Q I w => h.run pins s σ H Q I (i σ H Q w)⟩
theorem PW.imp {X : Cx} {e : Expr} {t t' : TT} (h : PW X e t) (i : ∀ σ H Q, t' σ H Q → t σ H Q) : PW X e t' := ⟨fun wh pins s σ H Q I w => h.run wh pins s σ H Q I (i σ H Q w)⟩
theorem PA.imp {X : Cx} {es : List Expr} {t t' : TA} (h : PA X es t) (i : ∀ σ H Q, t' σ H Q → t σ H Q) : PA X es t' := ⟨fun pos pins s σ H Q I w => h.run pos pins s σ H Q I (i σ H Q w)⟩
theorem PS.imp {X : Cx} {st : Stmt} {t t' : TS} (h : PS X st t) (i : ∀ D σ H, t' D σ H → t D σ H) : PS X st t' := ⟨fun pins s σ H D I w => h.run pins s σ H D I (i D σ H w)⟩
theorem PSs.imp {X : Cx} {st : List Stmt} {t t' : TS} (h : PSs X st t) (i : ∀ D σ H, t' D σ H → t D σ H) : PSs X st t' := ⟨fun pins s σ H D I w => h.run pins s σ H D I (i D σ H w)⟩
theorem PI.imp {X : Cx} {tg e : Expr} {t t' : TI} (h : PI X tg e t) (i : ∀ σ H R, t' σ H R → t σ H R) : PI X tg e t' := ⟨fun pins s σ H R I w => h.run pins s σ H R I (i σ H R w)⟩
theorem PI.or {X : Cx} {tg e : Expr} {t t' : TI} (h : PI X tg e t) (h' : PI X tg e t') : PI X tg e (fun σ H R => t σ H R ∨ t' σ H R) := ⟨fun pins s σ H R I w => w.elim (h.run pins s σ H R I) (h'.run pins s σ H R I)⟩
theorem PE.or {X : Cx} {e : Expr} {t t' : TE} (h : PE X e t) (h' : PE X e t') : PE X e (fun σ H Q => t σ H Q ∨ t' σ H Q) := ⟨fun pins s σ H Q I w => w.elim (h.run pins s σ H Q I) (h'.run pins s σ H Q I)⟩

/-- where one stands: sc the scope that is read, sc0 the one that is stored to -/
structure XOk (M : Md) (N : List Str) (sc sc0 : Scope) (X : Cx) : Prop where
  prog : X.prog = M.P
  w : X.w = M.w
  K : X.K = M.K
  mg : X.mg = M.mg
  base : X.base = M.base
  N : X.N = N
  sc : X.env.scope = sc
  calm : X.calm = true
  room : Room M.k X.A
  fn : ∀ x, sc0.names.lookup x = some .cell → X.fn x = true

variable {M : Md} {Φ : Fn → List D → Option D} {N : List Str} {sc sc0 : Scope}

abbrev EncM (M : Md) (F : Hp) : V → D → Prop := Enc M.K M.CA F
abbrev EncLM (M : Md) (F : Hp) : List V → List D → Prop := EncL M.K M.CA F

/-! ### readings -/
def tE (M : Md) (Φ : Fn → List D → Option D) (ie : IE) : TE := fun σ H Q => ∃ F0 H0 F env d, evalE Φ ie env = some d ∧ SOk M F0 H0 F H env σ ∧ ∀ v F' H', Ext F H F' H' → EncM M F' v d → Q v H'
/-- a new list -/
def tL (M : Md) (Φ : Fn → List D → Option D) (ie : IE) : TE := fun σ H Q => ∃ F0 H0 F env ds, evalE Φ ie env = some (.lst ds) ∧ SOk M F0 H0 F H env σ ∧
  ∀ p vs F' H', Ext F H F' H' → H p = none → F' p = none → H' p = some (.lst vs) → EncLM M F' vs ds → Q (.ref p) H'
def tT (M : Md) (Φ : Fn → List D → Option D) (ie : IE) : TT := fun σ H Q => ∃ F0 H0 F env b, evalE Φ ie env = some (.bl b) ∧ SOk M F0 H0 F H env σ ∧ ∀ F' H', Ext F H F' H' → Q b H'
def tAr (M : Md) (Φ : Fn → List D → Option D) (ie : IE) : TA := fun σ H Q => ∃ F0 H0 F env ds, evalE Φ ie env = some (.tup ds) ∧ SOk M F0 H0 F H env σ ∧ ∀ vs F' H', Ext F H F' H' → EncLM M F' vs ds → Q vs H'
/-- a walk of the data ds, whatever happens to what is not in F -/
def ItD (M : Md) (J : It) (F : Hp) (ds : List D) : Prop := ∀ F' H', Same F F' → Same F' H' → ∀ i,
  (i < ds.length → J.go i H' ∧ ∀ x H'', J.yld i H' x H'' → H'' = H' ∧ ∃ d F'', ds[i]? = some d ∧ Ext F' H' F'' H' ∧ EncM M F'' x d) ∧ (ds.length ≤ i → J.stop i H')
def tI (M : Md) (Φ : Fn → List D → Option D) (k : Nat) (ie : IE) : TI := fun σ H R => ∃ F0 H0 F env x ds, evalE Φ ie env = some x ∧ walked k x = some ds ∧ SOk M F0 H0 F H env σ ∧ ∀ J F' H', Ext F H F' H' → ItD M J F' ds → R J H'
/-- a target's reading -/
def gTg (K : PySem.W.Frag) : Tg → TG
  | .nm i => gName i
  | .pr i j => gTup K 2 (gCons (gName i) (gCons (gName j) gNil))
def FlOk (M : Md) (F0 H0 : Hp) (Dn : Ends) : Fl → Prop
  | .nx env' => ∀ σ' F' H', SOk M F0 H0 F' H' env' σ' → Dn.nx σ' H'
  | .rt d => ∀ v F' H', Ext F0 H0 F' H' → EncM M F' v d → Dn.rt v H'
def tSt (M : Md) (Φ : Fn → List D → Option D) (is : IS) : TS := fun Dn σ H => ∃ F0 H0 F env r, evalS Φ is env = some r ∧ SOk M F0 H0 F H env σ ∧ FlOk M F0 H0 Dn r

/-! ### judgements -/
def SndE (M : Md) (Φ : Fn → List D → Option D) (N : List Str) (sc sc0 : Scope) (e : Expr) (ie : IE) : Prop := ∀ X, XOk M N sc sc0 X → PE X e (tE M Φ ie)
def SndL (M : Md) (Φ : Fn → List D → Option D) (N : List Str) (sc sc0 : Scope) (e : Expr) (ie : IE) : Prop := ∀ X, XOk M N sc sc0 X → PE X e (tL M Φ ie)
def SndT (M : Md) (Φ : Fn → List D → Option D) (N : List Str) (sc sc0 : Scope) (e : Expr) (ie : IE) : Prop := ∀ X, XOk M N sc sc0 X → PT X e (tT M Φ ie)
def SndW (M : Md) (Φ : Fn → List D → Option D) (N : List Str) (sc sc0 : Scope) (e : Expr) (ie : IE) : Prop := ∀ X, XOk M N sc sc0 X → PW X e (tT M Φ ie)
def SndA (M : Md) (Φ : Fn → List D → Option D) (N : List Str) (sc sc0 : Scope) (es : List Expr) (ie : IE) : Prop := ∀ X, XOk M N sc sc0 X → PA X es (tAr M Φ ie)
def SndI (M : Md) (Φ : Fn → List D → Option D) (N : List Str) (sc sc0 : Scope) (tg e : Expr) (k : Nat) (ie : IE) : Prop := ∀ X, XOk M N sc sc0 X → PI X tg e (tI M Φ k ie)
def SndG (M : Md) (N : List Str) (sc sc0 : Scope) (e : Expr) (tg : Tg) : Prop := ∀ X, XOk M N sc sc0 X → PG X e (gTg M.K tg)
def SndS (M : Md) (Φ : Fn → List D → Option D) (N : List Str) (sc sc0 : Scope) (st : Stmt) (is : IS) : Prop := ∀ X, XOk M N sc sc0 X → PassesOwn (model X.prog X.w) X.A X.env X.xe → PS X st (tSt M Φ is)
def SndB (M : Md) (Φ : Fn → List D → Option D) (N : List Str) (sc sc0 : Scope) (st : List Stmt) (is : IS) : Prop := ∀ X, XOk M N sc sc0 X → PassesOwn (model X.prog X.w) X.A X.env X.xe → PSs X st (tSt M Φ is)

/-! ### evaluation, opened -/
theorem ev_cons {a r : IE} {env : En} {d : D} (h : evalE Φ (.cons a r) env = some d) : ∃ x ds, evalE Φ a env = some x ∧ evalE Φ r env = some (.tup ds) ∧ d = .tup (x :: ds) := by
  unfold evalE at h
  cases q : evalE Φ a env with
  | none => rw [q] at h; cases h
  | some x =>
    rw [q] at h
    simp only at h
    split at h
    · rename_i ds q2
      exact ⟨x, ds, rfl, q2, (Option.some.inj h).symm⟩
    · cases h
theorem ev_cons2 {a b : IE} {env : En} {d : D} (h : evalE Φ (.cons a (.cons b .nil)) env = some d) : ∃ x y, evalE Φ a env = some x ∧ evalE Φ b env = some y ∧ d = .tup [x, y] := by
  obtain ⟨x, ds, h1, h2, e⟩ := ev_cons h
  obtain ⟨y, es, h3, h4, e2⟩ := ev_cons h2
  have e3 : es = [] := by
    unfold evalE at h4
    injection h4 with h5
    injection h5 with h6
    exact h6.symm
  injection e2 with e2
  exact ⟨x, y, h1, h3, by rw [e, e2, e3]⟩
theorem ev_bi {b : Bi} {args : IE} {env : En} {d : D} (h : evalE Φ (.bi b args) env = some d) : ∃ ds, evalE Φ args env = some (.tup ds) ∧ bival b ds = some d := by
  unfold evalE at h
  split at h
  · rename_i ds q
    exact ⟨ds, q, h⟩
  · cases h
theorem ev_call {f : Fn} {args : IE} {env : En} {d : D} (h : evalE Φ (.call f args) env = some d) : ∃ ds, evalE Φ args env = some (.tup ds) ∧ Φ f ds = some d := by
  unfold evalE at h
  split at h
  · rename_i ds q
    exact ⟨ds, q, h⟩
  · cases h

/-! ### names, constants -/
theorem vis_of {X : Cx} (hX : XOk M N sc sc0 X) {x : Str} (h : Vis sc x) : Vis X.env.scope x := by rw [hX.sc]; exact h
theorem sn_var {i : Nat} {x : Str} {pos : Pos} (hN : N[i]? = some x := by rfl) (hv : Vis sc x := by first | exact Or.inl rfl | exact Or.inr (Or.inl rfl) | exact Or.inr (Or.inr rfl)) (hd : (x == ("__debug__" : Str)) = false := by decide)
    (hcd : (x == ("__classdict__" : Str)) = false := by decide) : SndE M Φ N sc sc0 (.Name x pos) (.var i) := fun X hX => by
  refine PE.imp (pe_var (i := i) (by rw [hX.N]; exact hN) (vis_of hX hv) hd hcd) fun σ H Q h => ?_
  obtain ⟨F0, H0, F, env, d, he, so, k⟩ := h
  unfold evalE at he
  split at he
  · rename_i d' q
    cases he
    obtain ⟨v, h1, h2⟩ := so.val q
    exact ⟨v, h1, k v F H (.refl so.fh) h2⟩
  · cases he
/-- a slot as it stands, own objects too: for the rules that read it -/
theorem pe_slot {X : Cx} (hX : XOk M N sc sc0 X) {i : Nat} {x : Str} {pos : Pos} (hN : N[i]? = some x) (hv : Vis sc x) (hd : (x == ("__debug__" : Str)) = false) (hcd : (x == ("__classdict__" : Str)) = false) : PE X (.Name x pos) (tVar i) :=
  pe_var (i := i) (by rw [hX.N]; exact hN) (vis_of hX hv) hd hcd
theorem sn_cst {e : Expr} {v : V} {d : D} (h : ∀ X : Cx, PE X e (tC v)) (he : ∀ F : Hp, EncM M F v d) : SndE M Φ N sc sc0 e (.cst d) := fun X _ => by
  refine PE.imp (h X) fun σ H Q h => ?_
  obtain ⟨F0, H0, F, env, d', e1, so, k⟩ := h
  cases (Option.some.inj e1)
  exact k v F H (.refl so.fh) (he F)
theorem sn_int {i : Int} {j pos} : SndE M Φ N sc sc0 (.Constant (.int i) j pos) (.cst (.int i)) := sn_cst (fun _ => pe_int) fun _ => .int
theorem sn_bl {b : Bool} {j pos} : SndE M Φ N sc sc0 (.Constant (.bool b) j pos) (.cst (.bl b)) := sn_cst (fun _ => pe_bl) fun _ => .bl
theorem sn_str {x : Str} {j pos} : SndE M Φ N sc sc0 (.Constant (.str x) j pos) (.cst (.str x)) := sn_cst (fun _ => pe_str) fun _ => .str
theorem sn_non {j pos} : SndE M Φ N sc sc0 (.Constant .none j pos) (.cst .non) := sn_cst (fun _ => pe_non) fun _ => .non
/-- a constant of the module -/
theorem sn_glob {x : Str} {u : Value} {v : V} {d : D} {pos : Pos} (hg : sc.names.lookup x = some .globalImplicit) (hm : M.mg x = some u) (r : RelV v u) (he : ∀ F : Hp, EncM M F v d) (hd : (x == ("__debug__" : Str)) = false := by decide) : SndE M Φ N sc sc0 (.Name x pos) (.cst d) := fun X hX => by
  refine PE.imp (pe_glob (v := v) (show X.env.scope.names.lookup x = _ by rw [hX.sc]; exact hg) (by rw [hX.mg]; exact hm) r hd) fun σ H Q h => ?_
  obtain ⟨F0, H0, F, env, d', e1, so, k⟩ := h
  cases (Option.some.inj e1)
  exact k v F H (.refl so.fh) (he F)

/-! ### argument lists -/
theorem sa_nil : SndA M Φ N sc sc0 [] .nil := fun X _ => PA.imp pa_nil fun σ H Q h => by
  obtain ⟨F0, H0, F, env, ds, e, so, k⟩ := h
  unfold evalE at e
  injection e with e
  injection e with e
  subst e
  exact k [] F H (.refl so.fh) .nil
theorem sa_cons {e : Expr} {es : List Expr} {a r : IE} (ha : SndE M Φ N sc sc0 e a) (hr : SndA M Φ N sc sc0 es r) (hs : ∀ env, starEach (e :: es) env = (false, eval e env) :: starEach es env := by intro _; rfl) : SndA M Φ N sc sc0 (e :: es) (.cons a r) := fun X hX => by
  refine PA.imp (pa_cons (ha X hX) (hr X hX) (hs _)) fun σ H Q h => ?_
  obtain ⟨F0, H0, F, env, ds, e1, so, k⟩ := h
  obtain ⟨x, ds', h1, h2, e2⟩ := ev_cons e1
  injection e2 with e2
  subst e2
  refine ⟨F0, H0, F, env, x, h1, so, fun v F1 H1 x1 ev => ⟨F0, H0, F1, env, ds', h2, so.step x1, fun vs F2 H2 x2 es' => ?_⟩⟩
  exact k (v :: vs) F2 H2 (x1.trans x2) (.cons (ev.mono x2.f) es')

/-! ### operators by values -/
/-- what a two-place operation asks -/
def rD (M : Md) (b : Bi) : R2 := fun x y H Q => ∃ F dx dy d, Same F H ∧ EncM M F x dx ∧ EncM M F y dy ∧ bival b [dx, dy] = some d ∧ ∀ v F' H', Ext F H F' H' → EncM M F' v d → Q v H'
def rU1 (M : Md) (b : Bi) : V → Hp → VK → Prop := fun x H Q => ∃ F dx d, Same F H ∧ EncM M F x dx ∧ bival b [dx] = some d ∧ ∀ v F' H', Ext F H F' H' → EncM M F' v d → Q v H'
def rC (M : Md) (b : Bi) : List V → Hp → VK → Prop := fun vs H Q => ∃ F ds d, Same F H ∧ EncLM M F vs ds ∧ bival b ds = some d ∧ ∀ v F' H', Ext F H F' H' → EncM M F' v d → Q v H'
theorem OpR.imp {X : Cx} {f : Value → Value → Sem Value} {r r' : R2} (h : OpR X f r) (i : ∀ x y H Q, r' x y H Q → r x y H Q) : OpR X f r' := fun pins s σ H x y v u Q I rx ry q => h pins s σ H x y v u Q I rx ry (i x y H Q q)
theorem CallR.imp {X : Cx} {f : Value} {r r' : List V → Hp → VK → Prop} (h : CallR X f r) (i : ∀ xs H Q, r' xs H Q → r xs H Q) : CallR X f r' := fun pins s σ H xs us Q I rx q => h pins s σ H xs us Q I rx (i xs H Q q)

theorem two_reads {a b : IE} {bi : Bi} {σ : L2.St} {H : Hp} {Q : VK} (h : tE M Φ (.bi bi (.cons a (.cons b .nil))) σ H Q) : tOp (rD M bi) (tE M Φ a) (tE M Φ b) σ H Q := by
  obtain ⟨F0, H0, F, env, d, e, so, k⟩ := h
  obtain ⟨ds, e1, e2⟩ := ev_bi e
  obtain ⟨x, y, h1, h2, e3⟩ := ev_cons2 e1
  injection e3 with e3
  subst e3
  exact ⟨F0, H0, F, env, x, h1, so, fun v F1 H1 x1 ev => ⟨F0, H0, F1, env, y, h2, so.step x1, fun u F2 H2 x2 eu => ⟨F2, x, y, d, x2.s, ev.mono x2.f, eu, e2, fun w F3 H3 x3 ew => k w F3 H3 ((x1.trans x2).trans x3) ew⟩⟩⟩
theorem sn_bin {l r : Expr} {op : Operator} {a b : IE} {bi : Bi} {pos : Pos} (ho : ∀ X, XOk M N sc sc0 X → OpR X (binaryOp op) (rD M bi)) (hl : SndE M Φ N sc sc0 l a) (hr : SndE M Φ N sc sc0 r b) :
    SndE M Φ N sc sc0 (.BinOp l op r pos) (.bi bi (.cons a (.cons b .nil))) := fun X hX => PE.imp (pe_op (ho X hX) (hl X hX) (hr X hX)) fun σ H Q h => two_reads h
theorem sn_un {l : Expr} {op : UnaryOp} {a : IE} {bi : Bi} {pos : Pos} (ho : ∀ X, XOk M N sc sc0 X → UnR X (unaryOp op) (rU1 M bi)) (hl : SndE M Φ N sc sc0 l a) :
    SndE M Φ N sc sc0 (.UnaryOp op l pos) (.bi bi (.cons a .nil)) := fun X hX => PE.imp (pe_un (ho X hX) (hl X hX)) fun σ H Q h => by
  obtain ⟨F0, H0, F, env, d, e, so, k⟩ := h
  obtain ⟨ds, e1, e2⟩ := ev_bi e
  obtain ⟨x, ds', h1, h2, e3⟩ := ev_cons e1
  have e4 : ds' = [] := by
    unfold evalE at h2
    injection h2 with h5
    injection h5 with h6
    exact h6.symm
  subst e4
  injection e3 with e3
  subst e3
  exact ⟨F0, H0, F, env, x, h1, so, fun v F1 H1 x1 ev => ⟨F1, x, d, x1.s, ev, e2, fun w F3 H3 x3 ew => k w F3 H3 (x1.trans x3) ew⟩⟩
/-- a comparison as a value, as a test -/
theorem sn_cmp {l r : Expr} {op : CmpOp} {a b : IE} {bi : Bi} {pos : Pos} (ho : ∀ X, XOk M N sc sc0 X → OpR X (compareOp op) (rD M bi)) (hl : SndE M Φ N sc sc0 l a) (hr : SndE M Φ N sc sc0 r b) (hm : behindInMarks op r = false := by rfl) :
    SndE M Φ N sc sc0 (.Compare l [op] [r] pos) (.bi bi (.cons a (.cons b .nil))) := fun X hX => PE.imp (pe_cmpR (ho X hX) (hl X hX) (hr X hX) hm) fun σ H Q h => two_reads h
theorem tT_tE {ie : IE} {σ : L2.St} {H : Hp} {Q : Bool → Hp → Prop} (h : tT M Φ ie σ H Q) : tE M Φ ie σ H fun x H' => ∃ k, x = .bl k ∧ Q k H' := by
  obtain ⟨F0, H0, F, env, b, e, so, k⟩ := h
  refine ⟨F0, H0, F, env, _, e, so, fun v F' H' x ev => ?_⟩
  cases ev
  exact ⟨b, rfl, k F' H' x⟩
theorem st_cmp {l r : Expr} {op : CmpOp} {a b : IE} {bi : Bi} {pos : Pos} (ho : ∀ X, XOk M N sc sc0 X → OpR X (compareOp op) (rD M bi)) (hl : SndE M Φ N sc sc0 l a) (hr : SndE M Φ N sc sc0 r b) (hm : behindInMarks op r = false := by rfl) :
    SndT M Φ N sc sc0 (.Compare l [op] [r] pos) (.bi bi (.cons a (.cons b .nil))) := fun X hX => PT.imp (pt_cmpR (ho X hX) (hl X hX) (hr X hX) hm) fun σ H Q h => two_reads (tT_tE h)
/-- a value that is a bool, as a test (calls, names ..) -/
theorem st_val {e : Expr} {a : IE} (h : SndE M Φ N sc sc0 e a) (he : ∀ env whole, isTrue e env whole = (do let v ← whole; standAt e.pos; holding [v] (truthy v)) := by intro _ _; rfl) : SndT M Φ N sc sc0 e a := fun X hX =>
  PT.imp (pt_val (h X hX) (he _)) fun σ H Q h => tT_tE h
theorem chain_reads {a b c : IE} {p q : Bi} {σ : L2.St} {H : Hp} {Q : VK} (h : tE M Φ (.chain p q a b c) σ H Q) : tChain (rD M p) (rD M q) (tE M Φ a) (tE M Φ b) (tE M Φ c) σ H Q := by
  obtain ⟨F0, H0, F, env, d, e, so, k⟩ := h
  unfold evalE at e
  cases q1 : evalE Φ a env with
  | none => rw [q1] at e; cases e
  | some x =>
    cases q2 : evalE Φ b env with
    | none => rw [q1, q2] at e; cases e
    | some y =>
      rw [q1, q2] at e
      simp only at e
      cases q3 : bival p [x, y] with
      | none => rw [q3] at e; cases e
      | some r =>
        rw [q3] at e
        refine ⟨F0, H0, F, env, x, q1, so, fun v F1 H1 x1 ev => ⟨F0, H0, F1, env, y, q2, so.step x1, fun u F2 H2 x2 eu => ⟨F2, x, y, r, x2.s, ev.mono x2.f, eu, q3, fun w F3 H3 x3 ew => ?_⟩⟩⟩
        cases r with
        | bl t =>
          cases ew
          cases t with
          | true =>
            simp only at e
            cases q4 : evalE Φ c env with
            | none => rw [q4] at e; cases e
            | some z =>
              rw [q4] at e
              refine ⟨true, rfl, iteT ?_⟩
              exact ⟨F0, H0, F3, env, z, q4, ((so.step x1).step x2).step x3, fun w4 F4 H4 x4 e4 => ⟨F4, y, z, d, x4.s, (eu.mono x3.f).mono x4.f, e4, e, fun w5 F5 H5 x5 e5 => k w5 F5 H5 ((((x1.trans x2).trans x3).trans x4).trans x5) e5⟩⟩
          | false =>
            simp only at e
            cases (Option.some.inj e)
            exact ⟨false, rfl, iteF (k _ F3 H3 ((x1.trans x2).trans x3) .bl)⟩
        | _ => simp only at e; cases e
theorem st_chain {l r t : Expr} {op op' : CmpOp} {a b c : IE} {p q : Bi} {pos : Pos} (ho : ∀ X, XOk M N sc sc0 X → OpR X (compareOp op) (rD M p)) (ho' : ∀ X, XOk M N sc sc0 X → OpR X (compareOp op') (rD M q))
    (hl : SndE M Φ N sc sc0 l a) (hr : SndE M Φ N sc sc0 r b) (ht : SndE M Φ N sc sc0 t c) (hm : lastMarks [op, op'] [r, t] = false := by rfl) : SndT M Φ N sc sc0 (.Compare l [op, op'] [r, t] pos) (.chain p q a b c) := fun X hX =>
  PT.imp (pt_chain (ho X hX) (ho' X hX) (hl X hX) (hr X hX) (ht X hX) hm) fun σ H Q h => chain_reads (tT_tE h)

/-! ### and, or, not, if -/
theorem st_not {e : Expr} {a : IE} {pos : Pos} (h : SndT M Φ N sc sc0 e a) : SndT M Φ N sc sc0 (.UnaryOp .Not e pos) (.not a) := fun X hX => PT.imp (pt_not (h X hX)) fun σ H Q h => by
  obtain ⟨F0, H0, F, env, b, e, so, k⟩ := h
  unfold evalE at e
  split at e
  · rename_i c q
    injection e with e
    injection e with e
    subst e
    exact ⟨F0, H0, F, env, c, q, so, fun F' H' x => k F' H' x⟩
  · cases e
theorem sn_not {e : Expr} {a : IE} {pos : Pos} (h : SndE M Φ N sc sc0 e a) : SndE M Φ N sc sc0 (.UnaryOp .Not e pos) (.not a) := fun X hX => PE.imp (pe_not (h X hX)) fun σ H Q h => by
  obtain ⟨F0, H0, F, env, b, e, so, k⟩ := h
  unfold evalE at e
  split at e
  · rename_i c q
    injection e with e
    subst e
    refine ⟨F0, H0, F, env, _, q, so, fun v F' H' x ev => ?_⟩
    cases ev
    exact ⟨c, rfl, k _ F' H' x .bl⟩
  · cases e
theorem sw_and1 {e : Expr} {a : IE} {pos : Pos} (h : SndT M Φ N sc sc0 e a) : SndW M Φ N sc sc0 (.BoolOp .And [e] pos) a := fun X hX => pw_and1 (h X hX)
theorem sw_or1 {e : Expr} {a : IE} {pos : Pos} (h : SndT M Φ N sc sc0 e a) : SndW M Φ N sc sc0 (.BoolOp .Or [e] pos) a := fun X hX => pw_or1 (h X hX)
theorem sw_and {e f : Expr} {rest : List Expr} {a b : IE} {pos : Pos} (h : SndT M Φ N sc sc0 e a) (hb : SndW M Φ N sc sc0 (.BoolOp .And (f :: rest) pos) b) : SndW M Φ N sc sc0 (.BoolOp .And (e :: f :: rest) pos) (.and a b) := fun X hX =>
  PW.imp (pw_and (h X hX) (hb X hX)) fun σ H Q h => by
    obtain ⟨F0, H0, F, env, r, e, so, k⟩ := h
    unfold evalE at e
    split at e
    · rename_i q
      split at e
      · rename_i c q2
        injection e with e
        injection e with e
        subst e
        exact ⟨F0, H0, F, env, true, q, so, fun F1 H1 x1 => iteT ⟨F0, H0, F1, env, c, q2, so.step x1, fun F2 H2 x2 => k F2 H2 (x1.trans x2)⟩⟩
      · cases e
    · rename_i q
      injection e with e
      injection e with e
      subst e
      exact ⟨F0, H0, F, env, false, q, so, fun F1 H1 x1 => iteF (k F1 H1 x1)⟩
    · cases e
theorem sw_or {e f : Expr} {rest : List Expr} {a b : IE} {pos : Pos} (h : SndT M Φ N sc sc0 e a) (hb : SndW M Φ N sc sc0 (.BoolOp .Or (f :: rest) pos) b) : SndW M Φ N sc sc0 (.BoolOp .Or (e :: f :: rest) pos) (.or a b) := fun X hX =>
  PW.imp (pw_or (h X hX) (hb X hX)) fun σ H Q h => by
    obtain ⟨F0, H0, F, env, r, e, so, k⟩ := h
    unfold evalE at e
    split at e
    · rename_i q
      split at e
      · rename_i c q2
        injection e with e
        injection e with e
        subst e
        exact ⟨F0, H0, F, env, false, q, so, fun F1 H1 x1 => iteF ⟨F0, H0, F1, env, c, q2, so.step x1, fun F2 H2 x2 => k F2 H2 (x1.trans x2)⟩⟩
      · cases e
    · rename_i q
      injection e with e
      injection e with e
      subst e
      exact ⟨F0, H0, F, env, true, q, so, fun F1 H1 x1 => iteT (k F1 H1 x1)⟩
    · cases e
theorem st_w {e : Expr} {a : IE} (h : SndW M Φ N sc sc0 e a) : SndT M Φ N sc sc0 e a := fun X hX => (h X hX).pt
theorem sn_and {e f : Expr} {a b : IE} {pos : Pos} (h : SndE M Φ N sc sc0 e a) (hb : SndE M Φ N sc sc0 f b) : SndE M Φ N sc sc0 (.BoolOp .And [e, f] pos) (.and a b) := fun X hX =>
  PE.imp (pe_and (h X hX) (pe_one (hb X hX))) fun σ H Q h => by
    obtain ⟨F0, H0, F, env, r, e, so, k⟩ := h
    unfold evalE at e
    split at e
    · rename_i q
      split at e
      · rename_i c q2
        injection e with e
        subst e
        refine ⟨F0, H0, F, env, _, q, so, fun v F1 H1 x1 ev => ?_⟩
        cases ev
        refine ⟨true, rfl, iteT ⟨F0, H0, F1, env, _, q2, so.step x1, fun v F2 H2 x2 e2 => k v F2 H2 (x1.trans x2) e2⟩⟩
      · cases e
    · rename_i q
      injection e with e
      subst e
      refine ⟨F0, H0, F, env, _, q, so, fun v F1 H1 x1 ev => ?_⟩
      cases ev
      exact ⟨false, rfl, iteF (k _ F1 H1 x1 .bl)⟩
    · cases e
theorem sn_ite {c x y : Expr} {a b d : IE} {pos : Pos} (hc : SndT M Φ N sc sc0 c a) (hx : SndE M Φ N sc sc0 x b) (hy : SndE M Φ N sc sc0 y d) : SndE M Φ N sc sc0 (.IfExp c x y pos) (.ite a b d) := fun X hX =>
  PE.imp (pe_ifExp (hc X hX) (hx X hX) (hy X hX)) fun σ H Q h => by
    obtain ⟨F0, H0, F, env, r, e, so, k⟩ := h
    unfold evalE at e
    split at e
    · rename_i q
      exact ⟨F0, H0, F, env, true, q, so, fun F1 H1 x1 => iteT ⟨F0, H0, F1, env, r, e, so.step x1, fun v F2 H2 x2 e2 => k v F2 H2 (x1.trans x2) e2⟩⟩
    · rename_i q
      exact ⟨F0, H0, F, env, false, q, so, fun F1 H1 x1 => iteF ⟨F0, H0, F1, env, r, e, so.step x1, fun v F2 H2 x2 e2 => k v F2 H2 (x1.trans x2) e2⟩⟩
    · cases e

/-! ### built-in calls -/
theorem arg_reads {a : IE} {bi : Bi} {σ : L2.St} {H : Hp} {Q : VK} (h : tE M Φ (.bi bi a) σ H Q) : tCB (rC M bi) (tAr M Φ a) σ H Q := by
  obtain ⟨F0, H0, F, env, d, e, so, k⟩ := h
  obtain ⟨ds, e1, e2⟩ := ev_bi e
  exact ⟨F0, H0, F, env, ds, e1, so, fun vs F1 H1 x1 ev => ⟨F1, ds, d, x1.s, ev, e2, fun w F3 H3 x3 ew => k w F3 H3 (x1.trans x3) ew⟩⟩
theorem sn_callB {x : Str} {id : String} {bi : Bi} {e : Expr} {es : List Expr} {a : IE} {p pos : Pos} (hc : ∀ X, XOk M N sc sc0 X → CallR X (.builtin id) (rC M bi)) (hg : sc.names.lookup x = some .globalImplicit) (hm : M.mg x = none) (hv : bootBuiltins x = some (.builtin id))
    (ha : SndA M Φ N sc sc0 (e :: es) a) (hn : x ≠ "__name__" := by decide) (hdb : (x == ("__debug__" : Str)) = false := by decide)
    (he : ∀ env, starEach (e :: es) env = (false, eval e env) :: starEach es env := by intro _; rfl) (hpl : ∀ env, (backTo pos (starEach es env)).any (·.1) = false := by intro _; rfl) : SndE M Φ N sc sc0 (.Call (.Name x p) (e :: es) [] pos) (.bi bi a) := fun X hX =>
  PE.imp (pe_callB (hc X hX) (show X.env.scope.names.lookup x = _ by rw [hX.sc]; exact hg) (by rw [hX.mg]; exact hm) hv (ha X hX) hn hdb (he _) (hpl _)) fun σ H Q h => arg_reads h
theorem sn_callTy {x : Str} {T : String} {bi : Bi} {e : Expr} {es : List Expr} {a : IE} {p pos : Pos} (hc : ∀ X, XOk M N sc sc0 X → CallR X (.type T) (rC M bi)) (hg : sc.names.lookup x = some .globalImplicit) (hm : M.mg x = none) (hv : bootBuiltins x = some (.type T))
    (ha : SndA M Φ N sc sc0 (e :: es) a) (hn : x ≠ "__name__" := by decide) (hdb : (x == ("__debug__" : Str)) = false := by decide)
    (he : ∀ env, starEach (e :: es) env = (false, eval e env) :: starEach es env := by intro _; rfl) (hpl : ∀ env, (backTo pos (starEach es env)).any (·.1) = false := by intro _; rfl) : SndE M Φ N sc sc0 (.Call (.Name x p) (e :: es) [] pos) (.bi bi a) := fun X hX =>
  PE.imp (pe_callTy (hc X hX) (show X.env.scope.names.lookup x = _ by rw [hX.sc]; exact hg) (by rw [hX.mg]; exact hm) hv (ha X hX) hn hdb (he _) (hpl _)) fun σ H Q h => arg_reads h
theorem sz_ble {n : Nat} (h : n.ble 10000 = true) : n ≤ sizeLine := Nat.le_trans (Nat.le_of_ble_eq_true h) (by rw [sizeLine_eq]; decide)
/-- tuples, lists that are written -/
theorem sn_tup {es : List Expr} {a : IE} {k : Nat} {pos : Pos} (h : SndA M Φ N sc sc0 es a) : SndE M Φ N sc sc0 (.Tuple es k pos) (.bi .tupD a) := fun X hX => PE.imp (pe_tup (h X hX)) fun σ H Q h => by
  obtain ⟨F0, H0, F, env, d, e, so, k⟩ := h
  obtain ⟨ds, e1, e2⟩ := ev_bi e
  have e2 : (if ds.length.ble 10000 then some (D.tup ds) else none) = some d := e2
  split at e2
  · rename_i hz
    cases e2
    refine ⟨F0, H0, F, env, ds, e1, so, fun vs F1 H1 x1 ev => ⟨by rw [ev.len]; exact sz_ble hz, fun p hp => ?_⟩⟩
    have x2 := Ext.new (o := .tup vs) x1.s hp
    exact k _ _ _ (x1.trans x2) (.tup upd_same (ev.mono x2.f))
  · cases e2
theorem sl_lst {es : List Expr} {a : IE} {pos : Pos} (h : SndA M Φ N sc sc0 es a) : SndL M Φ N sc sc0 (.List es pos) (.bi .lstD a) := fun X hX => PE.imp (pe_lst (h X hX)) fun σ H Q h => by
  obtain ⟨F0, H0, F, env, d, e, so, k⟩ := h
  obtain ⟨ds, e1, e2⟩ := ev_bi e
  have e2 : (if ds.length.ble 10000 then some (D.lst ds) else none) = some (D.lst d) := e2
  split at e2
  · rename_i hz
    injection e2 with e2
    injection e2 with e2
    subst e2
    refine ⟨F0, H0, F, env, ds, e1, so, fun vs F1 H1 x1 ev => ⟨by rw [ev.len]; exact sz_ble hz, fun p hp => ?_⟩⟩
    have hp0 : H p = none := x1.h.free hp
    exact k p vs F1 _ (x1.trans (Ext.own (o := .lst vs) x1.s hp)) hp0 (x1.s.free hp) upd_same ev
  · cases e2
/-- a new list becomes known: a value -/
theorem sn_lst {e : Expr} {a : IE} (h : SndL M Φ N sc sc0 e a) (hl : ∀ env d, evalE Φ a env = some d → ∃ ds, d = .lst ds) : SndE M Φ N sc sc0 e a := fun X hX => PE.imp (h X hX) fun σ H Q h => by
  obtain ⟨F0, H0, F, env, d, e, so, k⟩ := h
  obtain ⟨ds, rfl⟩ := hl _ _ e
  refine ⟨F0, H0, F, env, ds, e, so, fun p vs F' H' x hp fp hl ev => ?_⟩
  have fp0 : F p = none := so.fh.free hp
  have x2 : Ext F H (upd F' p (.lst vs)) H' := by
    refine ⟨fun b u q => ?_, x.h, fun b u q => ?_, fun a u q n => ?_⟩
    · rw [upd_ne (ne_of_none q fp0)]; exact x.f b u q
    · by_cases z : b = p
      · subst z; rw [upd_same] at q; rw [hl, q]
      · rw [upd_ne z] at q; exact x.s b u q
    · rw [upd_ne (ne_of_none q hp)]; exact x.n a u q n
  have m : Same F' (upd F' p (.lst vs)) := fun b u q => by rw [upd_ne (ne_of_none q fp)]; exact q
  exact k _ _ _ x2 (.lst upd_same (ev.mono m))
theorem lst_of_lstD {a : IE} : ∀ env d, evalE Φ (.bi .lstD a) env = some d → ∃ ds, d = .lst ds := fun env d h => by
  obtain ⟨ds, _, e⟩ := ev_bi h
  have e : (if ds.length.ble 10000 then some (D.lst ds) else none) = some d := e
  split at e
  · exact ⟨ds, (Option.some.inj e).symm⟩
  · cases e
end FB

set_option Elab.async false
set_option linter.all false
set_option maxRecDepth 100000
set_option maxHeartbeats 1000000
/-! FBt: targets, blocks, assignments, lists of one's own, loops, comprehensions. -/
namespace FB
open PySem L2
variable {M : Md} {Φ : Fn → List D → Option D} {N : List Str} {sc sc0 : Scope}

/-! ### what a slot's change leaves -/
section
variable {F0 H0 F H F' H' : Hp} {env : En} {σ : L2.St}
theorem set_cases {α : Type} {l : List α} {i j : Nat} {x y : α} (h : (l.set i x)[j]? = some y) : (i = j ∧ y = x ∧ j < l.length) ∨ (i ≠ j ∧ l[j]? = some y) := by
  by_cases q : i = j
  · subst q
    by_cases hi : i < l.length
    · rw [List.getElem?_set_self hi] at h
      exact .inl ⟨rfl, (Option.some.inj h).symm, hi⟩
    · rw [List.getElem?_eq_none (by rw [List.length_set]; omega)] at h
      cases h
  · rw [List.getElem?_set_ne q] at h
    exact .inr ⟨q, h⟩
/-- a slot takes an object of one's own, new since H -/
theorem SOk.setOwn (h : SOk M F0 H0 F H env σ) (e : Ext F H F' H') {i : Nat} {p : Addr} {s : Sl} (hp : H p = none) (hs : SlotOk M H0 F' H' s (some (.ref p))) : SOk M F0 H0 F' H' (env.set i s) (σ.set i (some (.ref p))) := by
  have h2 := h.step e
  have frsh : ∀ {j : Nat} {t : Sl}, env[j]? = some t → t.own = true → σ[j]? = some (some (.ref p)) → False := fun {j t} h1 o1 h3 => by
    have q := h.sl j t _ h1 h3
    cases t with
    | lst ds => obtain ⟨a, vs, e1, _, _, e4, _⟩ := q; cases e1; rw [hp] at e4; cases e4
    | dct kvs lk =>
      cases lk with
      | false => obtain ⟨a, kv', e1, _, _, e4, _⟩ := q; cases e1; rw [hp] at e4; cases e4
      | true => cases o1
    | dk d => obtain ⟨a, b, v, e1, _, _, e4, _⟩ := q; cases e1; rw [hp] at e4; cases e4
    | ins c ds => obtain ⟨a, dx, vs, e1, _, _, e4, _⟩ := q; cases e1; rw [hp] at e4; cases e4
    | non => cases o1
    | val d => cases o1
  refine ⟨h2.x, by rw [List.length_set, List.length_set, h2.len], fun j t o h1 h3 => ?_, fun j l t u a hn h1 h3 o1 o3 h4 h5 => ?_⟩
  · rcases set_cases h1 with ⟨q, e1, _⟩ | ⟨q, e1⟩
    · subst q e1
      rcases set_cases h3 with ⟨_, e3, _⟩ | ⟨q, _⟩
      · subst e3; exact hs
      · exact absurd rfl q
    · rw [List.getElem?_set_ne q] at h3
      exact h2.sl j t o e1 h3
  · rcases set_cases h1 with ⟨q, e1, _⟩ | ⟨q, e1⟩
    · subst q
      rcases set_cases h4 with ⟨_, e4, _⟩ | ⟨q, _⟩
      · cases e4
        rcases set_cases h3 with ⟨q, _, _⟩ | ⟨q, e3⟩
        · exact hn q
        · rw [List.getElem?_set_ne q] at h5
          exact frsh e3 o3 h5
      · exact absurd rfl q
    · rw [List.getElem?_set_ne q] at h4
      rcases set_cases h3 with ⟨q3, e3, _⟩ | ⟨q3, e3⟩
      · subst q3
        rcases set_cases h5 with ⟨_, e5, _⟩ | ⟨q5, _⟩
        · cases e5
          exact frsh e1 o1 h4
        · exact absurd rfl q5
      · rw [List.getElem?_set_ne q3] at h5
        exact h.ap j l t u a hn e1 e3 o1 o3 h4 h5
/-- the object of a slot changes -/
theorem SOk.mut (h : SOk M F0 H0 F H env σ) {i : Nat} {a : Addr} {s s' : Sl} {o' : HO} (hi : env[i]? = some s) (ho : s.own = true) (hσ : σ[i]? = some (some (.ref a))) (h0 : H0 a = none) (hf : F a = none)
    (hs : SlotOk M H0 F (upd H a o') s' (some (.ref a))) : SOk M F0 H0 F (upd H a o') (env.set i s') σ := by
  have hx : Ext F0 H0 F (upd H a o') := ⟨h.x.f, fun b u q => by rw [upd_ne (ne_of_none q h0)]; exact h.x.h b u q, fun b u q => by rw [upd_ne (ne_of_none q hf)]; exact h.x.s b u q, h.x.n⟩
  refine ⟨hx, by rw [List.length_set, h.len], fun j t o h1 h3 => ?_, fun j l t u b hn h1 h3 o1 o3 h4 h5 => ?_⟩
  · rcases set_cases h1 with ⟨q, e1, _⟩ | ⟨q, e1⟩
    · subst q e1
      rw [hσ] at h3
      cases h3
      exact hs
    · have z := h.sl j t o e1 h3
      have ne : ∀ {b : Addr}, o = some (.ref b) → t.own = true → b ≠ a := fun e1' o1 q' => by
        rw [e1', q'] at h3
        exact h.ap i j s t a q hi e1 ho o1 hσ h3
      cases t with
      | non => trivial
      | val d => exact z
      | lst ds => obtain ⟨b, vs, e1, e2, e3, e4, e5⟩ := z; exact ⟨b, vs, e1, e2, e3, by rw [upd_ne (ne e1 rfl)]; exact e4, e5⟩
      | dct kvs lk =>
        cases lk with
        | false => obtain ⟨b, kv', e1, e2, e3, e4, e5⟩ := z; exact ⟨b, kv', e1, e2, e3, by rw [upd_ne (ne e1 rfl)]; exact e4, e5⟩
        | true => exact z
      | dk d => obtain ⟨b, c, v, e1, e2, e3, e4, e5⟩ := z; exact ⟨b, c, v, e1, e2, e3, by rw [upd_ne (ne e1 rfl)]; exact e4, e5⟩
      | ins c ds => obtain ⟨b, dx, vs, e1, e2, e3, e4, e5⟩ := z; exact ⟨b, dx, vs, e1, e2, e3, by rw [upd_ne (ne e1 rfl)]; exact e4, e5⟩
  · -- two own slots at one address
    have own : ∀ {j : Nat} {t : Sl}, (env.set i s')[j]? = some t → t.own = true → ∃ t', env[j]? = some t' ∧ t'.own = true := fun {j t} q1 q2 => by
      rcases set_cases q1 with ⟨q, e1, _⟩ | ⟨q, e1⟩
      · subst q; exact ⟨s, hi, ho⟩
      · exact ⟨t, e1, q2⟩
    obtain ⟨t', e1, o1'⟩ := own h1 o1
    obtain ⟨u', e3, o3'⟩ := own h3 o3
    exact h.ap j l t' u' b hn e1 e3 o1' o3' h4 h5
/-- a slot is forgotten -/
theorem SOk.forget (h : SOk M F0 H0 F H env σ) (i : Nat) (o : Option V) : SOk M F0 H0 F H (env.set i .non) (σ.set i o) := by
  refine ⟨h.x, by rw [List.length_set, List.length_set, h.len], fun j t o h1 h3 => ?_, fun j l t u a hn h1 h3 o1 o3 h4 h5 => ?_⟩
  · rcases set_cases h1 with ⟨q, e1, _⟩ | ⟨q, e1⟩
    · subst e1; trivial
    · rw [List.getElem?_set_ne q] at h3
      exact h.sl j t _ e1 h3
  · rcases set_cases h1 with ⟨q, e1, _⟩ | ⟨q, e1⟩
    · subst e1; cases o1
    · rcases set_cases h3 with ⟨q3, e3, _⟩ | ⟨q3, e3⟩
      · subst e3; cases o3
      · rw [List.getElem?_set_ne q] at h4
        rw [List.getElem?_set_ne q3] at h5
        exact h.ap j l t u a hn e1 e3 o1 o3 h4 h5
theorem SOk.wipe (h : SOk M F0 H0 F H env σ) : ∀ vs : List Nat, SOk M F0 H0 F H (wipeE env vs) (L2.wipe σ vs)
  | [] => h
  | v :: vs => (h.wipe vs).forget v none
/-- the list of a slot becomes known -/
theorem SOk.freeze (h : SOk M F0 H0 F H env σ) {i : Nat} {ds : List D} (hi : env[i]? = some (.lst ds)) : ∃ F', Same F F' ∧ SOk M F0 H0 F' H (env.set i (.val (.lst ds))) σ := by
  obtain ⟨o, hσ, a, vs, rfl, h0, hf, ha, ev⟩ := h.at hi
  have m : Same F (upd F a (.lst vs)) := fun b u q => by rw [upd_ne (ne_of_none q hf)]; exact q
  have s2 : Same (upd F a (.lst vs)) H := fun b u q => by
    by_cases z : b = a
    · subst z; rw [upd_same] at q; rw [ha, q]
    · rw [upd_ne z] at q; exact h.fh b u q
  refine ⟨upd F a (.lst vs), m, ⟨⟨h.x.f.trans m, h.x.h, s2, fun b u q n => ?_⟩, by rw [List.length_set, h.len], fun j t o h1 h3 => ?_, fun j l t u b hn h1 h3 o1 o3 h4 h5 => ?_⟩⟩
  · rw [upd_ne (ne_of_none q h0)]; exact h.x.n b u q n
  · rcases set_cases h1 with ⟨q, e1, _⟩ | ⟨q, e1⟩
    · subst q e1
      rw [hσ] at h3
      cases h3
      exact ⟨_, rfl, .lst upd_same (ev.mono m)⟩
    · have z := h.sl j t o e1 h3
      have ne : ∀ {b : Addr}, o = some (.ref b) → t.own = true → b ≠ a := fun e1' o1 q' => by
        rw [e1', q'] at h3
        exact h.ap i j _ t a q hi e1 rfl o1 hσ h3
      cases t with
      | non => trivial
      | val d => obtain ⟨v, e1, e2⟩ := z; exact ⟨v, e1, e2.mono m⟩
      | lst ds => obtain ⟨b, vs, e1, e2, e3, e4, e5⟩ := z; exact ⟨b, vs, e1, e2, by rw [upd_ne (ne e1 rfl)]; exact e3, e4, e5.mono m⟩
      | dct kvs lk =>
        cases lk with
        | false => obtain ⟨b, kv', e1, e2, e3, e4, e5⟩ := z; exact ⟨b, kv', e1, e2, by rw [upd_ne (ne e1 rfl)]; exact e3, e4, e5.mono m⟩
        | true => obtain ⟨b, od, kv', e1, e2, e5⟩ := z; exact ⟨b, od, kv', e1, e2, e5.mono m⟩
      | dk d => obtain ⟨b, c, v, e1, e2, e3, e4, e5, e6⟩ := z; exact ⟨b, c, v, e1, e2, by rw [upd_ne (ne e1 rfl)]; exact e3, e4, e5, e6.mono m⟩
      | ins c ds => obtain ⟨b, dx, vs, e1, e2, e3, e4, e5, e6, e7⟩ := z; exact ⟨b, dx, vs, e1, e2, by rw [upd_ne (ne e1 rfl)]; exact e3, e4, e5, e6.mono m, e7⟩
  · rcases set_cases h1 with ⟨q, e1, _⟩ | ⟨q, e1⟩
    · subst e1; cases o1
    · rcases set_cases h3 with ⟨q3, e3, _⟩ | ⟨q3, e3⟩
      · subst e3; cases o3
      · exact h.ap j l t u b hn e1 e3 o1 o3 h4 h5
end

/-! ### targets -/
def Sto (sc sc0 : Scope) (x : Str) : Prop := sc.names.lookup x = some .local ∨ (sc.names.lookup x = some .cell ∧ sc0.names.lookup x = some .cell)
theorem Sto.loc {x : Str} {X : Cx} (hX : XOk M N sc sc0 X) (h : Sto sc sc0 x) : Loc X.env.scope x := by
  rw [hX.sc]
  exact h.elim .inl fun z => .inr z.1
theorem Sto.fn {x : Str} {X : Cx} (hX : XOk M N sc sc0 X) (h : Sto sc sc0 x) : X.fn x = true ∨ X.env.scope.names.lookup x = some .local := by
  rw [hX.sc]
  exact h.elim .inr fun z => .inl (hX.fn x z.2)
theorem pg_nm {X : Cx} (hX : XOk M N sc sc0 X) {i : Nat} {x : Str} {pos : Pos} (nd : N.Nodup) (hN : N[i]? = some x) (hs : Sto sc sc0 x) : PG X (.Name x pos) (gName i) :=
  pg_name (by rw [hX.N]; exact nd) (by rw [hX.N]; exact hN) (hs.loc hX) (hs.fn hX)
theorem PG.imp {X : Cx} {e : Expr} {t t' : TG} (h : PG X e t) (i : ∀ v σ H Q, t' v σ H Q → t v σ H Q) : PG X e t' := ⟨fun pins s σ H v u Q I r w => h.run pins s σ H v u Q I r (i v σ H Q w)⟩
def tgIn : Tg → List Nat → Prop
  | .nm i, vs => i ∈ vs
  | .pr i j, vs => i ∈ vs ∧ j ∈ vs
theorem wipe_get (σ : L2.St) (i : Nat) : ∀ vs : List Nat, (L2.wipe σ vs)[i]? = if i ∈ vs then (σ[i]?).map (fun _ => none) else σ[i]?
  | [] => by simp [L2.wipe]
  | v :: vs => by
    show ((L2.wipe σ vs).set v none)[i]? = _
    by_cases h : v = i
    · subst h
      rw [List.getElem?_set_self', wipe_get σ v vs]
      by_cases q : v ∈ vs
      · rw [if_pos q, if_pos (List.mem_cons_self ..)]
        cases σ[v]? <;> rfl
      · rw [if_neg q, if_pos (List.mem_cons_self ..)]
        cases σ[v]? <;> rfl
    · rw [List.getElem?_set_ne h, wipe_get σ i vs]
      by_cases q : i ∈ vs
      · rw [if_pos q, if_pos (List.mem_cons_of_mem _ q)]
      · rw [if_neg q, if_neg]
        intro z
        rcases List.mem_cons.mp z with z | z
        · exact h z.symm
        · exact q z
theorem wipe_set (σ : L2.St) {j : Nat} {vs : List Nat} (x : Option V) (h : j ∈ vs) : L2.wipe (σ.set j x) vs = L2.wipe σ vs := by
  refine List.ext_getElem? fun i => ?_
  rw [wipe_get, wipe_get]
  by_cases q : i ∈ vs
  · rw [if_pos q, if_pos q]
    by_cases z : j = i
    · subst z
      rw [List.getElem?_set_self']
      cases σ[j]? <;> rfl
    · rw [List.getElem?_set_ne z]
  · rw [if_neg q, if_neg q, List.getElem?_set_ne]
    intro z
    subst z
    exact q h
theorem wipe_wipe (σ : L2.St) (vs : List Nat) : L2.wipe (L2.wipe σ vs) vs = L2.wipe σ vs := by
  refine List.ext_getElem? fun i => ?_
  rw [wipe_get (L2.wipe σ vs), wipe_get]
  by_cases q : i ∈ vs
  · rw [if_pos q, if_pos q]
    cases σ[i]? <;> rfl
  · rw [if_neg q, if_neg q]
theorem sg_nm {i : Nat} {x : Str} {pos : Pos} (nd : N.Nodup) (hN : N[i]? = some x := by rfl) (hs : Sto sc sc0 x := by first | exact Or.inl rfl | exact Or.inr ⟨rfl, rfl⟩) : SndG M N sc sc0 (.Name x pos) (.nm i) := fun X hX => pg_nm hX nd hN hs
theorem sg_pr {i j : Nat} {x y : Str} {px py pos : Pos} {kk : Nat} (nd : N.Nodup) (hi : N[i]? = some x := by rfl) (hj : N[j]? = some y := by rfl) (hx : Sto sc sc0 x := by first | exact Or.inl rfl | exact Or.inr ⟨rfl, rfl⟩) (hy : Sto sc sc0 y := by first | exact Or.inl rfl | exact Or.inr ⟨rfl, rfl⟩) :
    SndG M N sc sc0 (.Tuple [.Name x px, .Name y py] kk pos) (.pr i j) := fun X hX => by
  have z := pg_tup (X := X) (pos := pos) (k := kk) hX.calm (pgs_cons (pg_nm hX (pos := px) nd hi hx) (pgs_cons (pg_nm hX (pos := py) nd hj hy) pgs_nil))
  rw [hX.K] at z
  exact z
theorem tgSet_pr {i j : Nat} {d : D} {env env' : En} (h : tgSet (.pr i j) d env = some env') : ∃ x y, d = .tup [x, y] ∧ env' = (env.set i (.val x)).set j (.val y) := by
  cases d with
  | tup ds =>
    cases ds with
    | nil => cases h
    | cons x r =>
      cases r with
      | nil => cases h
      | cons y r =>
        cases r with
        | nil => exact ⟨x, y, rfl, (Option.some.inj h).symm⟩
        | cons z r => cases h
  | _ => cases h
theorem gtg {F0 H0 F H : Hp} {env env' : En} {σ : L2.St} {tg : Tg} {v : V} {d : D} (so : SOk M F0 H0 F H env σ) (ev : EncM M F v d) (e : tgSet tg d env = some env') :
    ∃ σ', SOk M F0 H0 F H env' σ' ∧ (∀ vs, tgIn tg vs → L2.wipe σ' vs = L2.wipe σ vs) ∧ ∀ Q : L2.St → Hp → Prop, Q σ' H → gTg M.K tg v σ H Q := by
  cases tg with
  | nm i =>
    cases (Option.some.inj e)
    exact ⟨_, so.set ev, fun vs h => wipe_set σ _ h, fun Q q => q⟩
  | pr i j =>
    obtain ⟨a, b, rfl, rfl⟩ := tgSet_pr e
    cases ev with
    | tup ha el =>
      cases el with
      | cons r1 t1 =>
        cases t1 with
        | cons r2 t2 =>
          cases t2
          refine ⟨_, (so.set r1).set r2, fun vs h => ?_, fun Q q => ⟨_, _, rfl, SqT.of (so.fh _ _ ha), rfl, _, _, rfl, _, _, rfl, rfl, q⟩⟩
          rw [wipe_set _ _ h.2, wipe_set _ _ h.1]

/-! ### blocks -/
theorem sb_nil : SndB M Φ N sc sc0 [] .skip := fun X hX _ => PSs.imp pss_nil fun Dn σ H h => by
  obtain ⟨F0, H0, F, env, r, e, so, k⟩ := h
  cases (Option.some.inj e)
  exact k σ F H so
theorem seq_reads {a b : IS} {Dn : Ends} {σ : L2.St} {H : Hp} (h : tSt M Φ (.seq a b) Dn σ H) : tSeq (tSt M Φ a) (tSt M Φ b) Dn σ H := by
  obtain ⟨F0, H0, F, env, r, e, so, k⟩ := h
  unfold evalS at e
  cases q : evalS Φ a env with
  | none => rw [q] at e; cases e
  | some f =>
    rw [q] at e
    cases f with
    | nx env1 => exact ⟨F0, H0, F, env, _, q, so, fun σ' F' H' so' => ⟨F0, H0, F', env1, r, e, so', k⟩⟩
    | rt d =>
      have e : some (Fl.rt d) = some r := e
      cases e
      exact ⟨F0, H0, F, env, _, q, so, k⟩
theorem sb_cons {st : Stmt} {rest : List Stmt} {a b : IS} (h1 : SndS M Φ N sc sc0 st a) (h2 : SndB M Φ N sc sc0 rest b) : SndB M Φ N sc sc0 (st :: rest) (.seq a b) := fun X hX hp =>
  PSs.imp (pss_cons (h1 X hX hp) (h2 X hX hp)) fun Dn σ H h => seq_reads h
theorem sb_one {st : Stmt} {a : IS} (h1 : SndS M Φ N sc sc0 st a) : SndB M Φ N sc sc0 [st] a := fun X hX hp => pss_one (h1 X hX hp)
theorem ev_frz {i : Nat} {a : IS} {env : En} {r : Fl} (h : evalS Φ (.seq (.frz i) a) env = some r) : ∃ ds, env[i]? = some (.lst ds) ∧ evalS Φ a (env.set i (.val (.lst ds))) = some r := by
  have e1 : evalS Φ (.seq (.frz i) a) env = (match evalS Φ (.frz i) env with
    | some (.nx e) => evalS Φ a e
    | some (.rt d) => some (.rt d)
    | none => none) := rfl
  have e2 : evalS Φ (.frz i) env = (match env[i]? with
    | some (.lst ds) => some (.nx (env.set i (.val (.lst ds))))
    | _ => none) := rfl
  rw [e1, e2] at h
  cases q : env[i]? with
  | none => rw [q] at h; cases h
  | some s =>
    rw [q] at h
    cases s with
    | lst ds => exact ⟨ds, rfl, h⟩
    | _ => cases h
/-- a list becomes known ahead of a block -/
theorem sb_frz (i : Nat) {sts : List Stmt} {a : IS} (h : SndB M Φ N sc sc0 sts a) : SndB M Φ N sc sc0 sts (.seq (.frz i) a) := fun X hX hp =>
  PSs.imp (h X hX hp) fun Dn σ H h => by
    obtain ⟨F0, H0, F, env, r, e, so, k⟩ := h
    obtain ⟨ds, q2, e2⟩ := ev_frz e
    obtain ⟨F', m, so2⟩ := so.freeze q2
    exact ⟨F0, H0, F', _, r, e2, so2, k⟩
/-- ahead of a statement -/
theorem ss_frz (i : Nat) {st : Stmt} {a : IS} (h : SndS M Φ N sc sc0 st a) : SndS M Φ N sc sc0 st (.seq (.frz i) a) := fun X hX hp =>
  PS.imp (h X hX hp) fun Dn σ H h => by
    obtain ⟨F0, H0, F, env, r, e, so, k⟩ := h
    obtain ⟨ds, q2, e2⟩ := ev_frz e
    obtain ⟨F', m, so2⟩ := so.freeze q2
    exact ⟨F0, H0, F', _, r, e2, so2, k⟩
theorem ss_if {c : Expr} {a b : List Stmt} {ic : IE} {ia ib : IS} {pos : Pos} (hc : SndT M Φ N sc sc0 c ic) (ha : SndB M Φ N sc sc0 a ia) (hb : SndB M Φ N sc sc0 b ib) : SndS M Φ N sc sc0 (.If c a b pos) (.ite ic ia ib) := fun X hX hp =>
  PS.imp (ps_if (hc X hX) (ha X hX hp) (hb X hX hp)) fun Dn σ H h => by
    obtain ⟨F0, H0, F, env, r, e, so, k⟩ := h
    unfold evalS at e
    split at e
    · rename_i q
      exact ⟨F0, H0, F, env, true, q, so, fun F1 H1 x1 => iteT ⟨F0, H0, F1, env, r, e, so.step x1, k⟩⟩
    · rename_i q
      exact ⟨F0, H0, F, env, false, q, so, fun F1 H1 x1 => iteF ⟨F0, H0, F1, env, r, e, so.step x1, k⟩⟩
    · cases e
theorem ss_ret {e : Expr} {a : IE} {pos : Pos} (h : SndE M Φ N sc sc0 e a) : SndS M Φ N sc sc0 (.Return (some e) pos) (.ret a) := fun X hX hp =>
  PS.imp (ps_ret (h X hX)) fun Dn σ H h => by
    obtain ⟨F0, H0, F, env, r, e, so, k⟩ := h
    unfold evalS at e
    cases q : evalE Φ a env with
    | none => rw [q] at e; cases e
    | some d =>
      rw [q] at e
      cases e
      exact ⟨F0, H0, F, env, d, q, so, fun v F' H' x ev => k v F' H' (so.x.trans x) ev⟩
theorem ss_exp {e : Expr} {a : IE} {pos : Pos} (h : SndE M Φ N sc sc0 e a) (hs : ∀ env, swapsWith e none pos.line env = pure false := by intro _; rfl) : SndS M Φ N sc sc0 (.Expr e pos) (.exp a) := fun X hX hp =>
  PS.imp (ps_expr (h X hX) (hs _)) fun Dn σ H h => by
    obtain ⟨F0, H0, F, env, r, e, so, k⟩ := h
    unfold evalS at e
    split at e
    · rename_i d q
      cases e
      exact ⟨F0, H0, F, env, d, q, so, fun v F' H' x ev => k σ F' H' (so.step x)⟩
    · cases e
/-- a statement that is not reached (raise) -/
theorem ss_fail {st : Stmt} : SndS M Φ N sc sc0 st .fail := fun X hX hp => PS.imp (ps_never (st := st)) fun Dn σ H h => by
  obtain ⟨F0, H0, F, env, r, e, _⟩ := h
  cases e

/-! ### assignments -/
theorem ss_asg {i : Nat} {x : Str} {e : Expr} {a : IE} {px pos : Pos} (nd : N.Nodup) (h : SndE M Φ N sc sc0 e a) (hN : N[i]? = some x := by rfl) (hs : Sto sc sc0 x := by first | exact Or.inl rfl | exact Or.inr ⟨rfl, rfl⟩)
    (hw : ∀ env, swapsWith e (some (.Name x px)) pos.line env = pure false := by intro _; rfl) : SndS M Φ N sc sc0 (.Assign [.Name x px] e pos) (.asg i a) := fun X hX hp =>
  PS.imp (ps_set (by rw [hX.N]; exact nd) (by rw [hX.N]; exact hN) (hs.loc hX) (h X hX) (hw _) (hs.fn hX)) fun Dn σ H h => by
    obtain ⟨F0, H0, F, env, r, e, so, k⟩ := h
    unfold evalS at e
    cases q : evalE Φ a env with
    | none => rw [q] at e; cases e
    | some d =>
      rw [q] at e
      cases e
      exact ⟨F0, H0, F, env, d, q, so, fun v F' H' x ev => k _ F' H' ((so.step x).set ev)⟩
theorem newL_reads {i : Nat} {a : IE} {Dn : Ends} {σ : L2.St} {H : Hp} (h : tSt M Φ (.newL i a) Dn σ H) : tAsg (tL M Φ a) (gName i) Dn σ H := by
  obtain ⟨F0, H0, F, env, r, e, so, k⟩ := h
  unfold evalS at e
  split at e
  · rename_i ds q
    cases e
    refine ⟨F0, H0, F, env, ds, q, so, fun p vs F' H' x hp fp hl ev => k _ F' H' ?_⟩
    exact so.setOwn x hp ⟨p, vs, rfl, so.x.h.free hp, fp, hl, ev⟩
  · cases e
/-- a new list of one's own -/
theorem ss_newL {i : Nat} {x : Str} {e : Expr} {a : IE} {px pos : Pos} (nd : N.Nodup) (h : SndL M Φ N sc sc0 e a) (hN : N[i]? = some x := by rfl) (hs : Sto sc sc0 x := by first | exact Or.inl rfl | exact Or.inr ⟨rfl, rfl⟩)
    (hw : ∀ env, swapsWith e (some (.Name x px)) pos.line env = pure false := by intro _; rfl) : SndS M Φ N sc sc0 (.Assign [.Name x px] e pos) (.newL i a) := fun X hX hp =>
  PS.imp (ps_set (by rw [hX.N]; exact nd) (by rw [hX.N]; exact hN) (hs.loc hX) (h X hX) (hw _) (hs.fn hX)) fun Dn σ H h => newL_reads h

/-! ### lists of one's own -/
theorem own_at {F0 H0 F H : Hp} {env : En} {σ : L2.St} (so : SOk M F0 H0 F H env σ) {i : Nat} {ds : List D} (hi : env[i]? = some (.lst ds)) : ∃ a vs, σ[i]? = some (some (.ref a)) ∧ H0 a = none ∧ F a = none ∧ H a = some (.lst vs) ∧ EncLM M F vs ds := by
  obtain ⟨o, hσ, a, vs, rfl, h⟩ := so.at hi
  exact ⟨a, vs, hσ, h⟩
theorem sz_lt' {n : Nat} (h : n.ble 10000 = true) : n < sizeLine := Nat.lt_of_le_of_lt (Nat.le_of_ble_eq_true h) (by rw [sizeLine_eq]; decide)
theorem ss_app {i : Nat} {x : Str} {e : Expr} {a : IE} {px ap cp pos : Pos} (h : SndE M Φ N sc sc0 e a) (hN : N[i]? = some x := by rfl) (hv : Vis sc x := by first | exact Or.inl rfl | exact Or.inr (Or.inl rfl) | exact Or.inr (Or.inr rfl))
    (hd : (x == ("__debug__" : Str)) = false := by decide) (hcd : (x == ("__classdict__" : Str)) = false := by decide) (hs : ∀ env, starEach [e] env = (false, eval e env) :: starEach [] env := by intro _; rfl)
    (hl : (ap.endLine == cp.line) = true := by rfl) : SndS M Φ N sc sc0 (.Expr (.Call (.Attribute (.Name x px) "append" ap) [e] [] cp) pos) (.app i a) := fun X hX hp => by
  have ha : PA X [e] (tCons (tE M Φ a) tNil) := pa_cons (h X hX) pa_nil (hs _)
  have z := pe_bm (cpos := cp) (apos := ap) PySem.F.plainAttrs_list PySem.F.slot_list_append PySem.F.type_list_append mt_append (pe_slot hX (pos := px) hN hv hd hcd) ha (hfew := by rw [hs]; rfl) (hline := hl) (hs := hs _)
  refine PS.imp (ps_expr z rfl) fun Dn σ H h => ?_
  obtain ⟨F0, H0, F, env, r, e, so, k⟩ := h
  unfold evalS at e
  split at e
  · rename_i ds d q1 q2
    split at e
    · rename_i hz
      cases e
      obtain ⟨b, vs, hσ, h0, hf, hb, ev⟩ := own_at so q1
      refine ⟨.ref b, hσ, ?_, ?_⟩
      · exact .inl ⟨rfl, _, SqL.of hb⟩
      · refine ⟨F0, H0, F, env, d, q2, so, fun v F1 H1 x1 e1 => ?_⟩
        have hb1 := x1.h _ _ hb
        have so1 := so.step x1
        obtain ⟨b', vs', hσ', h0', hf', hb', ev'⟩ := own_at so1 q1
        have eb : b' = b := by rw [hσ] at hσ'; cases hσ'; rfl
        subst eb
        refine ⟨b', vs', v, rfl, rfl, hb', ?_, ?_⟩
        · rw [ev'.len]; exact sz_lt' hz
        · exact k _ F1 _ (so1.mut q1 rfl hσ h0 hf' ⟨b', _, rfl, h0, hf', upd_same, ev'.app (.cons e1 .nil)⟩)
    · cases e
  · cases e
end FB

set_option Elab.async false
set_option linter.all false
set_option maxRecDepth 100000
set_option maxHeartbeats 1000000
/-! FBl: what is walked, for, comprehensions. -/
namespace FB
open PySem L2
variable {M : Md} {Φ : Fn → List D → Option D} {N : List Str} {sc sc0 : Scope}

/-! ### what is walked -/
theorem itd_list {F : Hp} {a : Addr} {vs : List V} {ds : List D} (ha : F a = some (.lst vs)) (ev : EncLM M F vs ds) : ItD M (Itl M.K a) F ds := fun F' H' m s i => by
  have hq : ∀ xs, SqL M.K H' a xs → True := fun _ _ => trivial
  have h' : SqL M.K H' a vs := SqL.of (s _ _ (m _ _ ha))
  refine ⟨fun hi => ?_, fun hi => ⟨vs, h', by rw [ev.len]; exact hi⟩⟩
  have hv : i < vs.length := by rw [ev.len]; exact hi
  refine ⟨⟨vs, vs[i], h', by simp [hv]⟩, fun x H'' y => ?_⟩
  obtain ⟨e, y⟩ := y
  have q := y vs h'
  obtain ⟨d, e1, e2⟩ := ev.getV q
  exact ⟨e, d, F', e1, .refl s, e2.mono m⟩
theorem itd_tup {F : Hp} {a : Addr} {vs : List V} {ds : List D} (ha : F a = some (.tup vs)) (ev : EncLM M F vs ds) : ItD M (Itt M.K a) F ds := fun F' H' m s i => by
  have h' : SqT M.K H' a vs := SqT.of (s _ _ (m _ _ ha))
  refine ⟨fun hi => ?_, fun hi => ⟨vs, h', by rw [ev.len]; exact hi⟩⟩
  have hv : i < vs.length := by rw [ev.len]; exact hi
  refine ⟨⟨vs, vs[i], h', by simp [hv]⟩, fun x H'' y => ?_⟩
  obtain ⟨e, y⟩ := y
  have q := y vs h'
  obtain ⟨d, e1, e2⟩ := ev.getV q
  exact ⟨e, d, F', e1, .refl s, e2.mono m⟩
theorem itd_tupF {F : Hp} {o : Obj} {a : Addr} {vs : List V} {ds : List D} (ha : F a = some (.frz o (.tup vs))) (ev : EncLM M F vs ds) : ItD M (Itt M.K a) F ds := fun F' H' m s i => by
  have h' : SqT M.K H' a vs := .inl (.inr ⟨_, s _ _ (m _ _ ha)⟩)
  refine ⟨fun hi => ?_, fun hi => ⟨vs, h', by rw [ev.len]; exact hi⟩⟩
  have hv : i < vs.length := by rw [ev.len]; exact hi
  refine ⟨⟨vs, vs[i], h', by simp [hv]⟩, fun x H'' y => ?_⟩
  obtain ⟨e, y⟩ := y
  have q := y vs h'
  obtain ⟨d, e1, e2⟩ := ev.getV q
  exact ⟨e, d, F', e1, .refl s, e2.mono m⟩
theorem itd_rng {F : Hp} {lo : Int} {n : Nat} : ItD M (Itr lo n) F ((List.range n).map fun (i : Nat) => .int (lo + (i : Int))) := fun F' H' m s i => by
  rw [List.length_map, List.length_range]
  refine ⟨fun hi => ⟨hi, fun x H'' y => ?_⟩, fun hi => hi⟩
  obtain ⟨e, y⟩ := y
  subst y
  exact ⟨e, .int (lo + (i : Int)), F', by simp [hi], .refl s, .int⟩
theorem itd_rngC {F : Hp} {lo c : Int} {n : Nat} : ItD M (Itc lo c n) F ((List.range n).map fun (i : Nat) => .int (lo + (i : Int) * c)) := fun F' H' m s i => by
  rw [List.length_map, List.length_range]
  refine ⟨fun hi => ⟨hi, fun x H'' y => ?_⟩, fun hi => hi⟩
  obtain ⟨e, y⟩ := y
  subst y
  exact ⟨e, .int (lo + (i : Int) * c), F', by simp [hi], .refl s, .int⟩
/-- a list or a tuple -/
theorem si_val {tg e : Expr} {a : IE} (h : SndE M Φ N sc sc0 e a) : SndI M Φ N sc sc0 tg e 0 a := fun X hX =>
  PI.imp (PI.or (pi_list (h X hX)) (pi_tup (h X hX))) fun σ H R h => by
    obtain ⟨F0, H0, F, env, x, ds, e, w, so, k⟩ := h
    rw [hX.K]
    cases x with
    | lst l =>
      cases (Option.some.inj w)
      refine .inl ⟨F0, H0, F, env, _, e, so, fun v F' H' x1 ev => ?_⟩
      cases ev with
      | lst ha el => exact ⟨_, rfl, ⟨_, SqL.of (x1.s _ _ ha)⟩, k _ F' H' x1 (itd_list ha el)⟩
    | tup l =>
      cases (Option.some.inj w)
      refine .inr ⟨F0, H0, F, env, _, e, so, fun v F' H' x1 ev => ?_⟩
      cases ev with
      | tup ha el => exact ⟨_, rfl, ⟨_, SqT.of (x1.s _ _ ha)⟩, k _ F' H' x1 (itd_tup ha el)⟩
    | ptup l =>
      cases (Option.some.inj w)
      refine .inr ⟨F0, H0, F, env, _, e, so, fun v F' H' x1 ev => ?_⟩
      cases ev with
      | ptup ha hd el => exact ⟨_, rfl, ⟨_, .inl (.inr ⟨_, x1.s _ _ ha⟩)⟩, k _ F' H' x1 (itd_tupF ha el)⟩
    | _ => cases w
theorem okR_of {i : Int} (h : okR i = true) : -(2 ^ 62) ≤ i ∧ i < 2 ^ 62 := by
  unfold okR at h
  rw [Bool.and_eq_true] at h
  exact ⟨of_decide_eq_true h.1, of_decide_eq_true h.2⟩
theorem walked1 {x : D} {ds : List D} (h : walked 1 x = some ds) : ∃ n, x = .tup [.int n] ∧ okR n = true ∧ ds = (List.range n.toNat).map fun (i : Nat) => .int (0 + (i : Int)) := by
  cases x with
  | tup l =>
    cases l with
    | nil => cases h
    | cons d r =>
      cases r with
      | cons _ _ => cases d <;> first | cases h | (rename_i z _ _; cases z <;> first | cases h | (rename_i y _ _; cases y <;> cases h))
      | nil =>
        cases d with
        | int n =>
          have h : (if okR n then some ((List.range n.toNat).map fun (i : Nat) => D.int (0 + (i : Int))) else none) = some ds := h
          split at h
          · rename_i q; exact ⟨n, rfl, q, (Option.some.inj h).symm⟩
          · cases h
        | _ => cases h
  | _ => cases h
theorem walked2 {x : D} {ds : List D} (h : walked 2 x = some ds) : ∃ a b, x = .tup [.int a, .int b] ∧ okR a = true ∧ okR b = true ∧ ds = (List.range (b - a).toNat).map fun (i : Nat) => .int (a + (i : Int)) := by
  cases x with
  | tup l =>
    cases l with
    | nil => cases h
    | cons d r =>
      cases r with
      | nil => cases d <;> cases h
      | cons e r =>
        cases r with
        | cons f r => cases d <;> first | cases h | (cases e <;> cases h)
        | nil =>
          cases d with
          | int a =>
            cases e with
            | int b =>
              have h : (if okR a && okR b then some ((List.range (b - a).toNat).map fun (i : Nat) => D.int (a + (i : Int))) else none) = some ds := h
              split at h
              · rename_i q; rw [Bool.and_eq_true] at q; exact ⟨a, b, rfl, q.1, q.2, (Option.some.inj h).symm⟩
              · cases h
            | _ => cases h
          | _ => cases h
  | _ => cases h
theorem walked3 {x : D} {ds : List D} (h : walked 3 x = some ds) : ∃ a b, x = .tup [.int a, .int b] ∧ okR a = true ∧ okR b = true ∧ ds = (List.range (a - b).toNat).map fun (i : Nat) => .int (a + (i : Int) * (-1)) := by
  cases x with
  | tup l =>
    cases l with
    | nil => cases h
    | cons d r =>
      cases r with
      | nil => cases d <;> cases h
      | cons e r =>
        cases r with
        | cons f r => cases d <;> first | cases h | (cases e <;> cases h)
        | nil =>
          cases d with
          | int a =>
            cases e with
            | int b =>
              have h : (if okR a && okR b then some ((List.range (a - b).toNat).map fun (i : Nat) => D.int (a + (i : Int) * (-1))) else none) = some ds := h
              split at h
              · rename_i q; rw [Bool.and_eq_true] at q; exact ⟨a, b, rfl, q.1, q.2, (Option.some.inj h).symm⟩
              · cases h
            | _ => cases h
          | _ => cases h
  | _ => cases h
theorem glob_of {X : Cx} (hX : XOk M N sc sc0 X) {x : Str} (h : sc.names.lookup x = some .globalImplicit) : Gl X x := by
  show X.env.scope.names.lookup x = _
  rw [hX.sc]; exact h
theorem mg_of {X : Cx} (hX : XOk M N sc sc0 X) {x : Str} {o : Option Value} (h : M.mg x = o) : X.mg x = o := by rw [hX.mg]; exact h
theorem si_r1 {tg e : Expr} {a : IE} {p pos : Pos} (h : SndA M Φ N sc sc0 [e] a) (hm : M.mg "range" = none) (hg : sc.names.lookup ("range" : Str) = some .globalImplicit := by rfl) (hs : ∀ env, starEach [e] env = [(false, eval e env)] := by intro _; rfl) :
    SndI M Φ N sc sc0 tg (.Call (.Name "range" p) [e] [] pos) 1 a := fun X hX =>
  PI.imp (pi_range1 (glob_of hX hg) (mg_of hX hm) (h X hX) (hs _)) fun σ H R h => by
    obtain ⟨F0, H0, F, env, x, ds, e, w, so, k⟩ := h
    obtain ⟨n, rfl, hn, rfl⟩ := walked1 w
    obtain ⟨b1, b2⟩ := okR_of hn
    refine ⟨F0, H0, F, env, _, e, so, fun vs F' H' x1 ev => ?_⟩
    cases ev with
    | cons r t =>
      cases r
      cases t
      exact ⟨n, rfl, b1, b2, k _ F' H' x1 itd_rng⟩
theorem si_r2 {tg e f : Expr} {a : IE} {p pos : Pos} (h : SndA M Φ N sc sc0 [e, f] a) (hm : M.mg "range" = none) (hg : sc.names.lookup ("range" : Str) = some .globalImplicit := by rfl)
    (hs : ∀ env, starEach [e, f] env = [(false, eval e env), (false, eval f env)] := by intro _; rfl) (hs2 : ∀ env, starEach [f] env = [(false, eval f env)] := by intro _; rfl) :
    SndI M Φ N sc sc0 tg (.Call (.Name "range" p) [e, f] [] pos) 2 a := fun X hX =>
  PI.imp (pi_range2 (glob_of hX hg) (mg_of hX hm) (h X hX) (hs _) (hs2 _)) fun σ H R h => by
    obtain ⟨F0, H0, F, env, x, ds, e, w, so, k⟩ := h
    obtain ⟨n, m, rfl, hn, hm, rfl⟩ := walked2 w
    obtain ⟨b1, b2⟩ := okR_of hn
    obtain ⟨b3, b4⟩ := okR_of hm
    refine ⟨F0, H0, F, env, _, e, so, fun vs F' H' x1 ev => ?_⟩
    cases ev with
    | cons r t =>
      cases r
      cases t with
      | cons r t =>
        cases r
        cases t
        exact ⟨n, m, rfl, ⟨b1, b2, b3, b4⟩, k _ F' H' x1 itd_rng⟩
/-- range(a, b, -1) -/
theorem si_r3 {tg e f : Expr} {a b : IE} {j : Nat} {p p1 p2 pos : Pos} (ha : SndE M Φ N sc sc0 e a) (hb : SndE M Φ N sc sc0 f b) (hm : M.mg "range" = none) (hg : sc.names.lookup ("range" : Str) = some .globalImplicit := by rfl)
    (hs : ∀ g env, starEach [e, f, g] env = (false, eval e env) :: starEach [f, g] env := by intro _ _; rfl) (hs2 : ∀ g env, starEach [f, g] env = (false, eval f env) :: starEach [g] env := by intro _ _; rfl) :
    SndI M Φ N sc sc0 tg (.Call (.Name "range" p) [e, f, .UnaryOp .USub (.Constant (.int 1) j p1) p2] [] pos) 3 (.cons a (.cons b .nil)) := fun X hX =>
  PI.imp (pi_range3 (glob_of hX hg) (mg_of hX hm) (pa_cons (ha X hX) (pa_cons (hb X hX) (pa_cons (pe_un un_neg pe_int) pa_nil) (hs2 _ _)) (hs _ _)) (hs _ _) (by rw [hs2]; rfl)) fun σ H R h => by
    obtain ⟨F0, H0, F, env, x, ds, e, w, so, k⟩ := h
    obtain ⟨n, m, rfl, hn, hm, rfl⟩ := walked3 w
    obtain ⟨b1, b2⟩ := okR_of hn
    obtain ⟨b3, b4⟩ := okR_of hm
    obtain ⟨x, y, h1, h2, e3⟩ := ev_cons2 e
    injection e3 with e3
    injection e3 with e3 e4
    injection e4 with e4 _
    subst e3 e4
    refine ⟨F0, H0, F, env, _, h1, so, fun v F1 H1 x1 ev => ⟨F0, H0, F1, env, _, h2, so.step x1, fun u F2 H2 x2 eu => ?_⟩⟩
    cases ev
    cases eu
    exact ⟨1, rfl, n, m, -1, (n - m).toNat, rfl, RgC.neg b1 b2 b3 b4, k _ F2 H2 (x1.trans x2) itd_rngC⟩

/-! ### for -/
theorem ev_for {k : Nat} (hk : k ≠ 4) {arg : IE} {tg : Tg} {body : IS} {env : En} {r : Fl} (h : evalS Φ (.forE k arg tg body) env = some r) : ∃ x ds, evalE Φ arg env = some x ∧ walked k x = some ds ∧ forGo (evalS Φ body) tg ds env = some r := by
  have fin : ∀ {o : Option Fl}, o = some r → (o = match evalE Φ arg env with
      | some x => match walked k x with
        | some ds => forGo (evalS Φ body) tg ds env
        | none => none
      | none => none) → ∃ x ds, evalE Φ arg env = some x ∧ walked k x = some ds ∧ forGo (evalS Φ body) tg ds env = some r := fun {o} h e => by
    rw [e] at h
    cases q : evalE Φ arg env with
    | none => rw [q] at h; cases h
    | some x =>
      rw [q] at h
      simp only at h
      cases q2 : walked k x with
      | none => rw [q2] at h; cases h
      | some ds => rw [q2] at h; exact ⟨x, ds, rfl, q2, h⟩
  match k, hk with
  | 0, _ => exact fin h rfl
  | 1, _ => exact fin h rfl
  | 2, _ => exact fin h rfl
  | 3, _ => exact fin h rfl
  | 4, hk => exact absurd rfl hk
  | n + 5, _ => exact fin h rfl
theorem drop_at {α : Type} {l : List α} {i : Nat} {d : α} (h : l[i]? = some d) : l.drop i = d :: l.drop (i + 1) := by
  obtain ⟨h1, h2⟩ := List.getElem?_eq_some_iff.mp h
  rw [List.drop_eq_getElem_cons h1, h2]
theorem Ext.comp {F0 H0 F H F' H' : Hp} (a : Ext F0 H0 F H) (b : Ext F H0 F' H') : Ext F0 H0 F' H' := ⟨a.f.trans b.f, b.h, b.s, fun p u e n => by
  rcases a.n p u e n with q | q
  · exact b.n p u e q
  · exact .inr q⟩
theorem SOk.rebase {F0 H0 F H : Hp} {env : En} {σ : L2.St} (so : SOk M F0 H0 F H env σ) : SOk M F H0 F H env σ := ⟨⟨Same.refl F, so.x.h, so.x.s, fun _ _ _ n => .inl n⟩, so.len, so.sl, so.ap⟩
theorem SOk.back {F0 H0 F H F' H' : Hp} {env : En} {σ : L2.St} (so : SOk M F H0 F' H' env σ) (x : Ext F0 H0 F H) : SOk M F0 H0 F' H' env σ := ⟨x.comp so.x, so.len, so.sl, so.ap⟩
/-- a walk, while Hb stands -/
def ItH (M : Md) (J : It) (F Hb : Hp) (ds : List D) : Prop := ∀ F' H', Same F F' → Same F' H' → Same Hb H' → ∀ i,
  (i < ds.length → J.go i H' ∧ ∀ x H'', J.yld i H' x H'' → H'' = H' ∧ ∃ d F'', ds[i]? = some d ∧ Ext F' H' F'' H' ∧ EncM M F'' x d) ∧ (ds.length ≤ i → J.stop i H')
theorem ItD.h {J : It} {F : Hp} {ds : List D} (h : ItD M J F ds) (Hb : Hp) : ItH M J F Hb ds := fun F' H' m s _ i => h F' H' m s i
/-- the turns -/
theorem for_turns {J : It} {tg : Tg} {body : IS} {ds : List D} {F0 H0 F1 H1 : Hp} {env : En} {σ : L2.St} {r : Fl} {Dn : Ends} (so : SOk M F0 H0 F1 H1 env σ) (it : ItH M J F1 H0 ds) (e : forGo (evalS Φ body) tg ds env = some r) (k : FlOk M F0 H0 Dn r) :
    ∃ W : Nat → Nat → L2.St → Hp → Prop, (∃ m, W 0 m σ H1) ∧ ∀ i m σ H, W i m σ H →
      (J.stop i H ∧ Dn.nx σ H) ∨ (J.go i H ∧ ∃ Nx : L2.St → Hp → Prop, (∀ σ' H', Nx σ' H' → ∃ m', m' < m ∧ W (i + 1) m' σ' H') ∧ ∀ x H', J.yld i H x H' → gTg M.K tg x σ H' fun σ2 H2 => tSt M Φ body { Dn with nx := Nx, ct := Nx, bk := Dn.nx } σ2 H2) := by
  refine ⟨fun i m σ H => m = ds.length - i ∧ i ≤ ds.length ∧ ∃ F env, Same F1 F ∧ SOk M F0 H0 F H env σ ∧ forGo (evalS Φ body) tg (ds.drop i) env = some r, ⟨ds.length, by simp, Nat.zero_le _, F1, env, Same.refl _, so, e⟩, ?_⟩
  rintro i m σ H ⟨rfl, hi, F, env, mF, so, e⟩
  obtain ⟨g, st⟩ := it F H mF so.fh so.x.h i
  by_cases hlt : i < ds.length
  · obtain ⟨go, yl⟩ := g hlt
    obtain ⟨d, hd⟩ : ∃ d, ds[i]? = some d := ⟨ds[i], by simp [hlt]⟩
    rw [drop_at hd] at e
    unfold forGo at e
    cases q1 : tgSet tg d env with
    | none => rw [q1] at e; cases e
    | some e1 =>
      rw [q1] at e
      simp only at e
      cases q2 : evalS Φ body e1 with
      | none => rw [q2] at e; cases e
      | some f =>
        rw [q2] at e
        refine .inr ⟨go, ?_⟩
        cases f with
        | nx e2 =>
          simp only at e
          refine ⟨fun σ' H' => ∃ F', Same F1 F' ∧ SOk M F0 H0 F' H' e2 σ', fun σ' H' ⟨F', m', so'⟩ => ⟨ds.length - (i + 1), by omega, rfl, hlt, F', e2, m', so', e⟩, fun x H' y => ?_⟩
          obtain ⟨eH, d', F'', hd', x1, ev⟩ := yl x H' y
          subst eH
          rw [hd] at hd'
          cases hd'
          obtain ⟨σ2, so2, _, gk⟩ := gtg (so.step x1) ev q1
          exact gk _ ⟨F'', H0, F'', e1, _, q2, so2.rebase, fun σ' F' H' so' => ⟨F', (mF.trans x1.f).trans so'.x.f, so'.back so2.x⟩⟩
        | rt d2 =>
          cases (Option.some.inj e)
          refine ⟨fun _ _ => False, fun _ _ z => z.elim, fun x H' y => ?_⟩
          obtain ⟨eH, d', F'', hd', x1, ev⟩ := yl x H' y
          subst eH
          rw [hd] at hd'
          cases hd'
          obtain ⟨σ2, so2, _, gk⟩ := gtg (so.step x1) ev q1
          exact gk _ ⟨F0, H0, F'', e1, _, q2, so2, k⟩
  · have ei : i = ds.length := by omega
    subst ei
    rw [List.drop_length] at e
    cases (Option.some.inj e)
    exact .inl ⟨st (Nat.le_refl _), k σ F H so⟩

theorem ss_for {tgE iter : Expr} {body : List Stmt} {k : Nat} {arg : IE} {tg : Tg} {ib : IS} {pos : Pos} (hk : k ≠ 4) (hi : SndI M Φ N sc sc0 tgE iter k arg) (hg : SndG M N sc sc0 tgE tg) (hb : SndB M Φ N sc sc0 body ib)
    (hs : ∀ env x, foldedSetIterable iter env x = pure x := by intro _ _; rfl) : SndS M Φ N sc sc0 (.For tgE iter body [] pos) (.forE k arg tg ib) := fun X hX hp =>
  PS.imp (ps_for hp hX.calm (hi X hX) (hg X hX) (hb X hX hp) (hs _)) fun Dn σ H h => by
    obtain ⟨F0, H0, F, env, r, e, so, kk⟩ := h
    obtain ⟨x, ds, e1, e2, e3⟩ := ev_for hk e
    exact ⟨F0, H0, F, env, x, ds, e1, e2, so, fun J F' H' x1 it => for_turns (so.step x1) (it.h _) e3 kk⟩

/-! ### a dict of one's own is walked -/
section
variable {F0 H0 F H F' H' : Hp} {env : En} {σ : L2.St}
theorem SOk.dict (so : SOk M F0 H0 F H env σ) {i : Nat} {kvs : List (List Int × D)} (hi : env[i]? = some (.dct kvs false)) : ∃ a kv', σ[i]? = some (some (.ref a)) ∧ H0 a = none ∧ F a = none ∧ H a = some (.dT kv') ∧ EncK M.K M.CA F kv' kvs := by
  obtain ⟨o, hσ, a, kv', rfl, h⟩ := so.at hi
  exact ⟨a, kv', hσ, h⟩
/-- locked -/
theorem SOk.lock (so : SOk M F0 H0 F H env σ) {i : Nat} {kvs : List (List Int × D)} {a : Addr} {od : Obj} {kv' : List (List Key × V)} (hi : env[i]? = some (.dct kvs false)) (hσ : σ[i]? = some (some (.ref a))) (h0 : H0 a = none) (hf : F a = none) (ha : H a = some (.dT kv')) (ek : EncK M.K M.CA F kv' kvs) :
    SOk M F0 (upd H0 a (.frz od (.dT kv'))) F (upd H a (.frz od (.dT kv'))) (env.set i (.dct kvs true)) σ := by
  have hx : Ext F0 (upd H0 a (.frz od (.dT kv'))) F (upd H a (.frz od (.dT kv'))) := by
    refine ⟨so.x.f, fun b u q => ?_, fun b u q => ?_, fun b u q n => ?_⟩
    · by_cases z : b = a
      · subst z; rw [upd_same] at q ⊢; exact q
      · rw [upd_ne z] at q ⊢; exact so.x.h b u q
    · rw [upd_ne (ne_of_none q hf)]; exact so.x.s b u q
    · by_cases z : b = a
      · subst z; exact .inl hf
      · rw [upd_ne z] at q; exact so.x.n b u q n
  refine ⟨hx, by rw [List.length_set, so.len], fun j t o h1 h3 => ?_, fun j l t u b hn h1 h3 o1 o3 h4 h5 => ?_⟩
  · rcases set_cases h1 with ⟨q, e1, _⟩ | ⟨q, e1⟩
    · subst q e1
      rw [hσ] at h3
      cases h3
      exact ⟨a, od, kv', rfl, upd_same, ek⟩
    · have z := so.sl j t o e1 h3
      have ne : ∀ {b : Addr}, o = some (.ref b) → t.own = true → b ≠ a := fun e1' o1 q' => by
        rw [e1', q'] at h3
        exact so.ap i j _ t a q hi e1 rfl o1 hσ h3
      cases t with
      | non => trivial
      | val d => exact z
      | lst ds => obtain ⟨b, vs, e1, e2, e3, e4, e5⟩ := z; exact ⟨b, vs, e1, by rw [upd_ne (ne e1 rfl)]; exact e2, e3, by rw [upd_ne (ne e1 rfl)]; exact e4, e5⟩
      | dct kvs lk =>
        cases lk with
        | false => obtain ⟨b, kv', e1, e2, e3, e4, e5⟩ := z; exact ⟨b, kv', e1, by rw [upd_ne (ne e1 rfl)]; exact e2, e3, by rw [upd_ne (ne e1 rfl)]; exact e4, e5⟩
        | true =>
          obtain ⟨b, od', kv2, e1, e2, e5⟩ := z
          refine ⟨b, od', kv2, e1, ?_, e5⟩
          rw [upd_ne (ne_of_none e2 h0)]; exact e2
      | dk d => obtain ⟨b, c, v, e1, e2, e3, e4, e5⟩ := z; exact ⟨b, c, v, e1, by rw [upd_ne (ne e1 rfl)]; exact e2, e3, by rw [upd_ne (ne e1 rfl)]; exact e4, e5⟩
      | ins c ds => obtain ⟨b, dx, vs, e1, e2, e3, e4, e5⟩ := z; exact ⟨b, dx, vs, e1, by rw [upd_ne (ne e1 rfl)]; exact e2, e3, by rw [upd_ne (ne e1 rfl)]; exact e4, e5⟩
  · have own : ∀ {j : Nat} {t : Sl}, (env.set i (.dct kvs true))[j]? = some t → t.own = true → env[j]? = some t := fun {j t} q1 q2 => by
      rcases set_cases q1 with ⟨q, e1, _⟩ | ⟨q, e1⟩
      · subst e1; cases q2
      · exact e1
    exact so.ap j l t u b hn (own h1 o1) (own h3 o3) o1 o3 h4 h5
/-- and unlocked: the heaps -/
theorem Ext.unlock {a : Addr} {od : Obj} {u : HO} (ha : H a = some u) (hf : F a = none) (x : Ext F (upd H a (.frz od u)) F' H') : Ext F H F' (upd H' a u) ∧ F' a = none := by
  have hfa : F' a = none := by
    rcases x.n a _ upd_same hf with q | ⟨xs, q⟩
    · exact q
    · cases q
  refine ⟨⟨x.f, fun b v q => ?_, fun b v q => ?_, fun b v q n => ?_⟩, hfa⟩
  · by_cases z : b = a
    · subst z; rw [upd_same]; rw [ha] at q; exact q
    · rw [upd_ne z]; exact x.h b v (by rw [upd_ne z]; exact q)
  · rw [upd_ne (ne_of_none q hfa)]; exact x.s b v q
  · by_cases z : b = a
    · subst z; exact .inl hfa
    · exact x.n b v (by rw [upd_ne z]; exact q) n
theorem SOk.clr (so : SOk M F0 (upd H0 a (.frz od (.dT kv'))) F H env σ) (h0 : H0 a = none) (f0 : F0 a = none) : SOk M F0 H0 F (upd H a (.dT kv')) (clr env) σ := by
  have hfa : F a = none := by
    rcases so.x.n a _ upd_same f0 with q | ⟨xs, q⟩
    · exact q
    · cases q
  have hx : Ext F0 H0 F (upd H a (.dT kv')) := by
    refine ⟨so.x.f, fun b v q => ?_, fun b v q => ?_, fun b v q n => ?_⟩
    · have z : b ≠ a := ne_of_none q h0
      rw [upd_ne z]; exact so.x.h b v (by rw [upd_ne z]; exact q)
    · rw [upd_ne (ne_of_none q hfa)]; exact so.x.s b v q
    · have z : b ≠ a := ne_of_none q h0
      exact so.x.n b v (by rw [upd_ne z]; exact q) n
  have at_ : ∀ {j : Nat} {t : Sl}, (FB.clr env)[j]? = some t → ∃ t', env[j]? = some t' ∧ t = clr1 t' := fun {j t} h => by
    unfold FB.clr at h
    rw [List.getElem?_map] at h
    cases q : env[j]? with
    | none => rw [q] at h; cases h
    | some t' => rw [q] at h; exact ⟨t', rfl, (Option.some.inj h).symm⟩
  have none_a : ∀ {b : Addr}, (upd H0 a (.frz od (.dT kv'))) b = none → b ≠ a := fun {b} q z => by rw [z, upd_same] at q; cases q
  have none_b : ∀ {b : Addr}, (upd H0 a (.frz od (.dT kv'))) b = none → H0 b = none := fun {b} q => by rw [upd_ne (none_a q)] at q; exact q
  refine ⟨hx, by unfold FB.clr; rw [List.length_map, so.len], fun j t o h1 h3 => ?_, fun j l t u b hn h1 h3 o1 o3 h4 h5 => ?_⟩
  · obtain ⟨t', e1, rfl⟩ := at_ h1
    have z := so.sl j t' o e1 h3
    cases t' with
    | non => trivial
    | val d => exact z
    | lst ds => obtain ⟨b, vs, e1, e2, e3, e4, e5⟩ := z; exact ⟨b, vs, e1, none_b e2, e3, by rw [upd_ne (none_a e2)]; exact e4, e5⟩
    | dct kvs lk =>
      cases lk with
      | false => obtain ⟨b, kv', e1, e2, e3, e4, e5⟩ := z; exact ⟨b, kv', e1, none_b e2, e3, by rw [upd_ne (none_a e2)]; exact e4, e5⟩
      | true => trivial
    | dk d => obtain ⟨b, c, v, e1, e2, e3, e4, e5⟩ := z; exact ⟨b, c, v, e1, none_b e2, e3, by rw [upd_ne (none_a e2)]; exact e4, e5⟩
    | ins c ds => obtain ⟨b, dx, vs, e1, e2, e3, e4, e5⟩ := z; exact ⟨b, dx, vs, e1, none_b e2, e3, by rw [upd_ne (none_a e2)]; exact e4, e5⟩
  · obtain ⟨t', e1, rfl⟩ := at_ h1
    obtain ⟨u', e3, rfl⟩ := at_ h3
    have own : ∀ {t : Sl}, (clr1 t).own = true → t.own = true := fun {t} q => by
      cases t with
      | dct kvs lk => cases lk <;> first | exact q | cases q
      | _ => exact q
    exact so.ap j l t' u' b hn e1 e3 (own o1) (own o3) h4 h5
end
theorem enck_len {K : PySem.W.Frag} {CA : Nat → Addr} {F : Hp} : ∀ {kv : List (List Key × V)} {kvs : List (List Int × D)}, EncK K CA F kv kvs → kv.length = kvs.length
  | _, _, .nil => rfl
  | _, _, .cons _ t => congrArg Nat.succ (enck_len t)
theorem enck_get {K : PySem.W.Frag} {CA : Nat → Addr} {F : Hp} : ∀ {kv : List (List Key × V)} {kvs : List (List Int × D)} {i : Nat} {k : List Key} {v : V}, EncK K CA F kv kvs → kv[i]? = some (k, v) → ∃ (ks : List Int) (d : D), kvs[i]? = some (ks, d) ∧ k = ks.map Sum.inl ∧ Enc K CA F v d
  | _, _, _, _, _, .nil, h => by simp at h
  | _, _, 0, _, _, .cons r _, h => by
    have e := Option.some.inj (show some _ = some _ from h)
    injection e with e1 e2
    subst e1 e2
    exact ⟨_, _, rfl, rfl, r⟩
  | _, _, i + 1, _, _, .cons _ t, h => enck_get (i := i) t h
theorem keys_kV (k : List Int) : (k.map Sum.inl).map kV = k.map V.int := by
  rw [List.map_map]; rfl
theorem enc_key {F H : Hp} {q : Addr} {k : List Int} (s : Same F H) (h : H q = some (.tup (k.map V.int))) : ∃ F', Ext F H F' H ∧ EncM M F' (.ref q) (.tup (k.map D.int)) := ⟨_, .know s h, .tup upd_same (.ofInts k)⟩
theorem itd_keys {F Hb : Hp} {a : Addr} {od : Obj} {kv : List (List Key × V)} {kvs : List (List Int × D)} (ek : EncK M.K M.CA F kv kvs) (hb : Hb a = some (.frz od (.dT kv))) : ItH M (Itkt a od kv) F Hb (kvs.map fun kv => D.tup (kv.1.map .int)) := fun F' H' m s sb i => by
  have ha := sb _ _ hb
  rw [List.length_map, ← enck_len ek]
  refine ⟨fun hi => ⟨⟨ha, hi⟩, fun x H'' y => ?_⟩, fun hi => ⟨ha, hi⟩⟩
  obtain ⟨eH, k, v, q, h1, rfl, h2⟩ := y
  obtain ⟨ks, d, e1, rfl, _⟩ := enck_get ek h1
  rw [keys_kV] at h2
  obtain ⟨F'', x1, ev⟩ := enc_key (M := M) s h2
  exact ⟨eH, _, F'', by rw [List.getElem?_map, e1]; rfl, x1, ev⟩

theorem ev_forD {i : Nat} {tg : Tg} {body : IS} {env : En} {r : Fl} (h : evalS Φ (.forE 4 (.var i) tg body) env = some r) : ∃ kvs f, env[i]? = some (.dct kvs false) ∧ forGo (evalS Φ body) tg (kvs.map fun kv => .tup (kv.1.map .int)) (env.set i (.dct kvs true)) = some f ∧
    r = (match f with
      | .nx e => .nx (clr e)
      | .rt d => .rt d) := by
  have e1 : evalS Φ (.forE 4 (.var i) tg body) env = (match env[i]? with
        | some (.dct kvs false) => match forGo (evalS Φ body) tg (kvs.map fun kv => .tup (kv.1.map .int)) (env.set i (.dct kvs true)) with
          | some (.nx e) => some (.nx (clr e))
          | r => r
        | _ => none) := rfl
  rw [e1] at h
  cases q : env[i]? with
  | none => rw [q] at h; cases h
  | some s =>
    rw [q] at h
    cases s with
    | dct kvs lk =>
      cases lk with
      | true => cases h
      | false =>
        simp only at h
        cases q2 : forGo (evalS Φ body) tg (kvs.map fun kv => D.tup (kv.1.map .int)) (env.set i (.dct kvs true)) with
        | none => rw [q2] at h; cases h
        | some f =>
          rw [q2] at h
          refine ⟨kvs, f, rfl, q2, ?_⟩
          cases f with
          | nx e => exact (Option.some.inj h).symm
          | rt d => exact (Option.some.inj h).symm
    | _ => cases h
/-- for k in d -/
theorem ss_forD {tgE : Expr} {x : Str} {body : List Stmt} {i : Nat} {tg : Tg} {ib : IS} {px pos : Pos} (hg : SndG M N sc sc0 tgE tg) (hb : SndB M Φ N sc sc0 body ib) (hN : N[i]? = some x := by rfl)
    (hv : Vis sc x := by first | exact Or.inl rfl | exact Or.inr (Or.inl rfl) | exact Or.inr (Or.inr rfl)) (hd : (x == ("__debug__" : Str)) = false := by decide) (hcd : (x == ("__classdict__" : Str)) = false := by decide) :
    SndS M Φ N sc sc0 (.For tgE (.Name x px) body [] pos) (.forE 4 (.var i) tg ib) := fun X hX hp =>
  PS.imp (ps_lock (ps_for hp hX.calm (pi_keys (pe_slot hX (pos := px) hN hv hd hcd)) (hg X hX) (hb X hX hp) (by intro _; rfl))) fun Dn σ H h => by
    obtain ⟨F0, H0, F, env, r, e, so, kk⟩ := h
    obtain ⟨kvs, f, hi, e3, er⟩ := ev_forD e
    obtain ⟨a, kv', hσ, h0, hf, ha, ek⟩ := so.dict hi
    refine ⟨a, .dT kv', ha, trivial, fun od => ?_⟩
    refine ⟨_, hσ, a, od, rfl, .inr ⟨kv', upd_same, ?_⟩⟩
    have f0 : F0 a = none := so.x.f.free hf
    refine for_turns (so.lock (od := od) hi hσ h0 hf ha ek) (itd_keys ek upd_same) e3 ?_
    subst er
    cases f with
    | nx e2 => exact fun σ' F' H' so' => ⟨so'.x.h _ _ upd_same, kk σ' F' _ (so'.clr h0 f0)⟩
    | rt d =>
      refine fun v F' H' x ev => ⟨x.h _ _ upd_same, kk v F' _ ?_ ev⟩
      have hfa : F' a = none := by
        rcases x.n a _ upd_same f0 with q | ⟨xs, q⟩
        · exact q
        · cases q
      refine ⟨x.f, fun b v q => ?_, fun b v q => ?_, fun b v q n => ?_⟩
      · have z : b ≠ a := ne_of_none q h0
        rw [upd_ne z]; exact x.h b v (by rw [upd_ne z]; exact q)
      · rw [upd_ne (ne_of_none q hfa)]; exact x.s b v q
      · have z : b ≠ a := ne_of_none q h0
        exact x.n b v (by rw [upd_ne z]; exact q) n

/-! ### comprehensions -/
def SndTs (M : Md) (Φ : Fn → List D → Option D) (N : List Str) (sc sc0 : Scope) (ifs : List Expr) (ie : IE) : Prop := ∀ X, XOk M N sc sc0 X → PTs X ifs (tT M Φ ie)
theorem sts_nil : SndTs M Φ N sc sc0 [] (.cst (.bl true)) := fun X _ => ⟨fun pins s σ H Q I h => by
  obtain ⟨F0, H0, F, env, b, e, so, k⟩ := h
  injection e with e
  injection e with e
  subst e
  exact pts_nil.run pins s σ H Q I (k F H (.refl so.fh))⟩
theorem sts_one {c : Expr} {a : IE} (h : SndT M Φ N sc sc0 c a) : SndTs M Φ N sc sc0 [c] a := fun X hX => pts_one (h X hX)
theorem XOk.blk {X : Cx} (hX : XOk M N sc sc0 X) (scope : Scope) (s : Shared) (H : Hp) (C : Addr) (cl : List (Str × Addr)) (fp : List Addr) : XOk M N (relS scope sc) scope (X.blk s H scope (compEnvC scope cl C X.env) fp) := by
  refine ⟨hX.prog, hX.w, hX.K, hX.mg, hX.base, hX.N, ?_, hX.calm, hX.room, fun x h => ?_⟩
  · show relS scope X.env.scope = _
    rw [hX.sc]
  · show (scope.names.lookup x == some .cell) = true
    rw [h]; rfl
theorem lc_turns {J : It} {tg : Tg} {test elt : IE} {vs : List Nat} {ds ys : List D} {F0 H0 F1 H1 : Hp} {env : En} {σ : L2.St} {D0 : Addr} {Qd : Hp → Prop} (so : SOk M F0 H0 F1 H1 env σ) (it : ItH M J F1 H1 ds) (hz : ds.length.ble 10000 = true) (hin : tgIn tg vs)
    (e : lcGo (evalE Φ test) (evalE Φ elt) tg (wipeE env vs) ds = some ys) (hD : H1 D0 = none) (k : ∀ F H acc, Ext F1 H1 F H → F D0 = none → H D0 = some (.lst acc) → EncLM M F acc ys → Qd H) :
    ∃ W : Nat → Nat → Hp → Prop, (∃ m, W 0 m (upd H1 D0 (.lst []))) ∧ ∀ i m H, W i m H →
      (J.stop i H ∧ Qd H) ∨ (J.go i H ∧ ∃ Nx : Hp → Prop, (∀ H', Nx H' → ∃ m', m' < m ∧ W (i + 1) m' H') ∧ ∀ x H', J.yld i H x H' → gTg M.K tg x (L2.wipe σ vs) H' fun σ2 H2 => L2.wipe σ2 vs = L2.wipe σ vs ∧ tT M Φ test σ2 H2 fun b H3 =>
        if b = true then tE M Φ elt σ2 H3 fun y H4 => ∃ acc, H4 D0 = some (.lst acc) ∧ acc.length < sizeLine ∧ Nx (upd H4 D0 (.lst (acc ++ [y]))) else Nx H3) := by
  have fD : F1 D0 = none := so.fh.free hD
  refine ⟨fun i m H => m = ds.length - i ∧ i ≤ ds.length ∧ ∃ F acc out rest, Ext F1 H1 F H ∧ F D0 = none ∧ H D0 = some (.lst acc) ∧ EncLM M F acc out ∧ acc.length ≤ i ∧ lcGo (evalE Φ test) (evalE Φ elt) tg (wipeE env vs) (ds.drop i) = some rest ∧ out ++ rest = ys,
    ⟨ds.length, by simp, Nat.zero_le _, F1, [], [], ys, .own so.fh hD, fD, upd_same, .nil, Nat.le_refl _, e, rfl⟩, ?_⟩
  rintro i m H ⟨rfl, hi, F, acc, out, rest, x1, f1, hacc, eacc, lacc, e, eo⟩
  obtain ⟨g, st⟩ := it F H x1.f x1.s x1.h i
  by_cases hlt : i < ds.length
  · obtain ⟨go, yl⟩ := g hlt
    obtain ⟨d, hd⟩ : ∃ d, ds[i]? = some d := ⟨ds[i], by simp [hlt]⟩
    rw [drop_at hd] at e
    unfold lcGo at e
    have szl : acc.length < sizeLine := Nat.lt_of_le_of_lt (Nat.le_trans lacc hi) (sz_lt' hz)
    cases q1 : tgSet tg d (wipeE env vs) with
    | none => rw [q1] at e; cases e
    | some e1 =>
      rw [q1] at e
      simp only at e
      have lstN : ∀ {F' H' : Hp}, Ext F H F' H' → F' D0 = none := fun x => by
        rcases x.n D0 _ hacc f1 with q | ⟨xs, q⟩
        · exact q
        · cases q
      cases q2 : evalE Φ test e1 with
      | none => rw [q2] at e; cases e
      | some t =>
        rw [q2] at e
        cases t with
        | bl b =>
          cases b with
          | false =>
            simp only at e
            refine .inr ⟨go, fun H' => ∃ F', Ext F1 H1 F' H' ∧ F' D0 = none ∧ H' D0 = some (.lst acc) ∧ EncLM M F' acc out, fun H' ⟨F', a1, a2, a3, a4⟩ => ⟨ds.length - (i + 1), by omega, rfl, hlt, F', acc, out, rest, a1, a2, a3, a4, Nat.le_succ_of_le lacc, e, eo⟩, fun x H' y => ?_⟩
            obtain ⟨eH, d', F'', hd', x2, ev⟩ := yl x H' y
            subst eH
            rw [hd] at hd'
            cases hd'
            have x12 := x1.trans x2
            obtain ⟨σ2, so2, hw, gk⟩ := gtg ((so.step x12).wipe vs) ev q1
            refine gk _ ⟨by rw [hw vs hin, wipe_wipe], F0, H0, F'', e1, false, q2, so2, fun F3 H3 x3 => iteF ?_⟩
            have x23 := x2.trans x3
            exact ⟨F3, x1.trans x23, lstN x23, x23.h _ _ hacc, eacc.mono x23.f⟩
          | true =>
            simp only at e
            cases q3 : evalE Φ elt e1 with
            | none => rw [q3] at e; cases e
            | some y0 =>
              rw [q3] at e
              simp only at e
              cases q4 : lcGo (evalE Φ test) (evalE Φ elt) tg (wipeE env vs) (ds.drop (i + 1)) with
              | none => rw [q4] at e; cases e
              | some rest' =>
                rw [q4] at e
                have er : rest = y0 :: rest' := (Option.some.inj e).symm
                refine .inr ⟨go, fun H' => ∃ F' acc', Ext F1 H1 F' H' ∧ F' D0 = none ∧ H' D0 = some (.lst acc') ∧ EncLM M F' acc' (out ++ [y0]) ∧ acc'.length ≤ i + 1, fun H' ⟨F', acc', a1, a2, a3, a4, a5⟩ => ⟨ds.length - (i + 1), by omega, rfl, hlt, F', acc', out ++ [y0], rest', a1, a2, a3, a4, a5, q4, by rw [List.append_assoc]; show out ++ (y0 :: rest') = ys; rw [← er]; exact eo⟩, fun x H' y => ?_⟩
                obtain ⟨eH, d', F'', hd', x2, ev⟩ := yl x H' y
                subst eH
                rw [hd] at hd'
                cases hd'
                have x12 := x1.trans x2
                obtain ⟨σ2, so2, hw, gk⟩ := gtg ((so.step x12).wipe vs) ev q1
                refine gk _ ⟨by rw [hw vs hin, wipe_wipe], F0, H0, F'', e1, true, q2, so2, fun F3 H3 x3 => iteT ?_⟩
                refine ⟨F0, H0, F3, e1, y0, q3, so2.step x3, fun v F4 H4 x4 e4 => ?_⟩
                have x24 := (x2.trans x3).trans x4
                refine ⟨acc, x24.h _ _ hacc, szl, F4, acc ++ [v], ?_, lstN x24, upd_same, (eacc.mono x24.f).app (.cons e4 .nil), by rw [List.length_append]; show acc.length + 1 ≤ i + 1; omega⟩
                have x14 := x1.trans x24
                exact ⟨x14.f, fun b u q => by rw [upd_ne (ne_of_none q hD)]; exact x14.h b u q, fun b u q => by rw [upd_ne (ne_of_none q (lstN x24))]; exact x14.s b u q, x14.n⟩
        | _ => cases e
  · have ei : i = ds.length := by omega
    subst ei
    rw [List.drop_length] at e
    have er : rest = [] := (Option.some.inj e).symm
    subst er
    rw [List.append_nil] at eo
    subst eo
    exact .inl ⟨st (Nat.le_refl _), k F H acc x1 f1 hacc eacc⟩
theorem ev_lc {k : Nat} (hk : k ≠ 4) {arg test elt : IE} {tg : Tg} {vs : List Nat} {env : En} {d : D} (h : evalE Φ (.lc k arg tg test elt vs) env = some d) :
    ∃ x ds ys, evalE Φ arg env = some x ∧ walked k x = some ds ∧ lcGo (evalE Φ test) (evalE Φ elt) tg (wipeE env vs) ds = some ys ∧ ds.length.ble 10000 = true ∧ d = .lst ys := by
  have fin : ∀ {o : Option D}, o = some d → (o = match evalE Φ arg env with
      | some x => match walked k x with
        | some ds => match lcGo (evalE Φ test) (evalE Φ elt) tg (wipeE env vs) ds with
          | some ys => if ds.length.ble 10000 then some (.lst ys) else none
          | none => none
        | none => none
      | none => none) → ∃ x ds ys, evalE Φ arg env = some x ∧ walked k x = some ds ∧ lcGo (evalE Φ test) (evalE Φ elt) tg (wipeE env vs) ds = some ys ∧ ds.length.ble 10000 = true ∧ d = .lst ys := fun {o} h e => by
    rw [e] at h
    cases q : evalE Φ arg env with
    | none => rw [q] at h; cases h
    | some x =>
      rw [q] at h
      simp only at h
      cases q2 : walked k x with
      | none => rw [q2] at h; cases h
      | some ds =>
        rw [q2] at h
        simp only at h
        cases q3 : lcGo (evalE Φ test) (evalE Φ elt) tg (wipeE env vs) ds with
        | none => rw [q3] at h; cases h
        | some ys =>
          rw [q3] at h
          simp only at h
          split at h
          · rename_i z; exact ⟨x, ds, ys, rfl, q2, q3, z, (Option.some.inj h).symm⟩
          · cases h
  match k, hk with
  | 0, _ => exact fin h rfl
  | 1, _ => exact fin h rfl
  | 2, _ => exact fin h rfl
  | 3, _ => exact fin h rfl
  | 4, hk => exact absurd rfl hk
  | n + 5, _ => exact fin h rfl
theorem lst_of_lc {k : Nat} (hk : k ≠ 4) {arg test elt : IE} {tg : Tg} {vs : List Nat} : ∀ env d, evalE Φ (.lc k arg tg test elt vs) env = some d → ∃ ds, d = .lst ds := fun env d h =>
  let ⟨_, _, ys, _, _, _, _, e⟩ := ev_lc hk h
  ⟨ys, e⟩
theorem lc_reads {k : Nat} (hk : k ≠ 4) {arg test elt : IE} {tg : Tg} {vs : List Nat} {σ : L2.St} {H : Hp} {Q : VK} (hin : tgIn tg vs) (h : tL M Φ (.lc k arg tg test elt vs) σ H Q) : tLc (tI M Φ k arg) (gTg M.K tg) (tT M Φ test) (tE M Φ elt) vs σ H Q := by
  obtain ⟨F0, H0, F, env, l, e, so, kk⟩ := h
  obtain ⟨x, ds, ys, e1, e2, e3, hz, e4⟩ := ev_lc hk e
  cases e4
  refine ⟨F0, H0, F, env, x, ds, e1, e2, so, fun J F1 H1 x1 it D0 hD => ?_⟩
  refine lc_turns (so.step x1) (it.h _) hz hin e3 hD fun F2 H2 acc x2 f2 h2 ev => ?_
  exact kk D0 acc F2 H2 (x1.trans x2) (x1.h.free hD) f2 h2 ev
theorem blk_of {X : Cx} (hX : XOk M N sc sc0 X) {scope : Scope} {own : List (Str × Nat)} (ok : blkC N sc scope own = true) : BlkOk X.N X.env.scope scope own := by
  rw [hX.N, hX.sc]
  exact blkOk_by ok
theorem sl_lc {elt tgE iter : Expr} {ifs : List Expr} {scope : Scope} {own : List (Str × Nat)} {k : Nat} {arg test el : IE} {tg : Tg} {pos : Pos} (hk : k ≠ 4) (nd : N.Nodup) (hi : SndI M Φ N sc sc0 tgE iter k arg) (ok : blkC N sc scope own = true)
    (hg : SndG M N (relS scope sc) scope tgE tg) (ht : SndTs M Φ N (relS scope sc) scope ifs test) (he : SndE M Φ N (relS scope sc) scope elt el) (hin : tgIn tg (own.map (·.2))) (hs : ∀ env x, foldedSetIterable iter env x = pure x := by intro _ _; rfl) :
    SndL M Φ N sc sc0 (.ListComp elt [⟨tgE, iter, ifs, 0⟩] scope pos) (.lc k arg tg test el (own.map (·.2))) := fun X hX =>
  PE.imp (pe_lc (own := own) hX.calm (by rw [hX.N]; exact nd) (hi X hX) (blk_of hX ok) (fun s H C cl fp => hg _ (hX.blk scope s H C cl fp)) (fun s H C cl fp => ht _ (hX.blk scope s H C cl fp)) (fun s H C cl fp => he _ (hX.blk scope s H C cl fp)) (hs _)) fun σ H Q h => lc_reads hk hin h
theorem sn_lc {elt tgE iter : Expr} {ifs : List Expr} {scope : Scope} {own : List (Str × Nat)} {k : Nat} {arg test el : IE} {tg : Tg} {pos : Pos} (hk : k ≠ 4) (nd : N.Nodup) (hi : SndI M Φ N sc sc0 tgE iter k arg) (ok : blkC N sc scope own = true)
    (hg : SndG M N (relS scope sc) scope tgE tg) (ht : SndTs M Φ N (relS scope sc) scope ifs test) (he : SndE M Φ N (relS scope sc) scope elt el) (hin : tgIn tg (own.map (·.2))) (hs : ∀ env x, foldedSetIterable iter env x = pure x := by intro _ _; rfl) :
    SndE M Φ N sc sc0 (.ListComp elt [⟨tgE, iter, ifs, 0⟩] scope pos) (.lc k arg tg test el (own.map (·.2))) := sn_lst (sl_lc hk nd hi ok hg ht he hin hs) (lst_of_lc hk)
/-- y = [..], y a local -/
theorem ss_newLc {i : Nat} {y : Str} {elt tgE iter : Expr} {ifs : List Expr} {scope : Scope} {own : List (Str × Nat)} {k : Nat} {arg test el : IE} {tg : Tg} {py pos spos : Pos} (hk : k ≠ 4) (nd : N.Nodup) (hi : SndI M Φ N sc sc0 tgE iter k arg) (ok : blkC N sc scope own = true)
    (hg : SndG M N (relS scope sc) scope tgE tg) (ht : SndTs M Φ N (relS scope sc) scope ifs test) (he : SndE M Φ N (relS scope sc) scope elt el) (hin : tgIn tg (own.map (·.2))) (hN : N[i]? = some y := by rfl) (hy : sc.names.lookup y = some .local := by rfl)
    (hl : (py.line == pos.line) = true := by rfl) (ha : (scope.names.any fun (n, k) => n == y && (k == .local || k == .cell)) = false := by decide +kernel) (hkd : sc.kind = .function := by rfl) (hs : ∀ env x, foldedSetIterable iter env x = pure x := by intro _ _; rfl) :
    SndS M Φ N sc sc0 (.Assign [.Name y py] (.ListComp elt [⟨tgE, iter, ifs, 0⟩] scope pos) spos) (.newL i (.lc k arg tg test el (own.map (·.2)))) := fun X hX hp =>
  PS.imp (ps_setLc (own := own) hX.calm (by rw [hX.N]; exact nd) (by rw [hX.N]; exact hN) (by rw [hX.sc]; exact hy) (sw_true (by rw [hX.sc]; exact hkd) (by rw [hX.sc]; exact hy) hl ha) (hi X hX) (blk_of hX ok) (fun s H C cl fp => hg _ (hX.blk scope s H C cl fp)) (fun s H C cl fp => ht _ (hX.blk scope s H C cl fp)) (fun s H C cl fp => he _ (hX.blk scope s H C cl fp)) (hs _))
    fun Dn σ H h => by
      obtain ⟨F0, H0, F, env, r, e, so, kk⟩ := h
      unfold evalS at e
      split at e
      · rename_i ds q
        cases e
        refine lc_reads hk hin ⟨F0, H0, F, env, ds, q, so, fun p vs F' H' x hp fp hl ev => kk _ F' H' ?_⟩
        exact so.setOwn x hp ⟨p, vs, rfl, so.x.h.free hp, fp, hl, ev⟩
      · cases e
/-- .. y a captured name -/
theorem sw_cell {elt : Expr} {gs : List Comprehension} {scope : Scope} {pos py : Pos} {y : Str} {l : Nat} {env : Env} (hy : env.scope.names.lookup y = some .cell) : swapsWith (.ListComp elt gs scope pos) (some (.Name y py)) l env = pure false := by
  have ky : env.kindOf y = some .cell := hy
  unfold swapsWith
  simp only [ky]
  have e : (some NameKind.cell == some NameKind.local) = false := by decide
  rw [e]
  simp only [Bool.and_false, Bool.false_and]
theorem ss_asgC {i : Nat} {x : Str} {elt : Expr} {gs : List Comprehension} {scope : Scope} {p0 : Pos} {a : IE} {px pos : Pos} (nd : N.Nodup) (h : SndE M Φ N sc sc0 (.ListComp elt gs scope p0) a) (hN : N[i]? = some x := by rfl) (hc : sc.names.lookup x = some .cell := by rfl) (hc0 : sc0.names.lookup x = some .cell := by rfl) :
    SndS M Φ N sc sc0 (.Assign [.Name x px] (.ListComp elt gs scope p0) pos) (.asg i a) := fun X hX hp =>
  PS.imp (ps_set (by rw [hX.N]; exact nd) (by rw [hX.N]; exact hN) (Sto.loc hX (Or.inr ⟨hc, hc0⟩)) (h X hX) (sw_cell (by rw [hX.sc]; exact hc)) (Sto.fn hX (Or.inr ⟨hc, hc0⟩))) fun Dn σ H h => by
    obtain ⟨F0, H0, F, env, r, e, so, k⟩ := h
    unfold evalS at e
    cases q : evalE Φ a env with
    | none => rw [q] at e; cases e
    | some d =>
      rw [q] at e
      cases e
      exact ⟨F0, H0, F, env, d, q, so, fun v F' H' x ev => k _ F' H' ((so.step x).set ev)⟩
end FB

set_option Elab.async false
set_option linter.all false
set_option maxRecDepth 100000
set_option maxHeartbeats 1000000
/-! FBo: the operators and the built-in calls that the layer serves. -/
namespace FB
open PySem L2
variable {M : Md} {Φ : Fn → List D → Option D} {N : List Str} {sc sc0 : Scope} {X : Cx}

theorem XOk.units (hX : XOk M N sc sc0 X) : X.A.units + 64 < cLine := hX.room.units
theorem Enc.sqT {F H : Hp} {v : V} {ds : List D} (s : Same F H) (e : EncM M F v (.tup ds)) : ∃ a vs, v = .ref a ∧ F a = some (.tup vs) ∧ SqT M.K H a vs ∧ EncLM M F vs ds := by
  cases e with
  | tup h r => exact ⟨_, _, rfl, h, SqT.of (s _ _ h), r⟩
theorem Enc.sqL {F H : Hp} {v : V} {ds : List D} (s : Same F H) (e : EncM M F v (.lst ds)) : ∃ a vs, v = .ref a ∧ F a = some (.lst vs) ∧ H a = some (.lst vs) ∧ EncLM M F vs ds := by
  cases e with
  | lst h r => exact ⟨_, _, rfl, h, s _ _ h, r⟩
/-- a new tuple, a new list, as a value -/
theorem new_tup {F H : Hp} {p : Addr} {vs : List V} {ds : List D} (s : Same F H) (hp : H p = none) (ev : EncLM M F vs ds) : Ext F H (upd F p (.tup vs)) (upd H p (.tup vs)) ∧ EncM M (upd F p (.tup vs)) (.ref p) (.tup ds) :=
  have x := Ext.new (o := .tup vs) s hp
  ⟨x, .tup upd_same (ev.mono x.f)⟩
theorem new_lst {F H : Hp} {p : Addr} {vs : List V} {ds : List D} (s : Same F H) (hp : H p = none) (ev : EncLM M F vs ds) : Ext F H (upd F p (.lst vs)) (upd H p (.lst vs)) ∧ EncM M (upd F p (.lst vs)) (.ref p) (.lst ds) :=
  have x := Ext.new (o := .lst vs) s hp
  ⟨x, .lst upd_same (ev.mono x.f)⟩

theorem small_of {i : Int} (h : small i = true) : i.natAbs < 2 ^ 4000 := Nat.le_of_ble_eq_true h
theorem od_add (hX : XOk M N sc sc0 X) : OpR X (binaryOp .Add) (rD M .add) := by
  refine OpR.imp (OpR.or op_add (OpR.or op_catA op_cat)) fun x y H Q h => ?_
  obtain ⟨F, dx, dy, d, s, ex, ey, e, k⟩ := h
  rw [hX.K]
  cases dx with
  | int i =>
    cases dy with
    | int j =>
      cases ex
      cases ey
      cases (Option.some.inj e)
      exact .inl ⟨i, j, rfl, rfl, k _ F H (.refl s) .int⟩
    | _ => cases e
  | tup a =>
    cases dy with
    | tup b =>
      have e : (if (a.length + b.length).ble 10000 then some (D.tup (a ++ b)) else none) = some d := e
      split at e
      · rename_i hz
        cases e
        obtain ⟨p, vs, rfl, fp, sp, r1⟩ := ex.sqT s
        obtain ⟨q, ws, rfl, fq, sq, r2⟩ := ey.sqT s
        refine .inr (.inl ⟨p, q, vs, ws, rfl, rfl, sp, sq, by rw [r1.len, r2.len]; exact sz_ble hz, fun z => ?_, fun _ z => ?_, fun _ _ l hl => ?_⟩)
        · subst z
          cases r1
          exact k _ F H (.refl s) ey
        · subst z
          cases r2
          rw [List.append_nil] at k
          exact k _ F H (.refl s) ex
        · obtain ⟨x, en⟩ := new_tup (M := M) s hl (r1.app r2)
          exact k _ _ _ x en
      · cases e
    | _ => cases e
  | lst a =>
    cases dy with
    | lst b =>
      have e : (if (a.length + b.length).ble 10000 then some (D.lst (a ++ b)) else none) = some d := e
      split at e
      · rename_i hz
        cases e
        obtain ⟨p, vs, rfl, fp, sp, r1⟩ := ex.sqL s
        obtain ⟨q, ws, rfl, fq, sq, r2⟩ := ey.sqL s
        refine .inr (.inr ⟨p, q, vs, ws, rfl, rfl, sp, sq, by rw [r1.len, r2.len]; exact sz_ble hz, fun l hl => ?_⟩)
        obtain ⟨x, en⟩ := new_lst (M := M) s hl (r1.app r2)
        exact k _ _ _ x en
      · cases e
    | _ => cases e
  | _ => cases dy <;> cases e
theorem two_ints {b : Bi} {x y : V} {H : Hp} {Q : VK} (h : rD M b x y H Q) (g : ∀ dx dy d, bival b [dx, dy] = some d → ∃ i j, dx = .int i ∧ dy = .int j) : ∃ i j d F, x = .int i ∧ y = .int j ∧ bival b [.int i, .int j] = some d ∧ Same F H ∧ ∀ v F' H', Ext F H F' H' → EncM M F' v d → Q v H' := by
  obtain ⟨F, dx, dy, d, s, ex, ey, e, k⟩ := h
  obtain ⟨i, j, rfl, rfl⟩ := g _ _ _ e
  cases ex
  cases ey
  exact ⟨i, j, d, F, rfl, rfl, e, s, k⟩
theorem od_sub (hX : XOk M N sc sc0 X) : OpR X (binaryOp .Sub) (rD M .sub) := OpR.imp op_sub fun x y H Q h => by
  obtain ⟨i, j, d, F, rfl, rfl, e, s, k⟩ := two_ints h fun dx dy d e => by cases dx <;> first | cases e | (cases dy <;> first | exact ⟨_, _, rfl, rfl⟩ | cases e)
  cases (Option.some.inj e)
  exact ⟨i, j, rfl, rfl, k _ F H (.refl s) .int⟩
theorem od_mul (hX : XOk M N sc sc0 X) : OpR X (binaryOp .Mult) (rD M .mul) := OpR.imp op_mulW fun x y H Q h => by
  obtain ⟨i, j, d, F, rfl, rfl, e, s, k⟩ := two_ints h fun dx dy d e => by cases dx <;> first | cases e | (cases dy <;> first | exact ⟨_, _, rfl, rfl⟩ | cases e)
  have e : (if small i && small j then some (D.int (i * j)) else none) = some d := e
  split at e
  · rename_i z
    rw [Bool.and_eq_true] at z
    cases e
    exact ⟨i, j, rfl, rfl, wide_mul (small_of z.1) (small_of z.2) (by decide) (by decide) (by decide), k _ F H (.refl s) .int⟩
  · cases e
theorem od_fdiv (hX : XOk M N sc sc0 X) : OpR X (binaryOp .FloorDiv) (rD M .fdiv) := OpR.imp op_fdivW fun x y H Q h => by
  obtain ⟨i, j, d, F, rfl, rfl, e, s, k⟩ := two_ints h fun dx dy d e => by cases dx <;> first | cases e | (cases dy <;> first | exact ⟨_, _, rfl, rfl⟩ | cases e)
  have e : (if small j && decide (0 < j) then some (D.int (i / j)) else none) = some d := e
  split at e
  · rename_i z
    rw [Bool.and_eq_true] at z
    cases e
    exact ⟨i, j, rfl, rfl, wide_div (of_decide_eq_true z.2) (small_of z.1) (by decide) (by decide), k _ F H (.refl s) .int⟩
  · cases e
theorem od_lt (hX : XOk M N sc sc0 X) : OpR X (compareOp .Lt) (rD M .lt) := OpR.imp op_lt fun x y H Q h => by
  obtain ⟨i, j, d, F, rfl, rfl, e, s, k⟩ := two_ints h fun dx dy d e => by cases dx <;> first | cases e | (cases dy <;> first | exact ⟨_, _, rfl, rfl⟩ | cases e)
  cases (Option.some.inj e)
  exact ⟨i, j, rfl, rfl, k _ F H (.refl s) .bl⟩
theorem od_le (hX : XOk M N sc sc0 X) : OpR X (compareOp .LtE) (rD M .le) := OpR.imp op_le fun x y H Q h => by
  obtain ⟨i, j, d, F, rfl, rfl, e, s, k⟩ := two_ints h fun dx dy d e => by cases dx <;> first | cases e | (cases dy <;> first | exact ⟨_, _, rfl, rfl⟩ | cases e)
  cases (Option.some.inj e)
  exact ⟨i, j, rfl, rfl, k _ F H (.refl s) .bl⟩
theorem od_gt (hX : XOk M N sc sc0 X) : OpR X (compareOp .Gt) (rD M .gt) := OpR.imp op_gt fun x y H Q h => by
  obtain ⟨i, j, d, F, rfl, rfl, e, s, k⟩ := two_ints h fun dx dy d e => by cases dx <;> first | cases e | (cases dy <;> first | exact ⟨_, _, rfl, rfl⟩ | cases e)
  cases (Option.some.inj e)
  exact ⟨i, j, rfl, rfl, k _ F H (.refl s) .bl⟩
theorem od_ge (hX : XOk M N sc sc0 X) : OpR X (compareOp .GtE) (rD M .ge) := OpR.imp op_ge fun x y H Q h => by
  obtain ⟨i, j, d, F, rfl, rfl, e, s, k⟩ := two_ints h fun dx dy d e => by cases dx <;> first | cases e | (cases dy <;> first | exact ⟨_, _, rfl, rfl⟩ | cases e)
  cases (Option.some.inj e)
  exact ⟨i, j, rfl, rfl, k _ F H (.refl s) .bl⟩
theorem dp_ints {K : PySem.W.Frag} {H : Hp} : ∀ is : List Int, DpAll K H (is.map V.int) (is.map PyData.int)
  | [] => .nil
  | i :: r => .cons (.int i) (dp_ints r)
theorem shaped_ints (is : List Int) : SeqAt.shaped (.tuple (is.map PyData.int)) = true := by
  unfold SeqAt.shaped
  rw [Bool.and_eq_true]
  refine ⟨?_, decide_eq_true ?_⟩
  · simp only [PyData.canLay0, PyProof.Rows.canLayAll_ints]
  · simp only [PyData.depth, PyProof.Rows.depthAll_ints]; decide
theorem eqv_ints (i j : List Int) : PyData.eqv (.tuple (i.map PyData.int)) (.tuple (j.map PyData.int)) = decide (i = j) := PySem.W.ked_eqvAll i j
theorem eqD_cases {dx dy : D} {b : Bool} (h : eqD dx dy = some b) : (∃ i j, dx = .int i ∧ dy = .int j ∧ b = decide (i = j)) ∨ (∃ x y, dx = .str x ∧ dy = .str y ∧ b = decide (x = y)) ∨ (∃ i j : List Int, dx = .tup (i.map D.int) ∧ dy = .tup (j.map D.int) ∧ b = decide (i = j)) := by
  cases dx with
  | int i =>
    cases dy with
    | int j => exact .inl ⟨i, j, rfl, rfl, (Option.some.inj h).symm⟩
    | _ => cases h
  | str i =>
    cases dy with
    | str j => exact .inr (.inl ⟨i, j, rfl, rfl, (Option.some.inj h).symm⟩)
    | _ => cases h
  | tup a =>
    cases dy with
    | tup c =>
      have h : (match ints? a, ints? c with
        | some i, some j => some (decide (i = j))
        | _, _ => none) = some b := h
      cases q1 : ints? a with
      | none => rw [q1] at h; cases h
      | some i =>
        cases q2 : ints? c with
        | none => rw [q1, q2] at h; cases h
        | some j =>
          rw [q1, q2] at h
          exact .inr (.inr ⟨i, j, by rw [ints_eq q1], by rw [ints_eq q2], (Option.some.inj h).symm⟩)
    | _ => cases h
  | _ => cases dy <;> cases h
theorem dec_Vint (i j : Int) : decide (V.int i = V.int j) = decide (i = j) := by simp
theorem dec_Vstr (i j : Str) : decide (V.str i = V.str j) = decide (i = j) := by simp
theorem od_eq (hX : XOk M N sc sc0 X) : OpR X (compareOp .Eq) (rD M .eq) := by
  refine OpR.imp (OpR.or op_eq (op_eqD hX.units)) fun x y H Q h => ?_
  obtain ⟨F, dx, dy, d, s, ex, ey, e, k⟩ := h
  have e : (eqD dx dy).map D.bl = some d := e
  rw [hX.K]
  cases q : eqD dx dy with
  | none => rw [q] at e; cases e
  | some b =>
    rw [q] at e
    cases e
    have kk := k _ F H (.refl s) .bl
    rcases eqD_cases q with ⟨i, j, rfl, rfl, rfl⟩ | ⟨i, j, rfl, rfl, rfl⟩ | ⟨i, j, rfl, rfl, rfl⟩
    · cases ex
      cases ey
      exact .inl ⟨rfl, by rw [dec_Vint]; exact kk⟩
    · cases ex
      cases ey
      exact .inl ⟨rfl, by rw [dec_Vstr]; exact kk⟩
    · obtain ⟨p, vs, rfl, fp, sp, r1⟩ := ex.sqT s
      obtain ⟨q, ws, rfl, fq, sq, r2⟩ := ey.sqT s
      rw [r1.ints] at sp
      rw [r2.ints] at sq
      exact .inr ⟨_, _, .tup sp (dp_ints i), .tup sq (dp_ints j), shaped_ints i, shaped_ints j, by rw [eqv_ints]; exact kk⟩
theorem od_ne (hX : XOk M N sc sc0 X) : OpR X (compareOp .NotEq) (rD M .ne) := by
  refine OpR.imp (OpR.or op_ne (op_neD hX.units)) fun x y H Q h => ?_
  obtain ⟨F, dx, dy, d, s, ex, ey, e, k⟩ := h
  have e : ((eqD dx dy).map fun c => D.bl (!c)) = some d := e
  rw [hX.K]
  cases q : eqD dx dy with
  | none => rw [q] at e; cases e
  | some b =>
    rw [q] at e
    cases e
    have kk := k _ F H (.refl s) .bl
    rcases eqD_cases q with ⟨i, j, rfl, rfl, rfl⟩ | ⟨i, j, rfl, rfl, rfl⟩ | ⟨i, j, rfl, rfl, rfl⟩
    · cases ex
      cases ey
      exact .inl ⟨rfl, by rw [dec_Vint]; exact kk⟩
    · cases ex
      cases ey
      exact .inl ⟨rfl, by rw [dec_Vstr]; exact kk⟩
    · obtain ⟨p, vs, rfl, fp, sp, r1⟩ := ex.sqT s
      obtain ⟨q, ws, rfl, fq, sq, r2⟩ := ey.sqT s
      rw [r1.ints] at sp
      rw [r2.ints] at sq
      exact .inr ⟨_, _, .tup sp (dp_ints i), .tup sq (dp_ints j), shaped_ints i, shaped_ints j, by rw [eqv_ints]; exact kk⟩
theorem od_inS (hX : XOk M N sc sc0 X) : OpR X (compareOp .In) (rD M .inS) := OpR.imp op_in_str fun x y H Q h => by
  obtain ⟨F, dx, dy, d, s, ex, ey, e, k⟩ := h
  cases dx with
  | str i =>
    cases dy with
    | str j =>
      cases ex
      cases ey
      cases (Option.some.inj e)
      exact ⟨i, j, rfl, rfl, k _ F H (.refl s) .bl⟩
    | _ => cases e
  | _ => cases dy <;> cases e
theorem od_notInS (hX : XOk M N sc sc0 X) : OpR X (compareOp .NotIn) (rD M .notInS) := OpR.imp op_notin_str fun x y H Q h => by
  obtain ⟨F, dx, dy, d, s, ex, ey, e, k⟩ := h
  cases dx with
  | str i =>
    cases dy with
    | str j =>
      cases ex
      cases ey
      cases (Option.some.inj e)
      exact ⟨i, j, rfl, rfl, k _ F H (.refl s) .bl⟩
    | _ => cases e
  | _ => cases dy <;> cases e
theorem strs_eq : ∀ {ds : List D} {is : List Str}, strs? ds = some is → ds = is.map D.str
  | [], is, h => by
    have e : is = [] := (Option.some.inj h).symm
    rw [e]; rfl
  | .str i :: r, is, h => by
    have h1 : (strs? r).map (i :: ·) = some is := h
    cases q : strs? r with
    | none => rw [q] at h1; cases h1
    | some js =>
      rw [q] at h1
      have e : is = i :: js := (Option.some.inj h1).symm
      rw [e, strs_eq q]; rfl
  | .non :: _, _, h => nomatch (show (none : Option (List Str)) = some _ from h)
  | .bl _ :: _, _, h => nomatch (show (none : Option (List Str)) = some _ from h)
  | .int _ :: _, _, h => nomatch (show (none : Option (List Str)) = some _ from h)
  | .ktup :: _, _, h => nomatch (show (none : Option (List Str)) = some _ from h)
  | .tup _ :: _, _, h => nomatch (show (none : Option (List Str)) = some _ from h)
  | .lst _ :: _, _, h => nomatch (show (none : Option (List Str)) = some _ from h)
  | .ins _ _ :: _, _, h => nomatch (show (none : Option (List Str)) = some _ from h)
theorem EncL.strs {K : PySem.W.Frag} {CA : Nat → Addr} {F : Hp} : ∀ {is : List Str} {vs : List V}, EncL K CA F vs (is.map D.str) → vs = is.map V.str
  | [], _, .nil => rfl
  | _ :: _, _, .cons .str t => congrArg (List.cons _) (EncL.strs t)
theorem flat_strs : ∀ is : List Str, (is.map V.str).all flatV = true
  | [] => rfl
  | _ :: r => flat_strs r
theorem inV_strs (x : Str) : ∀ is : List Str, inV (.str x) (is.map V.str) = is.any fun y => decide (y = x)
  | [] => rfl
  | y :: r => by
    show (eqV (.str y) (.str x) || inV (.str x) (r.map V.str)) = (decide (y = x) || r.any fun y => decide (y = x))
    rw [inV_strs x r]
    congr 1
theorem od_inT (hX : XOk M N sc sc0 X) : OpR X (compareOp .In) (rD M .inT) := OpR.imp op_in_seq fun x y H Q h => by
  obtain ⟨F, dx, dy, d, s, ex, ey, e, k⟩ := h
  rw [hX.K]
  cases dx with
  | str i =>
    cases dy with
    | tup j =>
      have e : (strs? j).map (fun s => D.bl (s.any fun y => decide (y = i))) = some d := e
      cases q : strs? j with
      | none => rw [q] at e; cases e
      | some l =>
        rw [q] at e
        cases e
        cases ex
        obtain ⟨p, vs, rfl, fp, sp, r1⟩ := ey.sqT s
        rw [strs_eq q] at r1
        rw [r1.strs] at sp
        refine ⟨p, _, rfl, .inr sp, rfl, flat_strs l, ?_⟩
        show Q (.bl (inV (.str i) (l.map V.str))) H
        rw [inV_strs]
        exact k _ F H (.refl s) .bl
    | _ => cases e
  | _ => cases dy <;> cases e
theorem od_notInT (hX : XOk M N sc sc0 X) : OpR X (compareOp .NotIn) (rD M .notInT) := OpR.imp op_notIn_seq fun x y H Q h => by
  obtain ⟨F, dx, dy, d, s, ex, ey, e, k⟩ := h
  rw [hX.K]
  cases dx with
  | str i =>
    cases dy with
    | tup j =>
      have e : (strs? j).map (fun s => D.bl (!(s.any fun y => decide (y = i)))) = some d := e
      cases q : strs? j with
      | none => rw [q] at e; cases e
      | some l =>
        rw [q] at e
        cases e
        cases ex
        obtain ⟨p, vs, rfl, fp, sp, r1⟩ := ey.sqT s
        rw [strs_eq q] at r1
        rw [r1.strs] at sp
        refine ⟨p, _, rfl, .inr sp, rfl, flat_strs l, ?_⟩
        show Q (.bl (!inV (.str i) (l.map V.str))) H
        rw [inV_strs]
        exact k _ F H (.refl s) .bl
    | _ => cases e
  | _ => cases dy <;> cases e
theorem ud_neg : UnR X (unaryOp .USub) (rU1 M .neg) := fun pins s σ H x v Q I r h => by
  obtain ⟨F, dx, d, sm, ex, e, k⟩ := h
  refine un_neg pins s σ H x v Q I r ?_
  cases dx with
  | int i =>
    cases ex
    cases (Option.some.inj e)
    exact ⟨i, rfl, k _ F H (.refl sm) .int⟩
  | _ => cases e

/-! ### calls -/
theorem EncL.one {K : PySem.W.Frag} {CA : Nat → Addr} {F : Hp} {vs : List V} {d : D} (h : EncL K CA F vs [d]) : ∃ v, vs = [v] ∧ Enc K CA F v d := by
  cases h with
  | cons r t => cases t; exact ⟨_, rfl, r⟩
theorem EncL.two {K : PySem.W.Frag} {CA : Nat → Addr} {F : Hp} {vs : List V} {d e : D} (h : EncL K CA F vs [d, e]) : ∃ v w, vs = [v, w] ∧ Enc K CA F v d ∧ Enc K CA F w e := by
  cases h with
  | cons r t => obtain ⟨w, rfl, q⟩ := t.one; exact ⟨_, w, rfl, r, q⟩
theorem seq_of {F H : Hp} {v : V} {d : D} {ds : List D} (s : Same F H) (e : EncM M F v d) (h : items? d = some ds) : ∃ a vs, v = .ref a ∧ (SqL M.K H a vs ∨ SqT M.K H a vs) ∧ EncLM M F vs ds := by
  cases d with
  | tup l =>
    cases (Option.some.inj h)
    obtain ⟨p, vs, rfl, fp, sp, r⟩ := e.sqT s
    exact ⟨p, vs, rfl, .inr sp, r⟩
  | lst l =>
    cases (Option.some.inj h)
    obtain ⟨p, vs, rfl, fp, sp, r⟩ := e.sqL s
    exact ⟨p, vs, rfl, .inl (SqL.of sp), r⟩
  | ktup =>
    cases (Option.some.inj h)
    cases e with
    | ktup hk => exact ⟨_, [], rfl, .inr (hk.sq H), .nil⟩
  | ptup l =>
    cases (Option.some.inj h)
    cases e with
    | ptup ha hd r => exact ⟨_, _, rfl, .inr (.inl (.inr ⟨_, s _ _ ha⟩)), r⟩
  | _ => cases h
theorem cd_len (hX : XOk M N sc sc0 X) : CallR X (.builtin "len") (rC M .len) := CallR.imp (CallR.or call_len_str call_len_seq) fun xs H Q h => by
  obtain ⟨F, ds, d, s, el, e, k⟩ := h
  rw [hX.K]
  cases ds with
  | nil => cases e
  | cons a r =>
    cases r with
    | cons _ _ => cases a <;> cases e
    | nil =>
      obtain ⟨v, rfl, ev⟩ := el.one
      have seq : ∀ {ds}, items? a = some ds → ((items? a).map fun ds => D.int ds.length) = some d → (∃ p ys, [v] = [V.ref p] ∧ (SqL M.K H p ys ∨ SqT M.K H p ys) ∧ Q (.int ys.length) H) := fun {ds} q e => by
        rw [q] at e
        cases e
        obtain ⟨p, vs, rfl, sq, r⟩ := seq_of s ev q
        exact ⟨p, vs, rfl, sq, by rw [r.len]; exact k _ F H (.refl s) .int⟩
      cases a with
      | str x =>
        have e : (if x.length.ble 10000 then some (D.int x.length) else none) = some d := e
        split at e
        · rename_i z
          cases e
          cases ev
          exact .inl ⟨x, rfl, sz_ble z, k _ F H (.refl s) .int⟩
        · cases e
      | tup l => exact .inr (seq rfl e)
      | lst l => exact .inr (seq rfl e)
      | ktup => exact .inr (seq rfl e)
      | ptup l => exact .inr (seq rfl e)
      | _ => cases e
theorem cd_min2 (hX : XOk M N sc sc0 X) : CallR X (.builtin "min") (rC M .min2) := CallR.imp (call_min2 hX.calm) fun xs H Q h => by
  obtain ⟨F, ds, d, s, el, e, k⟩ := h
  rcases ds with _ | ⟨a, _ | ⟨b, _ | ⟨c, r⟩⟩⟩
  · cases e
  · cases a <;> cases e
  · cases a with
    | int i =>
      cases b with
      | int j =>
        obtain ⟨v, w, rfl, e1, e2⟩ := el.two
        cases e1
        cases e2
        cases (Option.some.inj e)
        exact ⟨i, j, rfl, k _ F H (.refl s) .int⟩
      | _ => cases e
    | _ => cases e
  · cases a <;> first | cases e | (cases b <;> first | cases e | (cases c <;> cases e))
theorem cd_max2 (hX : XOk M N sc sc0 X) : CallR X (.builtin "max") (rC M .max2) := CallR.imp (call_max2 hX.calm) fun xs H Q h => by
  obtain ⟨F, ds, d, s, el, e, k⟩ := h
  rcases ds with _ | ⟨a, _ | ⟨b, _ | ⟨c, r⟩⟩⟩
  · cases e
  · cases a <;> cases e
  · cases a with
    | int i =>
      cases b with
      | int j =>
        obtain ⟨v, w, rfl, e1, e2⟩ := el.two
        cases e1
        cases e2
        cases (Option.some.inj e)
        exact ⟨i, j, rfl, k _ F H (.refl s) .int⟩
      | _ => cases e
    | _ => cases e
  · cases a <;> first | cases e | (cases b <;> first | cases e | (cases c <;> cases e))
theorem maxI_mem : ∀ {l : List Int} {m : Int}, maxI l = some m → m ∈ l ∧ ∀ y ∈ l, y ≤ m
  | [], _, h => by cases h
  | [x], m, h => by
    have e : m = x := (Option.some.inj h).symm
    subst e
    exact ⟨List.mem_cons_self .., fun y hy => (List.mem_cons.mp hy).elim (fun q => Int.le_of_eq q) (fun q => nomatch q)⟩
  | x :: y :: r, m, h => by
    have h : (maxI (y :: r)).map (fun m => if m > x then m else x) = some m := h
    cases q : maxI (y :: r) with
    | none => rw [q] at h; cases h
    | some m' =>
      rw [q] at h
      have e : (if m' > x then m' else x) = m := Option.some.inj h
      obtain ⟨h1, h2⟩ := maxI_mem q
      split at e
      · rename_i hgt
        subst e
        exact ⟨List.mem_cons_of_mem _ h1, fun z hz => (List.mem_cons.mp hz).elim (fun q => by subst q; omega) (fun q => h2 z q)⟩
      · rename_i hgt
        subst e
        exact ⟨List.mem_cons_self .., fun z hz => (List.mem_cons.mp hz).elim (fun q => by subst q; exact Int.le_refl _) (fun q => by have := h2 z q; omega)⟩
theorem cd_maxL (hX : XOk M N sc sc0 X) : CallR X (.builtin "max") (rC M .maxL) := CallR.imp (cr_max hX.calm) fun xs H Q h => by
  obtain ⟨F, ds, d, s, el, e, k⟩ := h
  rw [hX.K]
  rcases ds with _ | ⟨a, _ | ⟨b, r⟩⟩
  · cases e
  · cases a with
    | lst l =>
      have e : ((ints? l).bind fun is => (maxI is).map D.int) = some d := e
      cases q : ints? l with
      | none => rw [q] at e; cases e
      | some is =>
        rw [q] at e
        have e : (maxI is).map D.int = some d := e
        cases q2 : maxI is with
        | none => rw [q2] at e; cases e
        | some m =>
          rw [q2] at e
          cases e
          obtain ⟨v, rfl, ev⟩ := el.one
          obtain ⟨p, vs, rfl, fp, sp, r⟩ := ev.sqL s
          rw [ints_eq q] at r
          rw [r.ints] at sp
          obtain ⟨hm, hle⟩ := maxI_mem q2
          refine ⟨p, is, rfl, SqL.of sp, List.length_pos_of_mem hm, fun m' h1 h2 => ?_⟩
          have em : m' = m := Int.le_antisymm (hle _ h1) (h2 _ hm)
          subst em
          exact k _ F H (.refl s) .int
    | _ => cases e
  · cases a <;> cases e
theorem cd_tupOf (hX : XOk M N sc sc0 X) : CallR X (.type "tuple") (rC M .tupOf) := CallR.imp call_tuple_of fun xs H Q h => by
  obtain ⟨F, ds, d, s, el, e, k⟩ := h
  rw [hX.K]
  rcases ds with _ | ⟨a, _ | ⟨b, r⟩⟩
  · cases e
  · obtain ⟨v, rfl, ev⟩ := el.one
    cases a with
    | lst l =>
      cases (Option.some.inj e)
      obtain ⟨p, vs, rfl, fp, sp, r⟩ := ev.sqL s
      refine ⟨p, vs, rfl, .inl ⟨SqL.of sp, fun q hq => ?_⟩⟩
      obtain ⟨x, en⟩ := new_tup (M := M) s hq r
      exact k _ _ _ x en
    | tup l =>
      cases (Option.some.inj e)
      obtain ⟨p, vs, rfl, fp, sp, r⟩ := ev.sqT s
      exact ⟨p, vs, rfl, .inr ⟨sp, k _ F H (.refl s) ev⟩⟩
    | _ => cases e
  · cases a <;> cases e
theorem cd_lstOf (hX : XOk M N sc sc0 X) : CallR X (.type "list") (rC M .lstOf) := CallR.imp call_list_of fun xs H Q h => by
  obtain ⟨F, ds, d, s, el, e, k⟩ := h
  rw [hX.K]
  rcases ds with _ | ⟨a, _ | ⟨b, r⟩⟩
  · cases e
  · obtain ⟨v, rfl, ev⟩ := el.one
    have e : (items? a).map D.lst = some d := e
    cases q : items? a with
    | none => rw [q] at e; cases e
    | some l =>
      rw [q] at e
      cases e
      obtain ⟨p, vs, rfl, sq, r⟩ := seq_of s ev q
      refine ⟨p, vs, rfl, sq, fun q hq => ?_⟩
      obtain ⟨x, en⟩ := new_lst (M := M) s hq r
      exact k _ _ _ x en
  · cases e
theorem cd_intOf (hX : XOk M N sc sc0 X) : CallR X (.type "int") (rC M .intOf) := CallR.imp call_int1 fun xs H Q h => by
  obtain ⟨F, ds, d, s, el, e, k⟩ := h
  rcases ds with _ | ⟨a, _ | ⟨b, r⟩⟩
  · cases e
  · obtain ⟨v, rfl, ev⟩ := el.one
    cases a with
    | bl b =>
      cases (Option.some.inj e)
      cases ev
      exact .inr ⟨b, rfl, k _ F H (.refl s) .int⟩
    | _ => cases e
  · cases a <;> cases e
theorem cd_gcd (hX : XOk M N sc sc0 X) : CallR X (.builtin "math.gcd") (rC M .gcd) := CallR.imp cr_gcd fun xs H Q h => by
  obtain ⟨F, ds, d, s, el, e, k⟩ := h
  rcases ds with _ | ⟨a, _ | ⟨b, _ | ⟨c, r⟩⟩⟩
  · cases e
  · cases a <;> cases e
  · cases a with
    | int i =>
      cases b with
      | int j =>
        have e : (if small i && small j then some (D.int (Int.gcd i j : Nat)) else none) = some d := e
        split at e
        · obtain ⟨v, w, rfl, e1, e2⟩ := el.two
          cases e1
          cases e2
          cases e
          exact ⟨i, j, rfl, k _ F H (.refl s) .int⟩
        · cases e
      | _ => cases e
    | _ => cases e
  · cases a <;> first | cases e | (cases b <;> cases e)
end FB

set_option Elab.async false
set_option linter.all false
set_option maxRecDepth 100000
set_option maxHeartbeats 1000000
/-! FBd: items, slices, dicts of one's own, calls, methods, instances. -/
namespace FB
open PySem L2
variable {M : Md} {Φ : Fn → List D → Option D} {N : List Str} {sc sc0 : Scope} {X : Cx}

/-! ### items and slices -/
theorem IxR.imp {r r' : R2} (h : IxR X r) (i : ∀ x y H Q, r' x y H Q → r x y H Q) : IxR X r' := fun va sl pins s σ H x y v u Q I rx ry q => h va sl pins s σ H x y v u Q I rx ry (i x y H Q q)
theorem ixd (hX : XOk M N sc sc0 X) : IxR X (rD M .ix) := by
  refine IxR.imp ix_seq fun x y H Q h => ?_
  obtain ⟨F, dx, dy, d, s, ex, ey, e, k⟩ := h
  rw [hX.K]
  cases dx with
  | str z =>
    cases dy with
    | int i =>
      have e : (if z.length.ble 10000 then (atI z.cps.toList i).map (fun c => D.str ⟨#[c]⟩) else none) = some d := e
      split at e
      · rename_i hz
        cases q : atI z.cps.toList i with
        | none => rw [q] at e; cases e
        | some c =>
          rw [q] at e
          cases e
          cases ex
          cases ey
          exact .inr (.inr ⟨z, i, c, rfl, rfl, sz_ble hz, q, k _ F H (.refl s) .str⟩)
      · cases e
    | _ => cases e
  | tup l =>
    cases dy with
    | int i =>
      have e : atI l i = some d := e
      obtain ⟨p, vs, rfl, fp, sp, r1⟩ := ex.sqT s
      cases ey
      unfold atI at e
      rw [← r1.len] at e
      cases q : ixN vs.length i with
      | none => rw [q] at e; cases e
      | some j =>
        rw [q] at e
        have e : l[j]? = some d := e
        obtain ⟨v, h1, h2⟩ := r1.get e
        refine .inr (.inl ⟨p, vs, i, v, rfl, rfl, sp, ?_, k _ F H (.refl s) h2⟩)
        unfold atI
        rw [q]
        exact h1
    | _ => cases e
  | lst l =>
    cases dy with
    | int i =>
      have e : atI l i = some d := e
      obtain ⟨p, vs, rfl, fp, sp, r1⟩ := ex.sqL s
      cases ey
      unfold atI at e
      rw [← r1.len] at e
      cases q : ixN vs.length i with
      | none => rw [q] at e; cases e
      | some j =>
        rw [q] at e
        have e : l[j]? = some d := e
        obtain ⟨v, h1, h2⟩ := r1.get e
        refine .inl ⟨p, vs, i, v, rfl, rfl, SqL.of sp, ?_, k _ F H (.refl s) h2⟩
        unfold atI
        rw [q]
        exact h1
    | _ => cases e
  | _ => cases dy <;> cases e
theorem sn_ix {l r : Expr} {a b : IE} {pos : Pos} (hl : SndE M Φ N sc sc0 l a) (hr : SndE M Φ N sc sc0 r b) (hs : PlainIx r := by intro _ _; rfl) : SndE M Φ N sc sc0 (.Subscript l r pos) (.bi .ix (.cons a (.cons b .nil))) := fun X hX =>
  PE.imp (pe_ix (ixd hX) (hl X hX) (hr X hX) hs) fun σ H Q h => two_reads h
/-- an item of a list of one's own -/
theorem sn_ixO {i : Nat} {x : Str} {r : Expr} {b : IE} {px pos : Pos} (hr : SndE M Φ N sc sc0 r b) (hN : N[i]? = some x := by rfl) (hv : Vis sc x := by first | exact Or.inl rfl | exact Or.inr (Or.inl rfl) | exact Or.inr (Or.inr rfl)) (hd : (x == ("__debug__" : Str)) = false := by decide)
    (hcd : (x == ("__classdict__" : Str)) = false := by decide) (hs : PlainIx r := by intro _ _; rfl) : SndE M Φ N sc sc0 (.Subscript (.Name x px) r pos) (.ixO i b) := fun X hX =>
  PE.imp (pe_ix ix_list (pe_slot hX (pos := px) hN hv hd hcd) (hr X hX) hs) fun σ H Q h => by
    obtain ⟨F0, H0, F, env, d, e, so, k⟩ := h
    unfold evalE at e
    split at e
    · rename_i ds n q1 q2
      obtain ⟨a, vs, hσ, h0, hf, ha, ev⟩ := own_at so q1
      refine ⟨_, hσ, F0, H0, F, env, _, q2, so, fun v F1 H1 x1 e1 => ?_⟩
      cases e1
      have ha1 := x1.h _ _ ha
      have ev1 := ev.mono x1.f
      unfold atI at e
      have el : vs.length = ds.length := ev.len
      rw [← el] at e
      cases q : ixN vs.length n with
      | none => rw [q] at e; cases e
      | some j =>
        rw [q] at e
        have e : ds[j]? = some d := e
        obtain ⟨v, h1, h2⟩ := ev1.get e
        refine ⟨a, vs, n, v, rfl, rfl, SqL.of ha1, ?_, k _ F1 H1 x1 h2⟩
        unfold atI
        rw [q]
        exact h1
    · cases e
theorem SlR.imp {r r' : V → Option Int → Option Int → Hp → VK → Prop} (h : SlR X r) (i : ∀ x a b H Q, r' x a b H Q → r x a b H Q) : SlR X r' := fun pins s σ H x v vl vu lo hi sl Q I rx hs pl pu q => h pins s σ H x v vl vu lo hi sl Q I rx hs pl pu (i x lo hi H Q q)
/-- what a slice asks -/
def rS (M : Md) : V → Option Int → Option Int → Hp → VK → Prop := fun x lo hi H Q => ∃ F dx, Same F H ∧ EncM M F x dx ∧ ((∃ l, dx = .tup l ∧ ∀ v F' H', Ext F H F' H' → EncM M F' v (.tup ((l.drop (HT.sIx l.length 0 lo)).take (HT.sIx l.length l.length hi - HT.sIx l.length 0 lo))) → Q v H') ∨
  (∃ l, dx = .lst l ∧ ∀ v F' H', Ext F H F' H' → EncM M F' v (.lst ((l.drop (HT.sIx l.length 0 lo)).take (HT.sIx l.length l.length hi - HT.sIx l.length 0 lo))) → Q v H'))
theorem sld (hX : XOk M N sc sc0 X) : SlR X (rS M) := by
  refine SlR.imp (SlR.or sl_tupA sl_list) fun x lo hi H Q h => ?_
  obtain ⟨F, dx, s, ex, h⟩ := h
  rw [hX.K]
  rcases h with ⟨l, rfl, k⟩ | ⟨l, rfl, k⟩
  · obtain ⟨p, vs, rfl, fp, sp, r1⟩ := ex.sqT s
    have el := r1.len
    refine .inl ⟨p, vs, rfl, sp, fun hw => ?_, fun hw q hq => ?_⟩
    · have e : (l.drop (HT.sIx l.length 0 lo)).take (HT.sIx l.length l.length hi - HT.sIx l.length 0 lo) = l := by
        rw [← el, hw.1, hw.2, List.drop_zero, el, Nat.sub_zero, List.take_length]
      rw [e] at k
      exact k _ F H (.refl s) ex
    · obtain ⟨x, en⟩ := new_tup (M := M) s hq ((r1.drop (HT.sIx vs.length 0 lo)).take (HT.sIx vs.length vs.length hi - HT.sIx vs.length 0 lo))
      refine k _ _ _ x ?_
      rw [← el]
      exact en
  · obtain ⟨p, vs, rfl, fp, sp, r1⟩ := ex.sqL s
    have el := r1.len
    refine .inr ⟨p, vs, rfl, SqL.of sp, fun q hq => ?_⟩
    obtain ⟨x, en⟩ := new_lst (M := M) s hq ((r1.drop (HT.sIx vs.length 0 lo)).take (HT.sIx vs.length vs.length hi - HT.sIx vs.length 0 lo))
    refine k _ _ _ x ?_
    rw [← el]
    exact en
theorem ev_nil {env : En} {ds : List D} (h : evalE Φ .nil env = some (.tup ds)) : ds = [] := by
  unfold evalE at h
  injection h with h
  injection h with h
  exact h.symm
theorem sn_sl_lo {e a : Expr} {ie ia : IE} {p2 pos : Pos} (he : SndE M Φ N sc sc0 e ie) (ha : SndE M Φ N sc sc0 a ia) : SndE M Φ N sc sc0 (.Subscript e (.Slice (some a) none none p2) pos) (.bi (.sl true false) (.cons ie (.cons ia .nil))) := fun X hX =>
  PE.imp (pe_slice (sld hX) (he X hX) (po_some (ha X hX)) po_none) fun σ H Q h => by
    obtain ⟨F0, H0, F, env, d, e, so, k⟩ := h
    obtain ⟨ds, e1, e2⟩ := ev_bi e
    obtain ⟨x, y, h1, h2, e3⟩ := ev_cons2 e1
    injection e3 with e3
    subst e3
    refine ⟨F0, H0, F, env, x, h1, so, fun v F1 H1 x1 ev => ⟨F0, H0, F1, env, y, h2, so.step x1, fun u F2 H2 x2 eu => ?_⟩⟩
    cases y with
    | int i =>
      cases eu
      refine ⟨i, rfl, F2, x, x2.s, ev.mono x2.f, ?_⟩
      cases x with
      | tup l => cases (Option.some.inj e2); exact .inl ⟨l, rfl, fun w F3 H3 x3 ew => k w F3 H3 ((x1.trans x2).trans x3) ew⟩
      | lst l => cases (Option.some.inj e2); exact .inr ⟨l, rfl, fun w F3 H3 x3 ew => k w F3 H3 ((x1.trans x2).trans x3) ew⟩
      | _ => cases e2
    | _ => cases x <;> cases e2
theorem sn_sl_hi {e a : Expr} {ie ia : IE} {p2 pos : Pos} (he : SndE M Φ N sc sc0 e ie) (ha : SndE M Φ N sc sc0 a ia) : SndE M Φ N sc sc0 (.Subscript e (.Slice none (some a) none p2) pos) (.bi (.sl false true) (.cons ie (.cons ia .nil))) := fun X hX =>
  PE.imp (pe_slice (sld hX) (he X hX) po_none (po_some (ha X hX))) fun σ H Q h => by
    obtain ⟨F0, H0, F, env, d, e, so, k⟩ := h
    obtain ⟨ds, e1, e2⟩ := ev_bi e
    obtain ⟨x, y, h1, h2, e3⟩ := ev_cons2 e1
    injection e3 with e3
    subst e3
    refine ⟨F0, H0, F, env, x, h1, so, fun v F1 H1 x1 ev => ⟨F0, H0, F1, env, y, h2, so.step x1, fun u F2 H2 x2 eu => ?_⟩⟩
    cases y with
    | int i =>
      cases eu
      refine ⟨i, rfl, F2, x, x2.s, ev.mono x2.f, ?_⟩
      cases x with
      | tup l => cases (Option.some.inj e2); exact .inl ⟨l, rfl, fun w F3 H3 x3 ew => k w F3 H3 ((x1.trans x2).trans x3) ew⟩
      | lst l => cases (Option.some.inj e2); exact .inr ⟨l, rfl, fun w F3 H3 x3 ew => k w F3 H3 ((x1.trans x2).trans x3) ew⟩
      | _ => cases e2
    | _ => cases x <;> cases e2

/-! ### the rest of the lists of one's own -/
theorem ss_ext {i : Nat} {x : Str} {e : Expr} {a : IE} {px ap cp pos : Pos} (h : SndE M Φ N sc sc0 e a) (hN : N[i]? = some x := by rfl) (hv : Vis sc x := by first | exact Or.inl rfl | exact Or.inr (Or.inl rfl) | exact Or.inr (Or.inr rfl))
    (hd : (x == ("__debug__" : Str)) = false := by decide) (hcd : (x == ("__classdict__" : Str)) = false := by decide) (hs : ∀ env, starEach [e] env = (false, eval e env) :: starEach [] env := by intro _; rfl)
    (hl : (ap.endLine == cp.line) = true := by rfl) : SndS M Φ N sc sc0 (.Expr (.Call (.Attribute (.Name x px) "extend" ap) [e] [] cp) pos) (.ext i a) := fun X hX hp => by
  have ha : PA X [e] (tCons (tE M Φ a) tNil) := pa_cons (h X hX) pa_nil (hs _)
  have z := pe_bm (cpos := cp) (apos := ap) PySem.F.plainAttrs_list PySem.F.slot_list_extend PySem.F.type_list_extend mt_extend (pe_slot hX (pos := px) hN hv hd hcd) ha (hfew := by rw [hs]; rfl) (hline := hl) (hs := hs _)
  refine PS.imp (ps_expr z rfl) fun Dn σ H h => ?_
  obtain ⟨F0, H0, F, env, r, e, so, k⟩ := h
  unfold evalS at e
  split at e
  · rename_i ds es q1 q2
    split at e
    · rename_i hz
      cases e
      obtain ⟨b, vs, hσ, h0, hf, hb, ev⟩ := own_at so q1
      refine ⟨.ref b, hσ, .inl ⟨rfl, _, SqL.of hb⟩, ?_⟩
      refine ⟨F0, H0, F, env, _, q2, so, fun v F1 H1 x1 e1 => ?_⟩
      have so1 := so.step x1
      obtain ⟨b', vs', hσ', h0', hf', hb', ev'⟩ := own_at so1 q1
      have eb : b' = b := by rw [hσ] at hσ'; cases hσ'; rfl
      subst eb
      obtain ⟨p, ws, rfl, fp, hp1, r1⟩ := e1.sqL x1.s
      refine ⟨b', p, vs', ws, rfl, rfl, hb', hp1, ?_, ?_⟩
      · rw [ev'.len, r1.len]; exact sz_ble hz
      · exact k _ F1 _ (so1.mut q1 rfl hσ h0 hf' ⟨b', _, rfl, h0, hf', upd_same, ev'.app r1⟩)
    · cases e
  · cases e
theorem ss_setL {i : Nat} {x : Str} {j e : Expr} {a b : IE} {px p1 pos : Pos} (hj : SndE M Φ N sc sc0 j a) (he : SndE M Φ N sc sc0 e b) (hN : N[i]? = some x := by rfl) (hv : Vis sc x := by first | exact Or.inl rfl | exact Or.inr (Or.inl rfl) | exact Or.inr (Or.inr rfl))
    (hd : (x == ("__debug__" : Str)) = false := by decide) (hcd : (x == ("__classdict__" : Str)) = false := by decide)
    (ha : ∀ env v, assign (.Subscript (.Name x px) j p1) env v = (do
      let ov ← holding [v] (eval (.Name x px) env)
      let iv ← holding [v, ov] (eval j env)
      standAt p1
      holding [v, ov, iv] (setItem ov iv v)
      release [v, ov, iv] []) := by intro _ _; rfl)
    (hs : ∀ env, swapsWithSole [.Subscript (.Name x px) j p1] e pos.line env = pure false := by intro _; rfl) (hw : ∀ env, swappedStores [.Subscript (.Name x px) j p1] e env = pure none := by intro _; rfl)
    (h1 : ∀ env, (assignEach [.Subscript (.Name x px) j p1] env).map (·.2) = [assign (.Subscript (.Name x px) j p1) env] := by intro _; rfl) :
    SndS M Φ N sc sc0 (.Assign [.Subscript (.Name x px) j p1] e pos) (.setL i a b) := fun X hX hp =>
  PS.imp (ps_asg (he X hX) (pg_sub (pe_slot hX (pos := px) hN hv hd hcd) (hj X hX) set_list (ha _)) (hs _) (hw _) (h1 _)) fun Dn σ H h => by
    obtain ⟨F0, H0, F, env, r, e, so, k⟩ := h
    unfold evalS at e
    split at e
    · rename_i ds n d q1 q2 q3
      cases q : ixN ds.length n with
      | none => rw [q] at e; cases e
      | some jj =>
        rw [q] at e
        cases e
        obtain ⟨c, vs, hσ, h0, hf, hb, ev⟩ := own_at so q1
        refine ⟨F0, H0, F, env, d, q3, so, fun v F1 H1 x1 e1 => ?_⟩
        refine ⟨.ref c, hσ, F0, H0, F1, env, _, q2, so.step x1, fun w F2 H2 x2 e2 => ?_⟩
        cases e2
        have so2 := (so.step x1).step x2
        obtain ⟨c', vs', hσ', h0', hf', hb', ev'⟩ := own_at so2 q1
        have eb : c' = c := by rw [hσ] at hσ'; cases hσ'; rfl
        subst eb
        have el : vs'.length = ds.length := ev'.len
        refine ⟨c', vs', n, jj, rfl, rfl, hb', by rw [el]; exact q, ?_⟩
        exact k _ F2 _ (so2.mut q1 rfl hσ h0 hf' ⟨c', _, rfl, h0, hf', upd_same, ev'.set (e1.mono x2.f) jj⟩)
    · cases e

/-! ### dicts of one's own -/
theorem inl_inj : ∀ {a b : List Int}, a.map (Sum.inl : Int → Key) = b.map Sum.inl → a = b
  | [], [], _ => rfl
  | [], _ :: _, h => by cases h
  | _ :: _, [], h => by cases h
  | x :: a, y :: b, h => by
    injection h with h1 h2
    injection h1 with h1
    rw [h1, inl_inj h2]
section
variable {K : PySem.W.Frag} {CA : Nat → Addr} {F : Hp}
theorem look_enc (k : List Int) : ∀ {kv : List (List Key × V)} {kvs : List (List Int × D)}, EncK K CA F kv kvs → (∃ v d, valV kv (k.map Sum.inl) = some v ∧ lookK kvs k = some d ∧ Enc K CA F v d) ∨ (valV kv (k.map Sum.inl) = none ∧ lookK kvs k = none)
  | _, _, .nil => .inr ⟨rfl, rfl⟩
  | _, _, .cons (k := k') (v := v) (d := d) (ds := kvs) r t => by
    by_cases h : k' = k
    · subst h
      exact .inl ⟨v, d, valV_pos rfl, by simp [lookK, List.find?_cons], r⟩
    · have h' : ¬ (k'.map Sum.inl : List Key) = k.map Sum.inl := fun q => h (inl_inj q)
      rw [valV_neg h']
      have e : lookK ((k', d) :: kvs) k = lookK kvs k := by simp [lookK, List.find?_cons, h]
      rw [e]
      exact look_enc k t
theorem any_enc (k : List Int) : ∀ {kv : List (List Key × V)} {kvs : List (List Int × D)}, EncK K CA F kv kvs → kv.any (fun p => decide (p.1 = k.map Sum.inl)) = kvs.any (fun p => decide (p.1 = k))
  | _, _, .nil => rfl
  | _, _, .cons (k := k') (v := v) (d := d) r t => by
    rw [List.any_cons, List.any_cons, any_enc k t]
    congr 1
    by_cases h : k' = k
    · subst h; simp
    · have h' : ¬ (k'.map Sum.inl : List Key) = k.map Sum.inl := fun q => h (inl_inj q)
      simp [h, h']
theorem enck_app : ∀ {kv kw : List (List Key × V)} {kvs kws : List (List Int × D)}, EncK K CA F kv kvs → EncK K CA F kw kws → EncK K CA F (kv ++ kw) (kvs ++ kws)
  | _, _, _, _, .nil, s => s
  | _, _, _, _, .cons r t, s => .cons r (enck_app t s)
theorem enck_repl {k : List Int} {v : V} {d : D} (e : Enc K CA F v d) : ∀ {kv : List (List Key × V)} {kvs : List (List Int × D)}, EncK K CA F kv kvs → EncK K CA F (kv.map fun p => if p.1 = k.map Sum.inl then (p.1, v) else p) (kvs.map fun p => if p.1 = k then (p.1, d) else p)
  | _, _, .nil => .nil
  | _, _, .cons (k := k') r t => by
    rw [List.map_cons, List.map_cons]
    by_cases h : k' = k
    · subst h
      rw [if_pos rfl, if_pos rfl]
      exact .cons e (enck_repl e t)
    · have h' : ¬ (k'.map Sum.inl : List Key) = k.map Sum.inl := fun q => h (inl_inj q)
      rw [if_neg h', if_neg h]
      exact .cons r (enck_repl e t)
theorem put_enc {k : List Int} {v : V} {d : D} (e : Enc K CA F v d) {kv : List (List Key × V)} {kvs : List (List Int × D)} (h : EncK K CA F kv kvs) : EncK K CA F (putK kv (k.map Sum.inl) v) (putD kvs k d) := by
  unfold putK putD
  rw [any_enc k h]
  split
  · exact enck_repl e h
  · exact enck_app h (.cons e .nil)
end
theorem enc_keyv {F H : Hp} {v : V} {k : List D} {ks : List Int} (s : Same F H) (e : EncM M F v (.tup k)) (q : ints? k = some ks) : ∃ b, v = .ref b ∧ H b = some (.tup ((ks.map Sum.inl).map kV)) := by
  obtain ⟨b, vs, rfl, fp, sp, r⟩ := e.sqT s
  rw [ints_eq q] at r
  rw [r.ints] at fp
  exact ⟨b, rfl, by rw [keys_kV]; exact s _ _ fp⟩
theorem opt_bind {α β : Type} {o : Option α} {f : α → Option β} {b : β} (h : o.bind f = some b) : ∃ a, o = some a ∧ f a = some b := by
  cases o with
  | none => cases h
  | some a => exact ⟨a, rfl, h⟩
/-- a dict of one's own, locked or not, as it is read -/
theorem dct_rd {F0 H0 F H : Hp} {env : En} {σ : L2.St} (so : SOk M F0 H0 F H env σ) {i : Nat} {kvs : List (List Int × D)} {lk : Bool} (hi : env[i]? = some (.dct kvs lk)) : ∃ a kv', σ[i]? = some (some (.ref a)) ∧ Rd H a (.dT kv') ∧ EncK M.K M.CA F kv' kvs ∧ (∀ F' H', Ext F H F' H' → Rd H' a (.dT kv')) := by
  obtain ⟨o, hσ, h⟩ := so.at hi
  cases lk with
  | false =>
    obtain ⟨a, kv', rfl, h1, h2, h3, h4⟩ := h
    exact ⟨a, kv', hσ, .inl h3, h4, fun F' H' x => .inl (x.h _ _ h3)⟩
  | true =>
    obtain ⟨a, od, kv', rfl, h1, h4⟩ := h
    have h3 := so.x.h _ _ h1
    exact ⟨a, kv', hσ, .inr ⟨od, h3⟩, h4, fun F' H' x => .inr ⟨od, x.h _ _ h3⟩⟩
theorem dget_rd {H : Hp} {a b : Addr} {kv : List (List Key × V)} {k : List Key} (h : Rd H a (.dT kv)) (hb : H b = some (.tup (k.map kV))) : DGet H a (.ref b) (valV kv k) := .inr ⟨kv, k, b, h, rfl, hb, rfl⟩
theorem st_din {neg : Bool} {i : Nat} {x : Str} {k : Expr} {a : IE} {px pos : Pos} (op : CmpOp) (hop : op = if neg then .NotIn else .In) (h : SndE M Φ N sc sc0 k a) (hN : N[i]? = some x := by rfl) (hv : Vis sc x := by first | exact Or.inl rfl | exact Or.inr (Or.inl rfl) | exact Or.inr (Or.inr rfl))
    (hd : (x == ("__debug__" : Str)) = false := by decide) (hcd : (x == ("__classdict__" : Str)) = false := by decide) : SndT M Φ N sc sc0 (.Compare k [op] [.Name x px] pos) (.din neg a i) := fun X hX => by
  have hu : X.A.units + 1 < cLine := by have := hX.units; omega
  have main : ∀ σ H Q, tT M Φ (.din neg a i) σ H Q → ∃ F0 H0 F env ks lk kvs kd, evalE Φ a env = some (.tup kd) ∧ ints? kd = some ks ∧ env[i]? = some (.dct kvs lk) ∧ SOk M F0 H0 F H env σ ∧ ∀ F' H', Ext F H F' H' → Q (if neg then !(lookK kvs ks).isSome else (lookK kvs ks).isSome) H' := fun σ H Q h => by
    obtain ⟨F0, H0, F, env, b, e, so, kk⟩ := h
    unfold evalE at e
    split at e
    · rename_i kvs lk kd q1 q2
      obtain ⟨ks, q3, e⟩ := opt_bind e
      injection e with e
      injection e with e
      exact ⟨F0, H0, F, env, ks, lk, kvs, kd, q2, q3, q1, so, fun F' H' x => by rw [e]; exact kk F' H' x⟩
    · cases e
  subst hop
  cases neg with
  | false =>
    refine PT.imp (pt_cmp (pc_din hu (h X hX) (pe_slot hX (pos := px) hN hv hd hcd)) (by rfl)) fun σ H Q hq => ?_
    obtain ⟨F0, H0, F, env, ks, lk, kvs, kd, q2, q3, q1, so, kk⟩ := main σ H Q hq
    refine ⟨F0, H0, F, env, _, q2, so, fun v F1 H1 x1 e1 => ?_⟩
    obtain ⟨c, kv', hσ, rd, ek, rd'⟩ := dct_rd (so.step x1) q1
    obtain ⟨b, rfl, hb⟩ := enc_keyv x1.s e1 q3
    refine ⟨.ref c, hσ, c, _, rfl, dget_rd rd hb, _, rfl, ?_⟩
    have z := kk F1 H1 x1
    rcases look_enc ks ek with ⟨w, d, e2, e3, _⟩ | ⟨e2, e3⟩
    · rw [e3] at z; rw [e2]; exact z
    · rw [e3] at z; rw [e2]; exact z
  | true =>
    refine PT.imp (pt_cmp (pc_dnotin hu (h X hX) (pe_slot hX (pos := px) hN hv hd hcd)) (by rfl)) fun σ H Q hq => ?_
    obtain ⟨F0, H0, F, env, ks, lk, kvs, kd, q2, q3, q1, so, kk⟩ := main σ H Q hq
    refine ⟨F0, H0, F, env, _, q2, so, fun v F1 H1 x1 e1 => ?_⟩
    obtain ⟨c, kv', hσ, rd, ek, rd'⟩ := dct_rd (so.step x1) q1
    obtain ⟨b, rfl, hb⟩ := enc_keyv x1.s e1 q3
    refine ⟨.ref c, hσ, c, _, rfl, dget_rd rd hb, _, rfl, ?_⟩
    have z := kk F1 H1 x1
    rcases look_enc ks ek with ⟨w, d, e2, e3, _⟩ | ⟨e2, e3⟩
    · rw [e3] at z; rw [e2]; exact z
    · rw [e3] at z; rw [e2]; exact z
theorem ss_newD {i : Nat} {x : Str} {p0 px pos : Pos} (nd : N.Nodup) (hN : N[i]? = some x := by rfl) (hs : Sto sc sc0 x := by first | exact Or.inl rfl | exact Or.inr ⟨rfl, rfl⟩) : SndS M Φ N sc sc0 (.Assign [.Name x px] (.Dict [] [] p0) pos) (.newD i) := fun X hX hp =>
  PS.imp (ps_set (by rw [hX.N]; exact nd) (by rw [hX.N]; exact hN) (hs.loc hX) pe_dnewT (by rfl) (hs.fn hX)) fun Dn σ H h => by
    obtain ⟨F0, H0, F, env, r, e, so, k⟩ := h
    cases (Option.some.inj e)
    intro p hp
    have x := Ext.own (o := .dT []) so.fh hp
    exact k _ F _ (so.setOwn x hp ⟨p, [], rfl, so.x.h.free hp, so.fh.free hp, upd_same, .nil⟩)
theorem ss_setD {i : Nat} {x : Str} {kE e : Expr} {a b : IE} {px p1 pos : Pos} (hk : SndE M Φ N sc sc0 kE a) (he : SndE M Φ N sc sc0 e b) (hN : N[i]? = some x := by rfl) (hv : Vis sc x := by first | exact Or.inl rfl | exact Or.inr (Or.inl rfl) | exact Or.inr (Or.inr rfl))
    (hd : (x == ("__debug__" : Str)) = false := by decide) (hcd : (x == ("__classdict__" : Str)) = false := by decide) (hs : ∀ env, swapsWith e (some (.Subscript (.Name x px) kE p1)) pos.line env = pure false := by intro _; rfl) :
    SndS M Φ N sc sc0 (.Assign [.Subscript (.Name x px) kE p1] e pos) (.setD i a b) := fun X hX hp => by
  have hu : X.A.units + 1 < cLine := by have := hX.units; omega
  refine PS.imp (ps_dput hu (pe_slot hX (pos := px) hN hv hd hcd) (hk X hX) (he X hX) (hs _)) fun Dn σ H h => ?_
  obtain ⟨F0, H0, F, env, r, e, so, k⟩ := h
  unfold evalS at e
  split at e
  · rename_i kvs kd d q1 q2 q3
    obtain ⟨ks, q4, e⟩ := opt_bind e
    split at e
    · rename_i hz
      cases e
      refine ⟨F0, H0, F, env, d, q3, so, fun v F1 H1 x1 e1 => ?_⟩
      have so1 := so.step x1
      obtain ⟨c, kv', hσ, h0, hf, hc, ek⟩ := so1.dict q1
      refine ⟨.ref c, hσ, F0, H0, F1, env, _, q2, so1, fun w F2 H2 x2 e2 => ?_⟩
      have so2 := so1.step x2
      obtain ⟨c', kv2, hσ', h0', hf', hc', ek'⟩ := so2.dict q1
      have eb : c' = c := by rw [hσ] at hσ'; cases hσ'; rfl
      subst eb
      obtain ⟨b, rfl, hb⟩ := enc_keyv x2.s e2 q4
      refine ⟨c', _, rfl, DPut.t hc' hb (by rw [enck_len ek']; exact sz_lt' hz), ?_⟩
      exact k _ F2 _ (so2.mut q1 rfl hσ h0 hf' ⟨c', _, rfl, h0, hf', upd_same, put_enc (e1.mono x2.f) ek'⟩)
    · cases e
  · cases e
/-- states = following: the dict goes from one name to another -/
theorem ss_movD {i j : Nat} {x y : Str} {px py pos : Pos} (nd : N.Nodup) (hij : i ≠ j) (hN : N[i]? = some x := by rfl) (hs : Sto sc sc0 x := by first | exact Or.inl rfl | exact Or.inr ⟨rfl, rfl⟩) (hNj : N[j]? = some y := by rfl)
    (hv : Vis sc y := by first | exact Or.inl rfl | exact Or.inr (Or.inl rfl) | exact Or.inr (Or.inr rfl)) (hd : (y == ("__debug__" : Str)) = false := by decide) (hcd : (y == ("__classdict__" : Str)) = false := by decide) :
    SndS M Φ N sc sc0 (.Assign [.Name x px] (.Name y py) pos) (.movD i j) := fun X hX hp =>
  PS.imp (ps_set (by rw [hX.N]; exact nd) (by rw [hX.N]; exact hN) (hs.loc hX) (pe_slot hX (pos := py) hNj hv hd hcd) (by rfl) (hs.fn hX)) fun Dn σ H h => by
    obtain ⟨F0, H0, F, env, r, e, so, k⟩ := h
    unfold evalS at e
    split at e
    · rename_i kvs q1
      rw [if_neg hij] at e
      cases e
      obtain ⟨a, kv', hσ, h0, hf, ha, ek⟩ := so.dict q1
      refine ⟨.ref a, hσ, ?_⟩
      refine k _ F H ?_
      -- forget j, then i takes the dict
      have so1 : SOk M F0 H0 F H (env.set j .non) σ := by
        have z := so.forget j (some (.ref a))
        have e : σ.set j (some (.ref a)) = σ := by
          refine List.ext_getElem? fun l => ?_
          by_cases q : j = l
          · subst q
            rw [List.getElem?_set_self', hσ]
            rfl
          · rw [List.getElem?_set_ne q]
        rw [e] at z
        exact z
      have noa : ∀ {l : Nat} {t : Sl}, (env.set j .non)[l]? = some t → t.own = true → σ[l]? = some (some (.ref a)) → False := fun {l t} q2 o2 q3 => by
        rcases set_cases q2 with ⟨q, e1, _⟩ | ⟨q, e1⟩
        · subst e1; cases o2
        · exact so.ap j l _ t a q q1 e1 rfl o2 hσ q3
      refine ⟨so1.x, by rw [List.length_set, List.length_set, so1.len], fun l t o h1 h3 => ?_, fun l m t u b hn h1 h3 o1 o3 h4 h5 => ?_⟩
      · rcases set_cases h1 with ⟨q, e1, _⟩ | ⟨q, e1⟩
        · subst q e1
          rcases set_cases h3 with ⟨_, e3, _⟩ | ⟨q, _⟩
          · subst e3; exact ⟨a, kv', rfl, h0, hf, ha, ek⟩
          · exact absurd rfl q
        · rw [List.getElem?_set_ne q] at h3
          exact so1.sl l t o e1 h3
      · rcases set_cases h1 with ⟨q, e1, _⟩ | ⟨q, e1⟩
        · subst q
          rcases set_cases h4 with ⟨_, e4, _⟩ | ⟨q, _⟩
          · cases e4
            rcases set_cases h3 with ⟨q, _, _⟩ | ⟨q, e3⟩
            · exact hn q
            · rw [List.getElem?_set_ne q] at h5
              exact noa e3 o3 h5
          · exact absurd rfl q
        · rw [List.getElem?_set_ne q] at h4
          rcases set_cases h3 with ⟨q3, e3, _⟩ | ⟨q3, e3⟩
          · subst q3
            rcases set_cases h5 with ⟨_, e5, _⟩ | ⟨q5, _⟩
            · cases e5
              exact noa e1 o1 h4
            · exact absurd rfl q5
          · rw [List.getElem?_set_ne q3] at h5
            exact so1.ap l m t u b hn e1 e3 o1 o3 h4 h5
    · cases e

/-! ### fields -/
structure ClsAt (M : Md) (c : Nat) : Prop where
  cls : Cls M.K (M.CA c)
  no : ∀ f ∈ cnames c, NoAttr M.K (M.CA c) f
theorem look_zip {c j : Nat} {f : Str} {vs : List V} {v : V} (hl : vs.length = (cnames c).length) (hf : (cnames c)[j]? = some f) (hv : vs[j]? = some v) : ((cnames c).zip vs).lookup f = some v := by
  match c with
  | 0 =>
    match vs, hl with
    | [a, b], _ =>
      match j with
      | 0 => cases (Option.some.inj hf); cases (Option.some.inj hv); rfl
      | 1 =>
        have hf : ("d" : Str) = f := Option.some.inj hf
        have hv : b = v := Option.some.inj hv
        subst hf hv
        show (match ("d" : Str) == ("n" : Str) with | true => some a | false => (match ("d" : Str) == ("d" : Str) with | true => some b | false => none)) = some b
        rw [show (("d" : Str) == ("n" : Str)) = false by decide +kernel, show (("d" : Str) == ("d" : Str)) = true by decide +kernel]
      | j + 2 => cases hf
  | c + 1 =>
    match vs, hl with
    | [a, b], _ =>
      match j with
      | 0 => cases (Option.some.inj hf); cases (Option.some.inj hv); rfl
      | 1 =>
        have hf : ("terms" : Str) = f := Option.some.inj hf
        have hv : b = v := Option.some.inj hv
        subst hf hv
        show (match ("terms" : Str) == ("base" : Str) with | true => some a | false => (match ("terms" : Str) == ("terms" : Str) with | true => some b | false => none)) = some b
        rw [show (("terms" : Str) == ("base" : Str)) = false by decide +kernel, show (("terms" : Str) == ("terms" : Str)) = true by decide +kernel]
      | j + 2 => cases hf
theorem sn_fld {e : Expr} {f : Str} {a : IE} {pos : Pos} (c j : Nat) (h : SndE M Φ N sc sc0 e a) (C : ClsAt M c) (hf : (cnames c)[j]? = some f := by rfl) (hb : ∀ env w, attributeBase e f env w = w := by intro _ _; rfl) : SndE M Φ N sc sc0 (.Attribute e f pos) (.fld c j a) := fun X hX =>
  PE.imp (pe_fld (h X hX) (hb _ _)) fun σ H Q h => by
    obtain ⟨F0, H0, F, env, d, e, so, k⟩ := h
    unfold evalE at e
    split at e
    · rename_i c' fs q
      split at e
      · rename_i ec
        subst ec
        refine ⟨F0, H0, F, env, _, q, so, fun v F1 H1 x1 e1 => ?_⟩
        rw [hX.K]
        cases e1 with
        | ins h1 h2 h3 =>
          obtain ⟨v, q1, q2⟩ := h3.get e
          exact ⟨_, _, _, _, v, rfl, x1.s _ _ h1, C.cls, C.no f (List.mem_of_getElem? hf), look_zip h2 hf q1, k _ F1 H1 x1 q2⟩
      · cases e
    · cases e
theorem putF_zip {c : Nat} {f : Str} {vs : List V} {y : V} (hf : (cnames c)[vs.length]? = some f) : putF f y ((cnames c).zip vs) = (cnames c).zip (vs ++ [y]) := by
  match c with
  | 0 =>
    match vs with
    | [] => cases (Option.some.inj hf); rfl
    | [a] =>
      cases (Option.some.inj hf)
      show (if ("n" : Str) = "d" then _ else (("n" : Str), a) :: putF "d" y []) = _
      rw [if_neg (by decide +kernel)]
      rfl
    | a :: b :: r => cases hf
  | c + 1 =>
    match vs with
    | [] => cases (Option.some.inj hf); rfl
    | [a] =>
      cases (Option.some.inj hf)
      show (if ("base" : Str) = "terms" then _ else (("base" : Str), a) :: putF "terms" y []) = _
      rw [if_neg (by decide +kernel)]
      rfl
    | a :: b :: r => cases hf
/-- self.f = e, self being made: it stands in the first place -/
theorem ss_fld {x : Str} {f : Str} {e : Expr} {a : IE} {px pa pos : Pos} (c j : Nat) (h : SndE M Φ N sc sc0 e a) (C : ClsAt M c) (hN : N[0]? = some x := by rfl) (hv : Vis sc x := by first | exact Or.inl rfl | exact Or.inr (Or.inl rfl) | exact Or.inr (Or.inr rfl))
    (hd : (x == ("__debug__" : Str)) = false := by decide) (hcd : (x == ("__classdict__" : Str)) = false := by decide) (hf : (cnames c)[j]? = some f := by rfl) (hs : ∀ env, swapsWith e (some (.Attribute (.Name x px) f pa)) pos.line env = pure false := by intro _; rfl) :
    SndS M Φ N sc sc0 (.Assign [.Attribute (.Name x px) f pa] e pos) (.fld c j a) := fun X hX hp =>
  PS.imp (ps_fld (pe_slot hX (pos := px) hN hv hd hcd) (h X hX) (hs _)) fun Dn σ H h => by
    obtain ⟨F0, H0, F, env, r, e, so, k⟩ := h
    unfold evalS at e
    split at e
    · rename_i c' fs d q1 q2
      split at e
      · rename_i hz
        cases e
        rw [Bool.and_eq_true, Bool.and_eq_true] at hz
        obtain ⟨⟨z1, z2⟩, z3⟩ := hz
        have ec : c' = c := of_decide_eq_true z1
        have ej : fs.length = j := beq_iff_eq.mp z2
        subst ec ej
        refine ⟨F0, H0, F, env, d, q2, so, fun v F1 H1 x1 e1 => ?_⟩
        have so1 := so.step x1
        have q1' : env[0]? = some (.ins c' fs) := by rw [← List.head?_eq_getElem?]; exact q1
        obtain ⟨o, hσ, a, dx, vs, rfl, h0, hf1, ha, hl, ev, hself⟩ := so1.at q1'
        rw [hX.K]
        refine ⟨.ref a, hσ, a, M.CA c', dx, _, rfl, ha, C.cls, C.no f (List.mem_of_getElem? hf), ?_, ?_⟩
        · have : ((cnames c').zip vs).length ≤ (cnames c').length := by rw [List.length_zip]; exact Nat.min_le_left _ _
          have hc : (cnames c').length ≤ 2 := by
            match c' with
            | 0 => exact Nat.le_refl _
            | _ + 1 => exact Nat.le_refl _
          omega
        · have el : vs.length = fs.length := ev.len
          rw [putF_zip (by rw [el]; exact hf)]
          refine k σ F1 _ ?_
          have hl2 : (vs ++ [v]).length ≤ (cnames c').length := by
            rw [List.length_append, el]
            exact Nat.le_of_ble_eq_true z3
          exact so1.mut (a := a) q1' rfl hσ h0 hf1 ⟨a, dx, _, rfl, h0, hf1, upd_same, hl2, ev.app (.cons e1 .nil), hself⟩
      · cases e
    · cases e

/-! ### calls of the text's own -/
def spD (M : Md) (n : Nat) (g : List D → Option D) : Sp := fun vs H Q _ => ∃ F ds d, vs.length = n ∧ Same F H ∧ EncLM M F vs ds ∧ g ds = some d ∧ ∀ v F' H', Ext F H F' H' → EncM M F' v d → Q v H'
/-- what an __init__ promises -/
def spI (M : Md) (n c : Nat) (g : List D → Option D) : Sp := fun vs H Q _ => ∃ H1 x dx vs' F ds fs, vs = .ref x :: vs' ∧ vs.length = n ∧ H = upd (upd H1 dx (.own x)) x (.ins (M.CA c) dx []) ∧ H1 x = none ∧ H1 dx = none ∧ dx ≠ x ∧ Same F H1 ∧ EncLM M F vs' ds ∧ g ds = some (.ins c fs) ∧
  ∀ F' H' dy ws, Ext F H1 F' H' → F' x = none → H' x = some (.ins (M.CA c) dy ((cnames c).zip ws)) → ws.length = (cnames c).length → EncLM M F' ws fs → Q .non H'
structure FnAt (M : Md) (x : Str) (n : Nat) (g : List D → Option D) (ds : List D) : Prop where
  ex : ∃ (a : Addr) (fd : FuncData) (ps : List Str) (dvs : List V) (us : List Value), M.mg x = some (.ref a) ∧ PySem.W.keepIn M.K (.ref a) = true ∧ Binds M.K fd ps us ∧ Vals dvs us ∧ (∀ F : Hp, EncLM M F dvs ds) ∧ FnOk M.P M.w M.K M.mg M.base CX0 M.k a fd ps (spD M n g)
  len : ∀ ds d, g ds = some d → ds.length = n
def appE : IE → List D → IE
  | .cons a r, ds => .cons a (appE r ds)
  | _, ds => ds.foldr (fun d r => .cons (.cst d) r) .nil
/-- a list of arguments as it is written -/
inductive IsArgs : IE → Prop where
  | nil : IsArgs .nil
  | cons {a r : IE} : IsArgs r → IsArgs (.cons a r)
theorem ev_csts {env : En} : ∀ ds : List D, evalE Φ (ds.foldr (fun d r => .cons (.cst d) r) .nil) env = some (.tup ds)
  | [] => rfl
  | d :: r => by
    show evalE Φ (.cons (.cst d) (r.foldr (fun d r => .cons (.cst d) r) .nil)) env = _
    unfold evalE
    rw [ev_csts r]
    rfl
theorem ev_app {env : En} {ds : List D} {d : D} : ∀ {ie : IE}, IsArgs ie → evalE Φ (appE ie ds) env = some d → ∃ es, evalE Φ ie env = some (.tup es) ∧ d = .tup (es ++ ds)
  | _, .nil, h => by
    have h : evalE Φ (ds.foldr (fun d r => .cons (.cst d) r) .nil) env = some d := h
    rw [ev_csts] at h
    exact ⟨[], rfl, (Option.some.inj h).symm⟩
  | _, .cons (a := a) (r := r) t, h => by
    have h : evalE Φ (.cons a (appE r ds)) env = some d := h
    obtain ⟨x, es, h1, h2, e⟩ := ev_cons h
    obtain ⟨es', h3, e2⟩ := ev_app t h2
    injection e2 with e2
    subst e2
    refine ⟨x :: es', ?_, e⟩
    unfold evalE
    rw [h1, h3]
theorem call_reads {n : Nat} {g : List D → Option D} {ds : List D} {dvs : List V} {f : Fn} {a : IE} {σ : L2.St} {H : Hp} {Q : VK} (hl : ∀ ds d, g ds = some d → ds.length = n) (hd : ∀ F : Hp, EncLM M F dvs ds) (ia : IsArgs a) (hg : Φ f = g) (h : tE M Φ (.call f (appE a ds)) σ H Q) : tCall (spD M n g) dvs E0 (tAr M Φ a) σ H Q := by
  obtain ⟨F0, H0, F, env, d, e, so, k⟩ := h
  obtain ⟨es, e1, e2⟩ := ev_call e
  obtain ⟨es', e3, e4⟩ := ev_app ia e1
  injection e4 with e4
  subst e4
  rw [hg] at e2
  refine ⟨F0, H0, F, env, es', e3, so, fun vs F1 H1 x1 ev => ?_⟩
  have ev2 := ev.app (hd F1)
  exact ⟨F1, _, d, by rw [ev2.len]; exact hl _ _ e2, x1.s, ev2, e2, fun v F2 H2 x2 e2 => k v F2 H2 (x1.trans x2) e2⟩
theorem sn_call {x : Str} {f : Fn} {n : Nat} {ds : List D} {e : Expr} {es : List Expr} {a : IE} {p pos : Pos} (A : FnAt M x n (Φ f) ds) (h : SndA M Φ N sc sc0 (e :: es) a) (ia : IsArgs a) (hg : sc.names.lookup x = some .globalImplicit := by rfl) (hdb : (x == ("__debug__" : Str)) = false := by decide)
    (he : ∀ env, starEach (e :: es) env = (false, eval e env) :: starEach es env := by intro _; rfl) (hpl : ∀ env, (backTo pos (starEach es env)).any (·.1) = false := by intro _; rfl) : SndE M Φ N sc sc0 (.Call (.Name x p) (e :: es) [] pos) (.call f (appE a ds)) := fun X hX => by
  obtain ⟨fa, fd, ps, dvs, us, h1, h2, h3, h4, h5, h6⟩ := A.ex
  have h6' : FnOk X.prog X.w X.K X.mg X.base CX0 M.k fa fd ps (spD M n (Φ f)) := by rw [hX.prog, hX.w, hX.K, hX.mg, hX.base]; exact h6
  exact PE.imp (pe_call h6' hX.room (glob_of hX hg) (mg_of hX h1) (by rw [hX.K]; exact h2) (by rw [hX.K]; exact h3) h4 pass0 (h X hX) hdb (he _) (hpl _)) fun σ H Q hq => call_reads A.len h5 ia rfl hq
theorem sn_call0 {x : Str} {f : Fn} {n : Nat} {ds : List D} {p pos : Pos} (A : FnAt M x n (Φ f) ds) (hg : sc.names.lookup x = some .globalImplicit := by rfl) (hdb : (x == ("__debug__" : Str)) = false := by decide) : SndE M Φ N sc sc0 (.Call (.Name x p) [] [] pos) (.call f (appE .nil ds)) := fun X hX => by
  obtain ⟨fa, fd, ps, dvs, us, h1, h2, h3, h4, h5, h6⟩ := A.ex
  have h6' : FnOk X.prog X.w X.K X.mg X.base CX0 M.k fa fd ps (spD M n (Φ f)) := by rw [hX.prog, hX.w, hX.K, hX.mg, hX.base]; exact h6
  refine PE.imp (pe_call0 h6' hX.room (glob_of hX hg) (mg_of hX h1) (by rw [hX.K]; exact h2) (by rw [hX.K]; exact h3) h4 pass0 hdb) fun σ H Q hq => ?_
  have z := call_reads A.len h5 .nil rfl hq
  obtain ⟨F0, H0, F, env, ds', e, so, k⟩ := z
  have := ev_nil e
  subst this
  exact k [] F H (.refl so.fh) .nil
/-- a method -/
structure MtAt (M : Md) (c : Nat) (m : Str) (n : Nat) (g : List D → Option D) : Prop where
  ex : ∃ (a : Addr) (fd : FuncData) (ps : List Str), Meth M.K (M.CA c) m a ∧ Binds M.K fd ps [] ∧ FnOk M.P M.w M.K M.mg M.base CX0 M.k a fd ps (spD M n g)
  len : ∀ ds d, g ds = some d → ds.length = n
  ins : ∀ ds d, g ds = some d → ∃ fs r, ds = .ins c fs :: r
  no : m ∉ cnames c
theorem look_no {c : Nat} {m : Str} (h : m ∉ cnames c) : ∀ vs : List V, ((cnames c).zip vs).lookup m = none := fun vs => by
  cases q : ((cnames c).zip vs).lookup m with
  | none => rfl
  | some v =>
    have := PySem.mem_of_lookup q
    exact absurd (List.of_mem_zip this).1 h
theorem sn_meth {m : Str} {f : Fn} {n c : Nat} {o e : Expr} {es : List Expr} {b a : IE} {pos apos : Pos} (A : MtAt M c m n (Φ f)) (C : ClsAt M c) (ho : SndE M Φ N sc sc0 o b) (h : SndA M Φ N sc sc0 (e :: es) a)
    (hst : ∀ env, starEach (e :: es) env = (false, eval e env) :: starEach es env := by intro _; rfl) (hpl : ∀ env, (backTo pos (starEach es env)).any (·.1) = false := by intro _; rfl)
    (ht : ∀ env, ∃ pl : Sem Bool, eval (.Call (.Attribute o m apos) (e :: es) [] pos) env = (do
      let ov ← eval o env
      standAt apos.atName
      let (f, first) ← holding [ov] (getMethod ov m pl)
      callWith pos f first (backTo pos (starEach (e :: es) env)) (backToKw pos (keywordEach [] env))) := by intro _; exact ⟨_, rfl⟩) : SndE M Φ N sc sc0 (.Call (.Attribute o m apos) (e :: es) [] pos) (.call f (.cons b a)) := fun X hX => by
  obtain ⟨fa, fd, ps, h1, h2, h3⟩ := A.ex
  have h3' : FnOk X.prog X.w X.K X.mg X.base CX0 M.k fa fd ps (spD M n (Φ f)) := by rw [hX.prog, hX.w, hX.K, hX.mg, hX.base]; exact h3
  obtain ⟨pl, hpl2⟩ := ht X.env
  refine PE.imp (pe_meth (pl := pl) (ho X hX) (by rw [hX.K]; exact C.cls) (by rw [hX.K]; exact h1) h3' hX.room (by rw [hX.K]; exact h2) .nil pass0 (h X hX) (hst _) (hpl _) hpl2) fun σ H Q hq => ?_
  obtain ⟨F0, H0, F, env, d, e, so, k⟩ := hq
  obtain ⟨es, e1, e2⟩ := ev_call e
  obtain ⟨x, es', h4, h5, e3⟩ := ev_cons e1
  injection e3 with e3
  subst e3
  obtain ⟨fs, r, e4⟩ := A.ins _ _ e2
  injection e4 with e4 e5
  subst e4 e5
  refine ⟨F0, H0, F, env, _, h4, so, fun v F1 H1 x1 ev => ?_⟩
  have ev' := ev
  cases ev with
  | ins i1 i2 i3 =>
    refine ⟨_, _, _, rfl, x1.s _ _ i1, look_no A.no _, F0, H0, F1, env, _, h5, so.step x1, fun vs F2 H2 x2 ea => ?_⟩
    have el : EncLM M F2 (_ :: vs) (_ :: es') := .cons (ev'.mono x2.f) ea
    show spD M n (Φ f) (_ :: (vs ++ [])) H2 Q E0
    rw [List.append_nil]
    exact ⟨F2, _, d, by rw [el.len]; exact A.len _ _ e2, x2.s, el, e2, fun w F3 H3 x3 ew => k w F3 H3 ((x1.trans x2).trans x3) ew⟩
theorem sn_meth0 {m : Str} {f : Fn} {n c : Nat} {o : Expr} {b : IE} {pos apos : Pos} (A : MtAt M c m n (Φ f)) (C : ClsAt M c) (ho : SndE M Φ N sc sc0 o b)
    (ht : ∀ env, ∃ pl : Sem Bool, eval (.Call (.Attribute o m apos) [] [] pos) env = (do
      let ov ← eval o env
      standAt apos.atName
      let (f, first) ← holding [ov] (getMethod ov m pl)
      callWith pos f first (backTo pos (starEach [] env)) (backToKw pos (keywordEach [] env))) := by intro _; exact ⟨_, rfl⟩) : SndE M Φ N sc sc0 (.Call (.Attribute o m apos) [] [] pos) (.call f (.cons b .nil)) := fun X hX => by
  obtain ⟨fa, fd, ps, h1, h2, h3⟩ := A.ex
  have h3' : FnOk X.prog X.w X.K X.mg X.base CX0 M.k fa fd ps (spD M n (Φ f)) := by rw [hX.prog, hX.w, hX.K, hX.mg, hX.base]; exact h3
  obtain ⟨pl, hpl2⟩ := ht X.env
  refine PE.imp (pe_meth0 (pl := pl) (ho X hX) (by rw [hX.K]; exact C.cls) (by rw [hX.K]; exact h1) h3' hX.room (by rw [hX.K]; exact h2) .nil pass0 hpl2) fun σ H Q hq => ?_
  obtain ⟨F0, H0, F, env, d, e, so, k⟩ := hq
  obtain ⟨es, e1, e2⟩ := ev_call e
  obtain ⟨x, es', h4, h5, e3⟩ := ev_cons e1
  injection e3 with e3
  subst e3
  have := ev_nil h5
  subst this
  obtain ⟨fs, r, e4⟩ := A.ins _ _ e2
  injection e4 with e4 e5
  subst e4
  refine ⟨F0, H0, F, env, _, h4, so, fun v F1 H1 x1 ev => ?_⟩
  have ev' := ev
  cases ev with
  | ins i1 i2 i3 =>
    have el : EncLM M F1 [_] [_] := .cons ev' .nil
    exact ⟨_, _, _, rfl, x1.s _ _ i1, look_no A.no _, F1, _, d, by show ([_] : List V).length = n; rw [el.len]; exact A.len _ _ e2, x1.s, el, e2, fun w F3 H3 x3 ew => k w F3 H3 (x1.trans x3) ew⟩
/-- a new instance -/
structure MkAt (M : Md) (x : Str) (n c : Nat) (g : List D → Option D) (ds : List D) : Prop where
  ex : (∀ es, g es = none) ∨ ∃ (a : Addr) (fd : FuncData) (ps : List Str) (dvs : List V) (us : List Value) (j : Nat), M.k = j + 1 ∧ M.mg x = some (.ref (M.CA c)) ∧ Mk M.K (M.CA c) a ∧ Binds M.K fd ps us ∧ Vals dvs us ∧ (∀ F : Hp, EncLM M F dvs ds) ∧ FnOk M.P M.w M.K M.mg M.base CX0 j a fd ps (spI M n c g)
  len : ∀ ds d, g ds = some d → ds.length + 1 = n
  ins : ∀ ds d, g ds = some d → ∃ fs, d = .ins c fs
theorem PE.never {e : Expr} {t : TE} (h : ∀ σ H Q, t σ H Q → False) : PE X e t := ⟨fun _ _ σ H Q _ w => (h σ H Q w).elim⟩
theorem sn_make {x : Str} {f : Fn} {n c : Nat} {ds : List D} {e : Expr} {es : List Expr} {a : IE} {p pos : Pos} (A : MkAt M x n c (Φ f) ds) (h : SndA M Φ N sc sc0 (e :: es) a) (ia : IsArgs a) (hg : sc.names.lookup x = some .globalImplicit := by rfl) (hdb : (x == ("__debug__" : Str)) = false := by decide)
    (he : ∀ env, starEach (e :: es) env = (false, eval e env) :: starEach es env := by intro _; rfl) (hpl : ∀ env, (backTo pos (starEach es env)).any (·.1) = false := by intro _; rfl) : SndE M Φ N sc sc0 (.Call (.Name x p) (e :: es) [] pos) (.call f (appE a ds)) := fun X hX => by
  rcases A.ex with hn | ⟨fa, fd, ps, dvs, us, j, hj, h1, h2, h3, h4, h5, h6⟩
  · refine PE.never fun σ H Q hq => ?_
    obtain ⟨F0, H0, F, env, d, e, so, k⟩ := hq
    obtain ⟨es, e1, e2⟩ := ev_call e
    rw [hn] at e2
    cases e2
  · have h6' : FnOk X.prog X.w X.K X.mg X.base CX0 j fa fd ps (spI M n c (Φ f)) := by rw [hX.prog, hX.w, hX.K, hX.mg, hX.base]; exact h6
    refine PE.imp (pe_make (C := M.CA c) (by rw [hX.K]; exact h2) h6' (by rw [← hj]; exact hX.room) (glob_of hX hg) (mg_of hX h1) (by rw [hX.K]; exact h3) h4 pass0 (h X hX) hdb (he _) (hpl _)) fun σ H Q hq => ?_
    obtain ⟨F0, H0, F, env, d, e, so, k⟩ := hq
    obtain ⟨es, e1, e2⟩ := ev_call e
    obtain ⟨es', e3, e4⟩ := ev_app ia e1
    injection e4 with e4
    subst e4
    obtain ⟨fs, rfl⟩ := A.ins _ _ e2
    refine ⟨F0, H0, F, env, es', e3, so, fun vs F1 H1 x1 ev x dx hx hdx hne => ?_⟩
    have ev2 := ev.app (h5 F1)
    refine ⟨H1, x, dx, vs ++ dvs, F1, _, fs, rfl, ?_, rfl, hx, hdx, hne, x1.s, ev2, e2, fun F' H' dy ws x2 fx hx' hl el => ⟨rfl, ?_⟩⟩
    · rw [List.length_cons, ev2.len]; exact A.len _ _ e2
    · have m : Same F' (upd F' x (.ins (M.CA c) dy ((cnames c).zip ws))) := fun b u q => by rw [upd_ne (ne_of_none q fx)]; exact q
      have x3 : Ext F1 H1 (upd F' x (.ins (M.CA c) dy ((cnames c).zip ws))) H' := by
        refine ⟨x2.f.trans m, x2.h, fun b u q => ?_, fun b u q n => ?_⟩
        · by_cases z : b = x
          · subst z; rw [upd_same] at q; rw [hx', q]
          · rw [upd_ne z] at q; exact x2.s b u q
        · rw [upd_ne (ne_of_none q hx)]; exact x2.n b u q n
      exact k _ _ H' (x1.trans x3) (.ins upd_same hl (el.mono m))
/-- an operator of the class's own -/
structure OpAt (M : Md) (c : Nat) (op : Operator) (g : List D → Option D) : Prop where
  ex : ∃ (a : Addr) (fd : FuncData) (ps : List Str), PySem.W.findIn M.K (.ref (M.CA c)) (PySem.dunder op.info.2) = some (some (.ref a)) ∧ PySem.W.isFn M.K (.ref a) = true ∧ PySem.W.selfFirst M.K (M.CA c) = true ∧ Binds M.K fd ps [] ∧ FnOk M.P M.w M.K M.mg M.base CX0 M.k a fd ps (spD M 2 g)
  ins : ∀ ds d, g ds = some d → ∃ fs gs, ds = [.ins c fs, .ins c gs]
theorem own_opr {op : Operator} {c : Nat} {f : Fn} (hX : XOk M N sc sc0 X) (A : OpAt M c op (Φ f)) : OpR X (binaryOp op) (fun x y H Q => ∃ F dx dy d, Same F H ∧ EncM M F x dx ∧ EncM M F y dy ∧ Φ f [dx, dy] = some d ∧ ∀ v F' H', Ext F H F' H' → EncM M F' v d → Q v H') := by
  intro pins s σ H x y v u Q I rx ry h
  obtain ⟨F, dx, dy, d, sm, ex, ey, e, k⟩ := h
  obtain ⟨fs, gs, e1⟩ := A.ins _ _ e
  injection e1 with e1 e2
  injection e2 with e2 _
  subst e1 e2
  obtain ⟨fa, fd, ps, h1, h2, h3, h4, h5⟩ := A.ex
  have h5' : FnOk X.prog X.w X.K X.mg X.base CX0 M.k fa fd ps (spD M 2 (Φ f)) := by rw [hX.prog, hX.w, hX.K, hX.mg, hX.base]; exact h5
  have el : EncLM M F [x, y] [.ins c fs, .ins c gs] := .cons ex (.cons ey .nil)
  have sp : spD M 2 (Φ f) ([x, y] ++ []) H Q E0 := ⟨F, _, d, rfl, sm, el, e, k⟩
  cases ex with
  | ins i1 i2 i3 =>
    cases ey with
    | ins j1 j2 j3 =>
      have rx' := rx
      have ry' := ry
      cases rx
      cases ry
      obtain ⟨mA, J, _⟩ := ins_get I.hok (sm _ _ i1)
      obtain ⟨mB, J', _⟩ := ins_get I.hok (sm _ _ j1)
      obtain ⟨od, J, _⟩ := J.look
      obtain ⟨od', J', _⟩ := J'.look
      obtain ⟨m, hF⟩ := I.fr
      refine PySem.W.binop_K hF I.ok.mod.kin J J'.type (by rw [hX.K]; exact h3) (by rw [hX.K]; exact h1) (by rw [hX.K]; exact h2) ?_
      refine wpAny_mono (run_fn (us := [.ref _, .ref _]) h5' hX.room (by rw [hX.K]; exact h4) .nil pass0 I (.cons rx' (.cons ry' .nil)) sp) (fun w s' z => ?_) fun _ _ q => q
      obtain ⟨z', H', I', rz, qz⟩ := z
      exact SlX.cmpback rz ⟨z', H', I', rz, qz⟩
theorem sn_own {l r : Expr} {op : Operator} {c : Nat} {f : Fn} {a b : IE} {pos : Pos} (A : OpAt M c op (Φ f)) (hl : SndE M Φ N sc sc0 l a) (hr : SndE M Φ N sc sc0 r b) : SndE M Φ N sc sc0 (.BinOp l op r pos) (.call f (.cons a (.cons b .nil))) := fun X hX =>
  PE.imp (pe_op (own_opr hX A) (hl X hX) (hr X hX)) fun σ H Q h => by
    obtain ⟨F0, H0, F, env, d, e, so, k⟩ := h
    obtain ⟨ds, e1, e2⟩ := ev_call e
    obtain ⟨x, y, h1, h2, e3⟩ := ev_cons2 e1
    injection e3 with e3
    subst e3
    exact ⟨F0, H0, F, env, x, h1, so, fun v F1 H1 x1 ev => ⟨F0, H0, F1, env, y, h2, so.step x1, fun u F2 H2 x2 eu => ⟨F2, x, y, d, x2.s, ev.mono x2.f, eu, e2, fun w F3 H3 x3 ew => k w F3 H3 ((x1.trans x2).trans x3) ew⟩⟩⟩
end FB

set_option Elab.async false
set_option linter.all false
set_option maxRecDepth 100000
set_option maxHeartbeats 1000000
/-! FBm: sum, sorted, min, xs[::-1], isinstance. -/
namespace FB
open PySem PySem.Spec PyProof.Rows L2
variable {M : Md} {Φ : Fn → List D → Option D} {N : List Str} {sc sc0 : Scope} {X : Cx}

/-! ### one's own order -/
theorem ins_perm (x : Int) : ∀ l : List Int, (insA x l).Perm (x :: l)
  | [] => List.Perm.refl _
  | y :: r => by
    unfold insA
    split
    · exact List.Perm.refl _
    · exact ((ins_perm x r).cons y).trans (List.Perm.swap x y r)
theorem sortA_perm : ∀ l : List Int, (sortA l).Perm l
  | [] => List.Perm.refl _
  | x :: r => (ins_perm x (sortA r)).trans ((sortA_perm r).cons x)
theorem ins_sorted (x : Int) : ∀ l : List Int, l.Pairwise (· ≤ ·) → (insA x l).Pairwise (· ≤ ·)
  | [], _ => List.pairwise_singleton _ _
  | y :: r, h => by
    unfold insA
    have h' := List.pairwise_cons.mp h
    split
    · rename_i q
      exact List.pairwise_cons.mpr ⟨fun z hz => (List.mem_cons.mp hz).elim (fun e => by subst e; exact q) (fun e => Int.le_trans q (h'.1 z e)), h⟩
    · rename_i q
      refine List.pairwise_cons.mpr ⟨fun z hz => ?_, ins_sorted x r h'.2⟩
      rcases List.mem_cons.mp ((ins_perm x r).mem_iff.mp hz) with e | e
      · subst e; omega
      · exact h'.1 z e
theorem sortA_sorted : ∀ l : List Int, (sortA l).Pairwise (· ≤ ·)
  | [] => .nil
  | x :: r => ins_sorted x _ (sortA_sorted r)
theorem sortA_eq {l ys : List Int} (p : ys.Perm l) (s : ys.Pairwise (· ≤ ·)) : ys = sortA l :=
  List.Perm.eq_of_pairwise (le := (· ≤ ·)) (fun a b _ _ h1 h2 => Int.le_antisymm h1 h2) s (sortA_sorted l) (p.trans (sortA_perm l).symm)
theorem sortR_eq {l ys : List Int} (p : ys.Perm l) (s : ys.Pairwise (· ≥ ·)) : ys = (sortA l).reverse := by
  refine List.Perm.eq_of_pairwise (le := (· ≥ ·)) (fun a b _ _ h1 h2 => Int.le_antisymm h2 h1) s (List.pairwise_reverse.mpr (sortA_sorted l)) (p.trans ((List.reverse_perm _).trans (sortA_perm l)).symm)

/-! ### what a list or a tuple of ints is -/
/-- the ints at the value -/
def SqI (K : PySem.W.Frag) (H : Hp) (x : V) (ns : List Int) : Prop := ∃ a, x = .ref a ∧ (SqL K H a (ns.map V.int) ∨ SqT K H a (ns.map V.int))
theorem sqI_of {F H : Hp} {x : V} {d : D} {ns : List Int} (s : Same F H) (e : EncM M F x d) (q : d.isInts = some ns) : SqI M.K H x ns := by
  cases d with
  | tup ds =>
    obtain ⟨p, vs, rfl, fp, sp, r⟩ := e.sqT s
    rw [ints_eq (show ints? ds = some ns from q)] at r
    rw [r.ints] at sp
    exact ⟨p, rfl, .inr sp⟩
  | lst ds =>
    obtain ⟨p, vs, rfl, fp, sp, r⟩ := e.sqL s
    rw [ints_eq (show ints? ds = some ns from q)] at r
    rw [r.ints] at sp
    exact ⟨p, rfl, .inl (SqL.of sp)⟩
  | ktup =>
    cases (Option.some.inj (show some ([] : List Int) = some ns from q))
    cases e with
    | ktup h => exact ⟨_, rfl, .inr (h.sq H)⟩
  | _ => cases q
/-- the object: its items are ints -/
theorem sqI_at {pins : List (Addr × Obj)} {σ : L2.St} {H : Hp} {s : Shared} {x : V} {u : Value} {ns : List Int} (I : Inv X pins σ H s) (h : SqI X.K H x ns) (r : RelV x u) :
    ∃ (a : Addr) (T : String) (its : List Value) (o : Obj) (n : Nat), u = .ref a ∧ (T = "list" ∨ T = "tuple") ∧ s.heap.get? a = some o ∧ o.cls = .type T ∧ o.data = .seq its.toArray n ∧ IntsAre its ns ∧ its.length ≤ sizeLine ∧ (T = "list" → s.heap.IsList a its.toArray) ∧ (T = "tuple" → s.heap.IsTuple a its.toArray) := by
  obtain ⟨a, rfl, h⟩ := h
  cases r
  rcases h with h | h
  · obtain ⟨its, rv, pl, hz⟩ := I.list h
    obtain ⟨o, ho, hc, n, hd⟩ := id pl.isList
    exact ⟨a, "list", its, o, n, rfl, .inl rfl, ho, hc, hd, rv.ints, by rw [← rv.length]; exact hz, fun _ => pl.isList, fun z => absurd z (by decide)⟩
  · obtain ⟨its, rv, pl, hz⟩ := I.tuple h
    obtain ⟨o, ho, hc, n, hd⟩ := id pl
    exact ⟨a, "tuple", its, o, n, rfl, .inr rfl, ho, hc, hd, rv.ints, by rw [← rv.length]; exact hz, fun z => absurd z (by decide), fun _ => pl⟩

/-! ### sum -/
theorem sum_tup {prog : Program} {w : World} {A : Around} {E : Value → Shared → Prop} {s : Shared} {l : Addr} {its : List Value} {ns : List Int} {Q : Value → Shared → Prop} (hh : A.handled = none) (hl : s.heap.IsTuple l its.toArray) (hi : IntsAre its ns)
    (h : ∀ h' tk t', (∀ b o, s.heap.get? b = some o → h'.get? b = some o) → Q (.int ns.sum t') { s with heap := h', toks := tk }) : wpAny (model prog w) A (call (.builtin "sum") [.ref l]) Q E s := by
  obtain ⟨xs, e⟩ := hi.allInts.items
  have hn : numsOf (intItems xs).toList = ns := by rw [← e]; exact hi.numsOf
  rw [nums_intItems] at hn
  rw [e] at hl
  refine call_sum_walkAnyS (PySem.W.iter_tupleW (A := A.in1) hh hl fun s₂ e2 W st hfp hw hk => ?_)
  refine ⟨_, _, _, _, _, _, _, numAt xs, rfl, W, st, hfp, (fun _ _ => intItems_at), fun s' t' hm => ?_⟩
  obtain ⟨h', tk, rfl, hold⟩ := PySem.W.moved_old e2 rfl hm
  have := h h' tk t' hold
  rw [← hn] at this
  have e3 : preSum (numAt xs) (intItems xs).size = (xs.toList.map (·.1)).sum := by
    rw [preSum_eq, List.take_of_length_le (by simp [intItems])]
  rw [e3]
  exact this
theorem cd_sum (hX : XOk M N sc sc0 X) : CallR X (.builtin "sum") (rC M .sum) := by
  intro pins s σ H xs us Q I r h
  obtain ⟨F, ds, d, sm, el, e, k⟩ := h
  rcases ds with _ | ⟨a, _ | ⟨b, r'⟩⟩
  · cases e
  · have e : (a.isInts.map fun l => D.int l.sum) = some d := e
    cases q : a.isInts with
    | none => rw [q] at e; cases e
    | some ns =>
      rw [q] at e
      cases e
      obtain ⟨v, rfl, ev⟩ := el.one
      obtain ⟨u, rfl, rx⟩ := vals1 r
      obtain ⟨a, T, its, o, n, rfl, hT, ho, hc, hd, hi, hz, hL, hU⟩ := sqI_at I (by rw [hX.K]; exact sqI_of sm ev q) rx
      have fin : ∀ h' tk t', (∀ b o, s.heap.get? b = some o → h'.get? b = some o) → EP X pins σ Q (.int ns.sum t') { s with heap := h', toks := tk } := fun h' tk t' hk => ⟨.int _, H, I.kept hk, ⟨_, rfl⟩, k _ F H (.refl sm) .int⟩
      rcases hT with e | e
      · exact sum_raw (I.ok.hd hX.calm) (hL e) hi fin
      · exact sum_tup (I.ok.hd hX.calm) (hU e) hi fin
  · cases a <;> cases e

/-! ### sorted -/
section
variable {prog : Program} {w : World} {A : Around} {E : Value → Shared → Prop} {s : Shared}
/-- sorted(x): x collected to vs, then sorted -/
theorem sorted_col {u : Value} {vs : List Value} {ltv : Value → Value → Bool} {Q : Value → Shared → Prop} (O : SrtO.Swo ltv) (hz : vs.length ≤ sizeLine)
    (hcol : ∀ (Q1 : List Value → Shared → Prop), (∀ h' tk, (∀ b o, s.heap.get? b = some o → h'.get? b = some o) → Q1 vs { s with heap := h', toks := tk }) → ∀ E1, wpAny (model prog w) A.in1 (collect u) Q1 E1 s)
    (hS : 2 ≤ vs.length → ∀ (h₁ : Heap) (tk : Nat) (a : Addr), h₁.get? a = some (seqObj "list" vs.toArray 0) → (∀ b o, s.heap.get? b = some o → b ≠ a ∧ h₁.get? b = some o) → SrtO.SortableO prog w A.in1.in1 { s with heap := h₁, toks := tk } a vs ltv)
    (h : ∀ (out : List Value) (h1 h2 : Heap) (tk ep : Nat), SrtO.Srtd ltv out → SrtO.Stb ltv out vs → (∀ b o, s.heap.get? b = some o → h1.get? b = some o) → (∀ b o, h1.get? b = some o → h2.get? b = some o) → h2.get? h1.objs.size = some (seqObj "list" out.toArray ep) → Q (.ref h1.objs.size) { s with heap := h2, toks := tk }) :
    wpAny (model prog w) A (call (.builtin "sorted") [u]) Q E s := by
  refine Calls.call_function_entry kind_sorted plain_sorted entry_sorted (args_sorted1 _) ?_
  unfold Builtin.«sorted»
  refine wpAny_bind (m := checkCount "sorted" 1 1 _) (wpAny_pure ?_)
  refine wpAny_bind (hcol _ (fun h' tk hk => ?_) _)
  refine wpAny_bind (wpAny_newList ?_ hz)
  have hoL : (h'.push (seqObj "list" vs.toArray 0)).get? h'.objs.size = some (seqObj "list" vs.toArray 0) := Heap.get?_push_size _ rfl
  have keep : ∀ b o, s.heap.get? b = some o → b ≠ h'.objs.size ∧ (h'.push (seqObj "list" vs.toArray 0)).get? b = some o := fun b o q => ⟨Nat.ne_of_lt (Heap.lt_size (hk b o q)), Heap.get?_push_of_some _ (hk b o q)⟩
  show wpAny _ _ _ _ _ { s with heap := h'.push (seqObj "list" vs.toArray 0), toks := tk }
  refine wpAny_bind (wpAny_holding (wpAny_call_entry slot_list_sort ⟨_, hoL, rfl⟩ entry_list_sort (SrtO.list_sort_ord (s := { s with heap := h'.push (seqObj "list" vs.toArray 0), toks := tk }) O hoL hz (fun h2 => hS h2 _ tk _ hoL keep) fun out hs hb => ⟨_, rfl, ?_⟩) (args_list_sort _)))
  obtain ⟨ep, he'⟩ := PyProof.Rows.sortedHeap_at (vs := vs) (out := out.toArray) hoL
  refine wpAny_pure ⟨_, rfl, h out h' _ tk ep hs hb hk (fun b o e => ?_) he'⟩
  have k2 := Heap.get?_push_of_some (seqObj "list" vs.toArray 0) e
  rw [PyProof.Rows.sortedHeap_old (Nat.ne_of_lt (Heap.lt_size e)) (Heap.lt_size k2)]
  exact k2
/-- a list's, a tuple's items -/
theorem col_seq {a : Addr} {T : String} {its : List Value} {o : Obj} {n : Nat} (hT : T = "list" ∨ T = "tuple") (ho : s.heap.get? a = some o) (hc : o.cls = .type T) (hd : o.data = .seq its.toArray n) (hz : its.length ≤ sizeLine)
    (Q1 : List Value → Shared → Prop) (h : ∀ h' tk, (∀ b o, s.heap.get? b = some o → h'.get? b = some o) → Q1 its { s with heap := h', toks := tk }) (E1 : Value → Shared → Prop) : wpAny (model prog w) A (collect (.ref a)) Q1 E1 s :=
  wpAny_collect_seq (hsz := by simpa using hz) a hT ho hc hd fun h' hk => by simpa using h h' s.toks hk
end
theorem cd_sorted (hX : XOk M N sc sc0 X) : CallR X (.builtin "sorted") (rC M .sorted) := by
  intro pins s σ H xs us Q I r h
  obtain ⟨F, ds, d, sm, el, e, k⟩ := h
  rcases ds with _ | ⟨a, _ | ⟨b, r'⟩⟩
  · cases e
  · have e : (a.isInts.map fun l => D.lst ((sortA l).map .int)) = some d := e
    cases q : a.isInts with
    | none => rw [q] at e; cases e
    | some ns =>
      rw [q] at e
      cases e
      obtain ⟨v, rfl, ev⟩ := el.one
      obtain ⟨u, rfl, rx⟩ := vals1 r
      obtain ⟨a, T, its, o, n, rfl, hT, ho, hc, hd, hi, hz, hL, hU⟩ := sqI_at I (by rw [hX.K]; exact sqI_of sm ev q) rx
      refine sorted_col SrtO.swo_int hz (fun Q1 h1 E1 => col_seq hT ho hc hd hz Q1 h1 E1) (fun h2 h₁ tk a _ _ => SrtO.ints_sortable hi h2) fun out h1 h2 tk ep hs hb k1 k2 g => ?_
      obtain ⟨p1, p2, p3⟩ := SrtO.ints_out hi hs hb
      have I1 : Inv X pins σ H { s with heap := h1, toks := tk } := I.kept k1
      have hf := I1.hok.fresh (Nat.le_refl h1.objs.size)
      have hlen : ((out.map SrtO.iv).map V.int).length ≤ sizeLine := by
        rw [List.length_map, p2.length_eq, ← hi.length]
        exact hz
      rw [sortA_eq p2 p3] at p1 hlen
      obtain ⟨x, en⟩ := new_lst (M := M) (vs := (sortA ns).map V.int) (ds := (sortA ns).map D.int) sm hf (.ofInts _)
      exact ⟨.ref h1.objs.size, upd H h1.objs.size (.lst ((sortA ns).map V.int)), I1.laid (t' := tk) k2 (Nat.le_refl _) ⟨hlen, out, ep, vals_of_ints p1, g⟩, rfl, k _ _ _ x en⟩
  · cases a <;> cases e
end FB

set_option Elab.async false
set_option linter.all false
set_option maxRecDepth 100000
set_option maxHeartbeats 1000000
/-! FBm2: sorted by reverse=True, min of three, t[::-1], isinstance, index. -/
namespace FB
open PySem PySem.Spec PyProof.Rows L2
variable {M : Md} {Φ : Fn → List D → Option D} {N : List Str} {sc sc0 : Scope} {X : Cx}

/-! ### sorted(x, reverse=True) -/
section
variable {prog : Program} {w : World} {A : Around} {E : Value → Shared → Prop} {s : Shared}
theorem sorted_colR {u : Value} {vs : List Value} {ltv : Value → Value → Bool} {Q : Value → Shared → Prop} (O : SrtO.Swo ltv) (hz : vs.length ≤ sizeLine)
    (hcol : ∀ (Q1 : List Value → Shared → Prop), (∀ h' tk, (∀ b o, s.heap.get? b = some o → h'.get? b = some o) → Q1 vs { s with heap := h', toks := tk }) → ∀ E1, wpAny (model prog w) A.in1 (collect u) Q1 E1 s)
    (hS : 2 ≤ vs.length → ∀ (h₁ : Heap) (tk : Nat) (a : Addr), h₁.get? a = some (seqObj "list" vs.toArray 0) → (∀ b o, s.heap.get? b = some o → b ≠ a ∧ h₁.get? b = some o) → SrtO.SortableO prog w A.in1.in1 { s with heap := h₁, toks := tk } a vs ltv)
    (h : ∀ (out : List Value) (h1 h2 : Heap) (tk ep : Nat), SrtO.Srtd ltv out → SrtO.Stb ltv out vs.reverse → (∀ b o, s.heap.get? b = some o → h1.get? b = some o) → (∀ b o, h1.get? b = some o → h2.get? b = some o) → h2.get? h1.objs.size = some (seqObj "list" out.toArray.reverse ep) → Q (.ref h1.objs.size) { s with heap := h2, toks := tk }) :
    wpAny (model prog w) A (call (.builtin "sorted") [u] [(Str.ofString "reverse", .bool true)]) Q E s := by
  refine call_function_entry_kw kind_sorted plain_sorted entry_sorted (args_sorted_rev _ _) ?_
  unfold Builtin.«sorted»
  refine wpAny_bind (m := checkCount "sorted" 1 1 _) (wpAny_pure ?_)
  refine wpAny_bind (hcol _ (fun h' tk hk => ?_) _)
  refine wpAny_bind (wpAny_newList ?_ hz)
  have hoL : (h'.push (seqObj "list" vs.toArray 0)).get? h'.objs.size = some (seqObj "list" vs.toArray 0) := Heap.get?_push_size _ rfl
  have keep : ∀ b o, s.heap.get? b = some o → b ≠ h'.objs.size ∧ (h'.push (seqObj "list" vs.toArray 0)).get? b = some o := fun b o q => ⟨Nat.ne_of_lt (Heap.lt_size (hk b o q)), Heap.get?_push_of_some _ (hk b o q)⟩
  show wpAny _ _ _ _ _ { s with heap := h'.push (seqObj "list" vs.toArray 0), toks := tk }
  refine wpAny_bind (wpAny_holding (wpAny_call_entry_kw slot_list_sort ⟨_, hoL, rfl⟩ entry_list_sort (SrtR.list_sort_ordR (b := true) (s := { s with heap := h'.push (seqObj "list" vs.toArray 0), toks := tk }) O hoL hz (fun h2 => hS h2 _ tk _ hoL keep) fun out hs hb => ⟨_, rfl, ?_⟩) (args_list_sort_rev _ _)))
  obtain ⟨ep, he'⟩ := PyProof.Rows.sortedHeap_at (vs := vs) (out := out.toArray.reverse) hoL
  refine wpAny_pure ⟨_, rfl, h out h' _ tk ep hs hb hk (fun b o e => ?_) he'⟩
  have k2 := Heap.get?_push_of_some (seqObj "list" vs.toArray 0) e
  rw [PyProof.Rows.sortedHeap_old (Nat.ne_of_lt (Heap.lt_size e)) (Heap.lt_size k2)]
  exact k2
end
/-- sorted(x, reverse=True) by values -/
theorem cd_sortedR (hX : XOk M N sc sc0 X) : CallRK X (.builtin "sorted") [Str.ofString "reverse"] (fun xs zs H Q => zs = [.bl true] ∧ rC M .sortedR xs H Q) := by
  intro pins s σ H xs zs us ws Q I r rz h
  obtain ⟨rfl, F, ds, d, sm, el, e, k⟩ := h
  obtain ⟨w1, rfl, e1⟩ := vals1 rz
  obtain rfl : w1 = Value.bool true := e1
  rcases ds with _ | ⟨a, _ | ⟨b, r'⟩⟩
  · cases e
  · have e : (a.isInts.map fun l => D.lst ((sortA l).reverse.map .int)) = some d := e
    cases q : a.isInts with
    | none => rw [q] at e; cases e
    | some ns =>
      rw [q] at e
      cases e
      obtain ⟨v, rfl, ev⟩ := el.one
      obtain ⟨u, rfl, rx⟩ := vals1 r
      obtain ⟨a, T, its, o, n, rfl, hT, ho, hc, hd, hi, hz, hL, hU⟩ := sqI_at I (by rw [hX.K]; exact sqI_of sm ev q) rx
      refine sorted_colR SrtO.swo_int hz (fun Q1 h1 E1 => col_seq hT ho hc hd hz Q1 h1 E1) (fun h2 h₁ tk a _ _ => SrtO.ints_sortable hi h2) fun out h1 h2 tk ep hs hb k1 k2 g => ?_
      obtain ⟨ns', p1, p2, p3⟩ := SrtR.ints_outR (b := true) hi hs hb
      have I1 : Inv X pins σ H { s with heap := h1, toks := tk } := I.kept k1
      have hf := I1.hok.fresh (Nat.le_refl h1.objs.size)
      have hlen : (ns'.map V.int).length ≤ sizeLine := by
        rw [List.length_map, p2.length_eq, ← hi.length]
        exact hz
      have p3 : ns'.Pairwise (· ≥ ·) := p3
      rw [sortR_eq p2 p3] at p1 hlen
      obtain ⟨x, en⟩ := new_lst (M := M) (vs := (sortA ns).reverse.map V.int) (ds := (sortA ns).reverse.map D.int) sm hf (.ofInts _)
      have g' : h2.get? h1.objs.size = some (seqObj "list" (out.toArray.reverse.toList).toArray ep) := by rw [Array.toArray_toList]; exact g
      exact ⟨.ref h1.objs.size, upd H h1.objs.size (.lst ((sortA ns).reverse.map V.int)), I1.laid (t' := tk) k2 (Nat.le_refl _) ⟨hlen, out.toArray.reverse.toList, ep, vals_of_ints p1, g'⟩, rfl, k _ _ _ x en⟩
  · cases a <;> cases e
theorem sn_sortR {e : Expr} {a : IE} {p kp p2 pos : Pos} {j : Nat} (h : SndE M Φ N sc sc0 e a) (hg : sc.names.lookup ("sorted" : Str) = some .globalImplicit := by rfl) (hm : M.mg "sorted" = none)
    (hs : ∀ env, starEach [e] env = [(false, eval e env)] := by intro _; rfl) :
    SndE M Φ N sc sc0 (.Call (.Name "sorted" p) [e] [⟨some "reverse", .Constant (.bool true) j p2, kp⟩] pos) (.bi .sortedR (.cons a .nil)) := fun X hX => by
  have z := pe_callBK (p := p) (pos := pos) (es := []) (kws := [⟨some "reverse", .Constant (.bool true) j p2, kp⟩]) (cd_sortedR hX) (glob_of hX hg) (mg_of hX hm) (by rfl) (sa_cons h sa_nil (fun env => by rw [hs]; rfl) X hX) (pk_cons pe_bl pk_nil) (he := by rw [hs]; rfl) (hpl := by rw [hs]; rfl)
  refine PE.imp z fun σ H Q h => ?_
  have := arg_reads h
  obtain ⟨F0, H0, F, env, ds, e1, so, k⟩ := this
  exact ⟨F0, H0, F, env, ds, e1, so, fun vs F1 H1 x1 ev => ⟨rfl, k vs F1 H1 x1 ev⟩⟩

/-! ### min(i, j, k) -/
theorem cd_min3 (hX : XOk M N sc sc0 X) : CallR X (.builtin "min") (rC M .min3) := CallR.imp (call_min3Nu hX.calm) fun xs H Q h => by
  obtain ⟨F, ds, d, s, el, e, k⟩ := h
  rcases ds with _ | ⟨a, _ | ⟨b, _ | ⟨c, _ | ⟨c2, r⟩⟩⟩⟩
  · cases e
  · cases a <;> cases e
  · cases a <;> first | cases e | (cases b <;> cases e)
  · cases a with
    | int i =>
      cases b with
      | int j =>
        cases c with
        | int l =>
          cases el with
          | cons h1 t =>
            cases t with
            | cons h2 t =>
              cases t with
              | cons h3 t =>
                cases t
                cases h1
                cases h2
                cases h3
                cases (Option.some.inj e)
                refine ⟨.int i, .int j, .int l, _, rfl, ?_, k _ F H (.refl s) .int⟩
                show nuMin3 (.int i) (.int j) (.int l) = _
                unfold nuMin3 nuMin2 nuLt nuCB
                by_cases q1 : j < i
                · by_cases q2 : l < j
                  · simp [q1, q2]
                  · simp [q1, q2]
                · by_cases q2 : l < i
                  · simp [q1, q2]
                  · simp [q1, q2]
        | _ => cases e
      | _ => cases e <;> cases c <;> rename_i e <;> cases e
    | _ => cases b <;> cases c <;> cases e
  · cases a <;> first | cases e | (cases b <;> first | cases e | (cases c <;> first | cases e | (cases c2 <;> cases e)))
end FB

set_option Elab.async false
set_option linter.all false
set_option maxRecDepth 100000
set_option maxHeartbeats 1000000
/-! FBm3: t[::-1], isinstance, index. -/
namespace FB
open PySem PySem.Spec PyProof.Rows L2
variable {M : Md} {Φ : Fn → List D → Option D} {N : List Str} {sc sc0 : Scope} {X : Cx}

/-! ### t[::-1] -/
section
variable {prog : Program} {w : World} {A : Around} {E : Value → Shared → Prop} {s : Shared}
theorem adjust_rev (n : Nat) : Builtin.Slice.sliceAdjust none none (-1) (n : Int) = ((n : Int) - 1, -1) := by
  unfold Builtin.Slice.sliceAdjust
  simp
theorem places_rev (n : Nat) : Builtin.Slice.slicePlaces ((n : Int) - 1) (-1) (-1) = n := by
  unfold Builtin.Slice.slicePlaces
  simp
  split <;> omega
theorem pick_revT (xs : Array Value) : ((List.range xs.size).filterMap fun (k : Nat) => xs[(((xs.size : Int) - 1) + (k : Int) * (-1)).toNat]?).toArray = xs.toList.reverse.toArray := by
  have e : (fun (k : Nat) => xs[(((xs.size : Int) - 1) + (k : Int) * (-1)).toNat]?) = ((fun k => xs[k]?) ∘ fun k => xs.size - 1 - k) := by
    funext k
    show _ = xs[xs.size - 1 - k]?
    have : (((xs.size : Int) - 1) + (k : Int) * (-1)).toNat = xs.size - 1 - k := by omega
    rw [this]
  rw [e, ← List.filterMap_map, PySem.W.krv_range, List.filterMap_reverse, PySem.W.krv_all]
theorem sliceApplied_rev {sl : Addr} {vs : Value} {n : Nat} {Q : Int × Int × Nat → Shared → Prop} (hs : s.heap.IsSliceOf sl .none .none vs) (ps : IsPart vs (some (-1)))
    (h : Q ((n : Int) - 1, -1, n) s) : wpAny (model prog w) A (Builtin.Slice.sliceApplied (.ref sl) (pure (n : Int))) Q E s := by
  obtain ⟨os, hos, hcs, hds⟩ := id hs
  unfold Builtin.Slice.sliceApplied Builtin.Slice.sliceFields
  refine wpAny_bind (wpAny_bind (wpAny_field hos hds (x := .none) rfl (wpAny_bind (wpAny_field hos hds (x := .none) rfl (wpAny_bind (wpAny_field hos hds (x := vs) rfl (wpAny_pure ?_)))))))
  refine wpAny_bind (HT.slicePart_ ps ?_)
  show wpAny _ _ (if ((-1 : Int) == 0) = true then _ else _) _ _ s
  rw [if_neg (by decide)]
  refine wpAny_bind (HT.slicePart_ .none (wpAny_bind (HT.slicePart_ .none (wpAny_bind (wpAny_pure ?_)))))
  show wpAny _ _ (match Builtin.Slice.sliceAdjust none none (-1) (n : Int) with | (lo, hi) => pure (lo, (-1 : Int), Builtin.Slice.slicePlaces lo hi (-1))) _ _ s
  rw [adjust_rev n]
  show wpAny _ _ (pure ((n : Int) - 1, (-1 : Int), Builtin.Slice.slicePlaces ((n : Int) - 1) (-1) (-1))) _ _ s
  rw [places_rev]
  exact wpAny_pure h
theorem getItem_revT {t sl : Addr} {items : Array Value} {vs : Value} {Q : Value → Shared → Prop} (ht : IsTup s.heap t items) (hs : s.heap.IsSliceOf sl .none .none vs) (ps : IsPart vs (some (-1)))
    (h : Q (.ref s.heap.objs.size) { s with heap := s.heap.push { cls := .type "tuple", data := .seq items.toList.reverse.toArray } }) (hsz : items.size ≤ sizeLine) : wpAny (model prog w) A (getItem (.ref t) (.ref sl)) Q E s := by
  have htake : sizeOk (.seq items.toList.reverse.toArray) := by
    show items.toList.reverse.toArray.size ≤ sizeLine
    rw [List.size_toArray, List.length_reverse, Array.length_toList]
    exact hsz
  obtain ⟨os, hos, hcs, hds⟩ := id hs
  have hTs : s.TypeIs (.ref sl) "slice" := ⟨os, hos, hcs⟩
  unfold getItem
  try with_reducible refine wpAny_holding ?_
  first | refine wpAny_bind (wpAny_pure ?_) | skip
  refine wpAny_bind (wpAny_sequenceKey ht.typeIs (by decide) ?_)
  refine wpAny_bind (wpAny_callSpecial?_slot (name := Str.ofString "__getitem__") ht.typeIs PyProof.Rows.slot_tuple_getitem
    (wpAny_call_entry PyProof.Rows.slot_tuple_getitem ht.typeIs entry_tuple_getitem ?_ (args_tuple_getitem _ _)))
  show wpAny _ _ (Builtin.Tuple.tupleItemsOf (.ref t) >>= _) _ _ s
  refine wpAny_bind (tupleItemsOf_ ht ?_)
  refine wpAny_bind (wpAny_typeOf hTs ?_)
  rw [if_pos (by decide)]
  refine wpAny_bind (sliceApplied_rev hs ps ?_)
  have hno : ¬ ((((items.size : Int) - 1) == 0 && (-1 : Int) == 1 && items.size == items.size) = true) := by
    intro q
    rw [Bool.and_eq_true, Bool.and_eq_true] at q
    exact absurd q.1.2 (by decide)
  show wpAny _ _ (if (((items.size : Int) - 1) == 0 && (-1 : Int) == 1 && items.size == items.size) = true then _ else _) _ _ s
  rw [if_neg hno, pick_revT]
  first
    | exact wpAny_bind (m := Builtin.Tuple.tupleExact _) (wpAny_newObj_type (wpAny_pure ⟨_, rfl, wpAny_pure h⟩) htake)
    | exact wpAny_bind (m := Builtin.Tuple.tupleExact _) (wpAny_newObj_type (wpAny_bind (wpAny_pure (wpAny_pure ⟨_, rfl, wpAny_pure h⟩))) htake)
    | exact wpAny_bind (wpAny_bind (m := Builtin.Tuple.tupleExact _) (wpAny_newObj_type (wpAny_pure (wpAny_pure ⟨_, rfl, wpAny_pure h⟩)) htake))
    | exact wpAny_bind (wpAny_bind (m := Builtin.Tuple.tupleExact _) (wpAny_newObj_type (wpAny_pure ⟨_, rfl, wpAny_pure h⟩) htake))
end
theorem vals_rev {vs : List V} {its : List Value} (r : Vals vs its) : Vals vs.reverse its.reverse := by
  induction r with
  | nil => exact .nil
  | cons h t ih =>
    rw [List.reverse_cons, List.reverse_cons]
    exact ih.append (.cons h .nil)
/-- t[::-1] -/
def tRevT (K : PySem.W.Frag) (te : TE) : TE := fun σ H Q => te σ H fun x H1 => ∃ a xs, x = .ref a ∧ SqT K H1 a xs ∧ ∀ p, H1 p = none → Q (.ref p) (upd H1 p (.tup xs.reverse))
theorem pe_revT {e : Expr} {te : TE} {k : Nat} {p1 p2 p3 pos : Pos} (he : PE X e te) : PE X (.Subscript e (.Slice none none (some (.UnaryOp .USub (.Constant (.int 1) k p1) p2)) p3) pos) (tRevT X.K te) := by
  refine ⟨fun pins s σ H Q I h => ?_⟩
  refine Subscript_ (thn (he.run pins s σ H _ I h) fun v s1 ⟨x, H1, I1, r1, q1⟩ => ?_)
  obtain ⟨a, xs, ex, hx, q⟩ := q1
  subst ex
  cases r1
  have hst : PO X (some (.UnaryOp .USub (.Constant (.int 1) k p1) p2)) (tPart (tUn (rU fun i => .int (-i)) (tC (.int 1)))) := po_some (pe_un un_neg pe_int)
  refine wpAny_Slice (thn (po_none.run pins s1 σ H1 (fun o H2 => o = none ∧ H2 = H1) I1 ⟨rfl, rfl⟩) fun vl s2 ⟨l, H2, I2, pl, el, e2⟩ => ?_)
  subst el e2
  refine thn (po_none.run pins s2 σ H2 (fun o H3 => o = none ∧ H3 = H2) I2 ⟨rfl, rfl⟩) fun vu s3 ⟨u, H3, I3, pu, eu, e3⟩ => ?_
  subst eu e3
  refine thn (hst.run pins s3 σ H3 (fun o H4 => o = some (-1) ∧ H4 = H3) I3 ⟨1, rfl, -1, rfl, rfl, rfl⟩) fun vs s4 ⟨o, H4, I4, ps, eo, e4⟩ => ?_
  subst eo e4
  have I5 : Inv X pins σ H4 { s4 with heap := s4.heap.push { cls := .type "slice", data := .fields #[vl, vu, vs] } } := I4.kept (t' := s4.toks) fun b ob q => Heap.get?_push_of_some _ q
  obtain ⟨its, r, ht, hz⟩ := I5.tuple hx
  have hlen := r.length
  cases pl
  cases pu
  show wpAny (model X.prog X.w) X.A (subscriptTail e (.Slice none none (some (.UnaryOp .USub (.Constant (.int 1) k p1) p2)) p3) (.ref a) (.ref s4.heap.objs.size)) (EP X pins σ Q) X.xe { s4 with heap := s4.heap.push { cls := .type "slice", data := .fields #[.none, .none, vs] } }
  refine tail_any (ops := [.ref a, .ref s4.heap.objs.size]) ht.typeIs (PyProof.Rows.slot_tuple_getitem.lookup) ?_ (by with_unfolding_all rfl)
  refine getItem_revT ht (Heap.IsSliceOf.new _ .none .none vs) ps ?_ (by rw [List.size_toArray]; omega)
  exact ⟨.ref _, _, I5.laid (t' := s4.toks) (o := .tup xs.reverse) (fun b ob q => Heap.get?_push_of_some _ q) (Nat.le_refl _) ⟨by rw [List.length_reverse]; exact hz, _, vals_rev r, by rw [List.toList_toArray]; exact IsTup.new _ _⟩, rfl, q _ (I5.hok.fresh (Nat.le_refl _))⟩
theorem sn_rev {e : Expr} {a : IE} {k : Nat} {p1 p2 p3 pos : Pos} (h : SndE M Φ N sc sc0 e a) : SndE M Φ N sc sc0 (.Subscript e (.Slice none none (some (.UnaryOp .USub (.Constant (.int 1) k p1) p2)) p3) pos) (.bi .rev (.cons a .nil)) := fun X hX =>
  PE.imp (pe_revT (h X hX)) fun σ H Q h => by
    obtain ⟨F0, H0, F, env, d, e, so, k⟩ := h
    obtain ⟨ds, e1, e2⟩ := ev_bi e
    obtain ⟨x, ds', h1, h2, e3⟩ := ev_cons e1
    have e4 := ev_nil h2
    subst e4
    injection e3 with e3
    subst e3
    refine ⟨F0, H0, F, env, x, h1, so, fun v F1 H1 x1 ev => ?_⟩
    cases x with
    | tup l =>
      cases (Option.some.inj e2)
      obtain ⟨p, vs, rfl, fp, sp, r⟩ := ev.sqT x1.s
      rw [hX.K]
      refine ⟨p, vs, rfl, sp, fun q hq => ?_⟩
      obtain ⟨x2, en⟩ := new_tup (M := M) x1.s hq r.rev
      exact k _ _ _ (x1.trans x2) en
    | _ => cases e2

/-! ### t.index(x), tuples of ints -/
def rIndexT (K : PySem.W.Frag) : V → List V → Hp → VK → Prop := fun x xs H Q => ∃ (a : Addr) (y : V) (d : PyData) (ds : List PyData) (j : Nat) (z : PyData), x = V.ref a ∧ xs = [y] ∧ Dp K H (V.ref a) (.tuple ds) ∧ Dp K H y d ∧
  SeqAt.shaped (.tuple ds) = true ∧ SeqAt.shaped d = true ∧ ds[j]? = some z ∧ PyData.eqv z d = true ∧ (∀ (m : Nat) (z' : PyData), m < j → ds[m]? = some z' → PyData.eqv z' d = false) ∧ Q (.int (j : Nat)) H
theorem mt_indexT (hu : X.A.units + 65 < cLine) : MtR X "tuple.index" (rIndexT X.K) := by
  intro pins s σ H x xs v us Q I rx rxs h
  obtain ⟨a, y, d, ds, j, z, rfl, rfl, hl, hy, sl, sd, hz, hzj, hno, q⟩ := h
  cases rx
  cases rxs with
  | cons ry rt =>
    rename_i uy ut
    cases rt
    obtain ⟨bs, r1⟩ := Dp.reads I d y uy hy ry
    have hxs : PyData.canLayAll0 ds = true := SeqAt.canLay_of_shaped sl
    have hroom : X.A.units + 1 + min (PyData.depthAll ds) d.depth < cLine := room_in_shaped sd hu
    cases hl with
    | tup hs ha =>
      obtain ⟨its, rv, ⟨⟨cls, dd, data, sls⟩, ho, hc, n, hdt⟩, hlen⟩ := I.tuple hs
      simp only at hc hdt
      subst hc hdt
      obtain ⟨as, h4⟩ := Dp.readsAll I ds _ its ha rv
      have hn : its.length = ds.length := SeqAt.ReadsAll.length ds its as h4
      have hmap : its.map (SeqAt.readOf s.heap) = ds := SeqAt.readsAll_map ds its as hxs h4
      have hvl := rv.length
      have hsl := sizeLine_eq
      obtain ⟨hjd, _⟩ := List.getElem?_eq_some_iff.mp hz
      have hjl : j < its.length := by omega
      have hj : j < its.toArray.size := by simpa using hjl
      have at_ : ∀ (m : Nat) (hm : m < its.toArray.size) (z' : PyData), ds[m]? = some z' → SeqAt.readOf s.heap its.toArray[m] = z' := by
        intro m hm z' hz'
        have hml : m < its.length := by simpa using hm
        rw [← hmap, List.getElem?_map, List.getElem?_eq_getElem hml] at hz'
        have e1 : SeqAt.readOf s.heap its[m] = z' := Option.some.inj (show some (SeqAt.readOf s.heap its[m]) = some z' from hz')
        simpa using e1
      refine call_meets PySem.F.slot_tuple_index ⟨_, ho, rfl⟩ PySem.F.entry_tuple_index (PySem.F.args_tuple_index_2 _ _)
        (TI.tuple_indexAt a its.toArray n dd sls uy (fun u => PyData.eqv (SeqAt.readOf s.heap u) d) j hj ?_ ?_) ⟨ho, SeqAt.items_eqAt (vs := its.toArray) (show ReadsAll s.heap its.toArray.toList ds as from h4) r1 hxs (SeqAt.canLay_of_shaped sd) hroom, ?_⟩
      · show PyData.eqv (SeqAt.readOf s.heap its.toArray[j]) d = true
        rw [at_ j hj z hz]
        exact hzj
      · intro m hm hmj
        have hmd : m < ds.length := by omega
        have hz' : ds[m]? = some ds[m] := List.getElem?_eq_getElem hmd
        show PyData.eqv (SeqAt.readOf s.heap its.toArray[m]) d = false
        rw [at_ m hm _ hz']
        exact hno m _ hmj hz'
      · exact ⟨.int (j : Nat), H, I.tok _, ⟨_, rfl⟩, q⟩
theorem tups_eq : ∀ {l : List D} {ls : List (List Int)}, tups? l = some ls → l = ls.map fun k => D.tup (k.map D.int)
  | [], ls, h => by
    have e : ls = [] := (Option.some.inj h).symm
    rw [e]; rfl
  | .tup d :: r, ls, h => by
    have h1 : (match ints? d, tups? r with
      | some a, some b => some (a :: b)
      | _, _ => none) = some ls := h
    cases q1 : ints? d with
    | none => rw [q1] at h1; cases h1
    | some a =>
      cases q2 : tups? r with
      | none => rw [q1, q2] at h1; cases h1
      | some b =>
        rw [q1, q2] at h1
        have e : ls = a :: b := (Option.some.inj h1).symm
        rw [e, ints_eq q1, tups_eq q2]; rfl
  | .non :: _, _, h => nomatch (show (none : Option (List (List Int))) = some _ from h)
  | .int _ :: _, _, h => nomatch (show (none : Option (List (List Int))) = some _ from h)
  | .bl _ :: _, _, h => nomatch (show (none : Option (List (List Int))) = some _ from h)
  | .str _ :: _, _, h => nomatch (show (none : Option (List (List Int))) = some _ from h)
  | .ktup :: _, _, h => nomatch (show (none : Option (List (List Int))) = some _ from h)
  | .ptup _ :: _, _, h => nomatch (show (none : Option (List (List Int))) = some _ from h)
  | .lst _ :: _, _, h => nomatch (show (none : Option (List (List Int))) = some _ from h)
  | .ins _ _ :: _, _, h => nomatch (show (none : Option (List (List Int))) = some _ from h)
abbrev tpD (k : List Int) : PyData := .tuple (k.map PyData.int)
theorem dp_tups {K : PySem.W.Frag} {CA : Nat → Addr} {F H : Hp} (s : Same F H) : ∀ {ls : List (List Int)} {vs : List V}, EncL K CA F vs (ls.map fun k => D.tup (k.map D.int)) → DpAll K H vs (ls.map tpD)
  | [], _, .nil => .nil
  | k :: r, _, .cons (.tup h e) t => by
    rw [e.ints] at h
    exact .cons (.tup (SqT.of (s _ _ h)) (dp_ints k)) (dp_tups s t)
theorem lay_tups : ∀ ls : List (List Int), PyData.canLayAll0 (ls.map tpD) = true
  | [] => by simp [PyData.canLayAll0]
  | k :: r => by
    rw [List.map_cons]
    simp only [PyData.canLayAll0, PyData.canLay0, PyProof.Rows.canLayAll_ints, lay_tups r, Bool.and_self]
theorem depth_tups : ∀ ls : List (List Int), PyData.depthAll (ls.map tpD) ≤ 2
  | [] => by simp [PyData.depthAll]
  | k :: r => by
    rw [List.map_cons]
    simp only [PyData.depthAll, PyData.depth, PyProof.Rows.depthAll_ints]
    have := depth_tups r
    omega
theorem shaped_tups (ls : List (List Int)) : SeqAt.shaped (.tuple (ls.map tpD)) = true := by
  unfold SeqAt.shaped
  rw [Bool.and_eq_true]
  refine ⟨?_, decide_eq_true ?_⟩
  · simp only [PyData.canLay0, lay_tups]
  · simp only [PyData.depth]
    have := depth_tups ls
    omega
theorem findL_at {k : List Int} : ∀ {ls : List (List Int)} {i n : Nat}, findL k ls i = some n → ∃ j, n = i + j ∧ ls[j]? = some k ∧ ∀ m z, m < j → ls[m]? = some z → z ≠ k
  | [], _, _, h => nomatch h
  | l :: r, i, n, h => by
    unfold findL at h
    by_cases q : l = k
    · rw [if_pos q] at h
      exact ⟨0, (Option.some.inj h).symm, by rw [q]; rfl, fun m z hm => absurd hm (Nat.not_lt_zero _)⟩
    · rw [if_neg q] at h
      obtain ⟨j, h1, h2, h3⟩ := findL_at h
      refine ⟨j + 1, by omega, by rw [List.getElem?_cons_succ]; exact h2, fun m z hm hz => ?_⟩
      cases m with
      | zero =>
        have : l = z := Option.some.inj hz
        subst this
        exact q
      | succ m => exact h3 m z (by omega) (by rw [List.getElem?_cons_succ] at hz; exact hz)
theorem XOk.units65 (hX : XOk M N sc sc0 X) : X.A.units + 65 < cLine := by have := hX.room.un; omega
/-- o.m(e, ..), o a thing that is known to the object -/
theorem pe_bmF {o : Expr} {e : Expr} {es : List Expr} {name : Str} {T id : String} {to : TE} {t : TA} {r : V → List V → Hp → VK → Prop} {apos cpos : Pos} (pa : PlainAttrs T) (slot : Slot T name id) (hty : typeOf (.builtin id) = pure (.type "method_descriptor")) (hm : MtR X id r) (ho : PE X o to) (ha : PA X (e :: es) t)
    (hfew : ((backTo cpos (starEach (e :: es) X.env)).all (fun x => !x.1) && (backToKw cpos (keywordEach [] X.env)).all (fun x => x.1.isSome)
      && decide ((e :: es).length + ([] : List Keyword).length + (if ([] : List Keyword).isEmpty then 0 else 1) < 30)) = true)
    (hline : (apos.endLine == cpos.line) = true) (hs : starEach (e :: es) X.env = (false, eval e X.env) :: starEach es X.env) (hplain : (backTo cpos (starEach es X.env)).any (·.1) = false) (hbase : attributeBase o name X.env (eval o X.env) = eval o X.env) :
    PE X (.Call (.Attribute o name apos) (e :: es) [] cpos) (fun σ H Q => to σ H fun x H1 => (∃ a ob u, x = .ref a ∧ H1 a = some (.frz ob u) ∧ ob.cls = .type T ∧ ob.dict = none) ∧ t σ H1 fun xs H2 => r x xs H2 Q) := by
  refine ⟨fun pins s σ H Q I h => ?_⟩
  refine wpAny_Call_method_late hbase hfew hline rfl (thn (ho.run pins s σ H _ I h) fun v s1 ⟨x, H1, I1, r1, ty, q1⟩ => ?_)
  obtain ⟨a, ob, u, rfl, hf, hc, hd⟩ := ty
  cases r1
  have g : s1.heap.get? a = some ob := (show ObjOk X.prog X.w H1 s1.heap a (.frz ob u) from I1.hok a _ hf).1
  refine ⟨T, id, pa, slot, hty, ⟨ob, g, hc⟩, fun b q => ?_, ?_⟩
  · cases q
    exact ⟨ob, g, hd⟩
  have hA := ha.run cpos pins s1 σ H1 _ I1 q1
  rw [hs] at hA ⊢
  refine Calls.callWith_builtin (by show (false || (backTo cpos (starEach es X.env)).any (·.1)) = false; rw [hplain] <;> rfl) (Calls.evalArgs_plain ?_)
  exact thn hA fun us s2 ⟨vs, H2, I2, r2, q2⟩ => hm pins s2 σ H2 (.ref a) vs _ us Q I2 rfl r2 q2
/-- tuple(l), l a list: a tuple that is known to the object -/
theorem call_ptup : CallR X (.type "tuple") (fun xs H Q => ∃ p ys, xs = [.ref p] ∧ SqL X.K H p ys ∧ ∀ l o, H l = none → o.cls = .type "tuple" → o.dict = none → Q (.ref l) (upd H l (.frz o (.tup ys)))) := by
  intro pins s σ H xs us Q I r h
  obtain ⟨p, ys, rfl, hq, q⟩ := h
  obtain ⟨u, rfl, rx⟩ := vals1 r
  cases rx
  obtain ⟨its, r', pl, hz⟩ := I.list hq
  have hlen := r'.length
  refine call_tuple_list pl.isList (fun h' kp => ?_) (by simp only [List.size_toArray] <;> omega)
  have I1 : Inv X pins σ H { s with heap := h' } := I.kept (t' := s.toks) kp
  have I2 : Inv X pins σ (upd H h'.objs.size (.frz { cls := .type "tuple", data := .seq its.toArray } (.tup ys))) { s with heap := h'.push { cls := .type "tuple", data := .seq its.toArray } } :=
    I1.laid (t' := s.toks) (fun b o e => Heap.get?_push_of_some _ e) (Nat.le_refl _) (show ObjOk X.prog X.w _ _ _ (.frz _ (.tup ys)) from ⟨Heap.get?_push_size _ rfl, hz, its, r', IsTup.new _ _⟩)
  exact ⟨.ref h'.objs.size, _, I2, rfl, q _ _ (I1.hok.fresh (Nat.le_refl _)) rfl rfl⟩
/-- the same, what is known of it kept -/
theorem cd_ptupOf (hX : XOk M N sc sc0 X) : CallR X (.type "tuple") (rC M .ptupOf) := CallR.imp call_ptup fun xs H Q h => by
  obtain ⟨F, ds, d, s, el, e, k⟩ := h
  rw [hX.K]
  rcases ds with _ | ⟨a, _ | ⟨b, r⟩⟩
  · cases e
  · obtain ⟨v, rfl, ev⟩ := el.one
    cases a with
    | lst l =>
      cases (Option.some.inj e)
      obtain ⟨p, vs, rfl, fp, sp, r⟩ := ev.sqL s
      refine ⟨p, vs, rfl, SqL.of sp, fun q o hq hc hd => ?_⟩
      have x := Ext.new (o := .frz o (.tup vs)) s hq
      exact k _ _ _ x (.ptup upd_same ⟨hc, hd⟩ (r.mono x.f))
    | _ => cases e
  · cases a <;> cases e
theorem sn_index {o e : Expr} {a b : IE} {ap cp : Pos} (ho : SndE M Φ N sc sc0 o a) (he : SndE M Φ N sc sc0 e b) (hs : ∀ env, starEach [e] env = (false, eval e env) :: starEach [] env := by intro _; rfl)
    (hl : (ap.endLine == cp.line) = true := by rfl) (hat : ∀ env, attributeBase o "index" env (eval o env) = eval o env := by intro _; rfl) : SndE M Φ N sc sc0 (.Call (.Attribute o "index" ap) [e] [] cp) (.bi .indexT (.cons a (.cons b .nil))) := fun X hX => by
  have ha : PA X [e] (tCons (tE M Φ b) tNil) := pa_cons (he X hX) pa_nil (hs _)
  have z := pe_bmF (cpos := cp) (apos := ap) PySem.F.plainAttrs_tuple PySem.F.slot_tuple_index PySem.F.type_tuple_index (mt_indexT (XOk.units65 hX)) (ho X hX) ha (by rw [hs]; rfl) hl (hs _) rfl (hat _)
  refine ⟨fun pins s σ H Q I h => z.run pins s σ H Q I ?_⟩
  obtain ⟨F0, H0, F, env, d, e, so, k⟩ := h
  obtain ⟨ds, e1, e2⟩ := ev_bi e
  obtain ⟨x, y, h1, h2, e3⟩ := ev_cons2 e1
  injection e3 with e3
  subst e3
  refine ⟨F0, H0, F, env, x, h1, so, fun v F1 H1 x1 ev => ?_⟩
  cases x with
  | ptup l =>
    cases y with
    | tup ky =>
      have e2 : ((ints? ky).bind fun k => (tups? l).bind fun l => (findL k l 0).map fun (n : Nat) => D.int n) = some d := e2
      obtain ⟨k0, q1, e2⟩ := FB.opt_bind e2
      obtain ⟨ls, q2, e2⟩ := FB.opt_bind e2
      obtain ⟨n, q3, e4⟩ := Option.map_eq_some_iff.mp e2
      subst e4
      obtain ⟨j, ej, hj, hno⟩ := findL_at q3
      have e5 : n = j := by omega
      subst e5
      cases ev with
      | ptup ha hd r =>
        refine ⟨⟨_, _, _, rfl, x1.s _ _ ha, hd.1, hd.2⟩, F0, H0, F1, env, _, h2, so.step x1, fun u F2 H2 x2 eu => ?_⟩
        obtain ⟨q, ws, rfl, fq, sq, r2⟩ := eu.sqT x2.s
        rw [ints_eq q1] at r2
        rw [r2.ints] at sq
        have r' := r.mono x2.f
        rw [tups_eq q2] at r'
        rw [hX.K]
        refine ⟨_, .ref q, tpD k0, ls.map tpD, n, tpD k0, rfl, rfl, .tup (.inl (.inr ⟨_, x2.s _ _ (x2.f _ _ ha)⟩)) (dp_tups x2.s r'), .tup sq (dp_ints k0), shaped_tups ls, shaped_ints k0, by rw [List.getElem?_map, hj]; rfl, by rw [eqv_ints]; simp, fun m z' hm hz => ?_, k _ F2 H2 (x1.trans x2) .int⟩
        rw [List.getElem?_map] at hz
        cases hq : ls[m]? with
        | none => rw [hq] at hz; cases hz
        | some z =>
          rw [hq] at hz
          cases hz
          rw [eqv_ints]
          exact decide_eq_false (hno m z hm hq)
    | _ => cases e2
  | _ => cases y <;> cases e2

/-! ### isinstance -/
structure IsiC (M : Md) (c : Nat) : Prop where
  cl : Cls M.K (M.CA c)
  ha : PySem.W.findIn M.K (.ref (M.CA c)) "__class__" = some (some (.builtin "object.__class__"))
  hn : PySem.W.specialIn M.K (.builtin "object.__class__") "__get__" = some (some (.builtin "getset_descriptor.__get__"))
  tk : PySem.W.takesIn M.K (.builtin "object.__class__") = some true
  hm : PySem.W.mroIn M.K (M.CA c) (.type "object") = some true
  int : PySem.W.kitOne M.K (.type "int") (.ref (M.CA c)) = some false
theorem kit_self {K : PySem.W.Frag} (t : Value) (h : (t == t) = true) : PySem.W.kitOne K t t = some true := by
  unfold PySem.W.kitOne
  rw [if_pos h]
/-- isinstance(e, T) by values -/
theorem sn_isi {e t : Expr} {a : IE} {bi : Bi} {c : V} {cu : Value} {p pos : Pos} (h : SndE M Φ N sc sc0 e a) (hm : M.mg "isinstance" = none) (ht : ∀ X, XOk M N sc sc0 X → PE X t (tC c)) (hc : ClsV c cu)
    (hb : ∀ (F H : Hp) (x : V) (dx d : D), Same F H → EncM M F x dx → bival bi [dx] = some d → ∃ tx b, TyX M.K H x tx ∧ PySem.W.kitOne M.K tx cu = some b ∧ d = .bl b) (hg : sc.names.lookup ("isinstance" : Str) = some .globalImplicit := by rfl)
    (hs : ∀ env, starEach [e, t] env = (false, eval e env) :: starEach [t] env := by intro _; rfl) (hs2 : ∀ env, starEach [t] env = [(false, eval t env)] := by intro _; rfl) :
    SndE M Φ N sc sc0 (.Call (.Name "isinstance" p) [e, t] [] pos) (.bi bi (.cons a .nil)) := fun X hX => by
  refine PE.imp (pe_callB call_isi (glob_of hX hg) (mg_of hX hm) (by rfl) (pa_cons (h X hX) (pa_cons (ht X hX) pa_nil (by rw [hs2]; rfl)) (hs _)) (he := hs _) (hpl := by rw [hs2]; rfl)) fun σ H Q h => ?_
  obtain ⟨F0, H0, F, env, d, e, so, k⟩ := h
  obtain ⟨ds, e1, e2⟩ := ev_bi e
  obtain ⟨x, ds', h1, h2, e3⟩ := ev_cons e1
  have e4 := ev_nil h2
  subst e4
  injection e3 with e3
  subst e3
  refine ⟨F0, H0, F, env, x, h1, so, fun v F1 H1 x1 ev => ?_⟩
  obtain ⟨tx, b, ty, ko, rfl⟩ := hb F1 H1 v x d x1.s ev e2
  rw [hX.K]
  exact ⟨v, c, tx, cu, b, rfl, hc, ty, ko, k _ F1 H1 x1 .bl⟩
theorem isi_int (F H : Hp) (x : V) (dx d : D) (s : Same F H) (e : EncM M F x dx) (h : bival .isInt [dx] = some d) : ∃ tx b, TyX M.K H x tx ∧ PySem.W.kitOne M.K tx (.type "int") = some b ∧ d = .bl b := by
  cases e with
  | int => cases h; exact ⟨_, true, .base (.int _), kit_ty (by decide +kernel), rfl⟩
  | tup q r => cases h; exact ⟨_, false, .base (.tup (s _ _ q)), kit_ty (by decide +kernel), rfl⟩
  | _ => cases h
theorem isi_bool (F H : Hp) (x : V) (dx d : D) (s : Same F H) (e : EncM M F x dx) (h : bival .isBool [dx] = some d) : ∃ tx b, TyX M.K H x tx ∧ PySem.W.kitOne M.K tx (.type "bool") = some b ∧ d = .bl b := by
  cases e with
  | int => cases h; exact ⟨_, false, .base (.int _), kit_ty (by decide +kernel), rfl⟩
  | _ => cases h
theorem isi_tuple (F H : Hp) (x : V) (dx d : D) (s : Same F H) (e : EncM M F x dx) (h : bival .isTuple [dx] = some d) : ∃ tx b, TyX M.K H x tx ∧ PySem.W.kitOne M.K tx (.type "tuple") = some b ∧ d = .bl b := by
  cases e with
  | int => cases h; exact ⟨_, false, .base (.int _), kit_ty (by decide +kernel), rfl⟩
  | tup q r => cases h; exact ⟨_, true, .base (.tup (s _ _ q)), kit_ty (by decide +kernel), rfl⟩
  | _ => cases h
theorem isi_str (F H : Hp) (x : V) (dx d : D) (s : Same F H) (e : EncM M F x dx) (h : bival .isStr [dx] = some d) : ∃ tx b, TyX M.K H x tx ∧ PySem.W.kitOne M.K tx (.type "str") = some b ∧ d = .bl b := by
  cases e with
  | str => cases h; exact ⟨_, true, .base (.str _), kit_ty (by decide +kernel), rfl⟩
  | _ => cases h
theorem isi_C {c : Nat} (C : IsiC M c) (F H : Hp) (x : V) (dx d : D) (s : Same F H) (e : EncM M F x dx) (h : bival (.isC c) [dx] = some d) : ∃ tx b, TyX M.K H x tx ∧ PySem.W.kitOne M.K tx (.ref (M.CA c)) = some b ∧ d = .bl b := by
  cases e with
  | int => cases h; exact ⟨_, false, .base (.int _), C.int, rfl⟩
  | ins q l r =>
    rename_i c' vs ds
    have h : (if c = c' then some (D.bl true) else none) = some d := h
    by_cases z : c = c'
    · subst z
      rw [if_pos rfl] at h
      cases h
      exact ⟨_, true, .base (.ins (s _ _ q) C.cl C.ha C.hn C.tk C.hm), kit_self _ (by simp), rfl⟩
    · rw [if_neg z] at h; cases h
  | _ => cases h
theorem pe_tyN {T : String} {x : Str} {pos : Pos} (hm : M.mg x = none) (hv : bootBuiltins x = some (.type T) := by first | rfl | decide +kernel) (hg : sc.names.lookup x = some .globalImplicit := by rfl) (hn : x ≠ "__name__" := by decide) (hd : (x == ("__debug__" : Str)) = false := by decide) :
    ∀ X, XOk M N sc sc0 X → PE X (.Name x pos) (tC (.ty T)) := fun X hX => pe_bltn (glob_of hX hg) (mg_of hX hm) hv rfl hn hd
theorem pe_clN {x : Str} {A : Addr} {pos : Pos} (hm : M.mg x = some (.ref A)) (hg : sc.names.lookup x = some .globalImplicit := by rfl) (hd : (x == ("__debug__" : Str)) = false := by decide) :
    ∀ X, XOk M N sc sc0 X → PE X (.Name x pos) (tC (.ref A)) := fun X hX => pe_glob (glob_of hX hg) (mg_of hX hm) rfl hd
/-- isinstance(e, (list, tuple)) -/
theorem sn_isSeq {e : Expr} {a : IE} {kk : Nat} {p p1 p2 p3 pos : Pos} (h : SndE M Φ N sc sc0 e a) (hm : M.mg "isinstance" = none) (hm1 : M.mg "list" = none) (hm2 : M.mg "tuple" = none) (hg : sc.names.lookup ("isinstance" : Str) = some .globalImplicit := by rfl)
    (hg1 : sc.names.lookup ("list" : Str) = some .globalImplicit := by rfl) (hg2 : sc.names.lookup ("tuple" : Str) = some .globalImplicit := by rfl)
    (hs : ∀ t env, starEach [e, t] env = (false, eval e env) :: starEach [t] env := by intro _ _; rfl) :
    SndE M Φ N sc sc0 (.Call (.Name "isinstance" p) [e, .Tuple [.Name "list" p1, .Name "tuple" p2] kk p3] [] pos) (.bi .isSeq (.cons a .nil)) := fun X hX => by
  have pt : PA X [.Name "list" p1, .Name "tuple" p2] (tCons (tC (.ty "list")) (tCons (tC (.ty "tuple")) tNil)) := pa_cons ((pe_tyN (T := "list") hm1 (hg := hg1)) X hX) (pa_cons ((pe_tyN (T := "tuple") hm2 (hg := hg2)) X hX) pa_nil)
  refine PE.imp (pe_callB call_isiT (glob_of hX hg) (mg_of hX hm) (by rfl) (pa_cons (h X hX) (pa_cons (pe_tup pt) pa_nil) (hs _ _)) (he := hs _ _)) fun σ H Q h => ?_
  obtain ⟨F0, H0, F, env, d, e, so, k⟩ := h
  obtain ⟨ds, e1, e2⟩ := ev_bi e
  obtain ⟨x, ds', h1, h2, e3⟩ := ev_cons e1
  have e4 := ev_nil h2
  subst e4
  injection e3 with e3
  subst e3
  refine ⟨F0, H0, F, env, x, h1, so, fun v F1 H1 x1 ev => ?_⟩
  refine ⟨by show 2 ≤ sizeLine; decide, fun q hq => ?_⟩
  have x2 := Ext.own (o := .tup [.ty "list", .ty "tuple"]) x1.s hq
  rw [hX.K]
  have fin : d = .bl true → ∀ t, TyX M.K (upd H1 q (.tup [.ty "list", .ty "tuple"])) v t → PySem.W.kitAny M.K t [.type "list", .type "tuple"] = some true → rIsiT M.K [v, .ref q] (upd H1 q (.tup [.ty "list", .ty "tuple"])) Q := fun e5 t ty ka =>
    ⟨v, q, [.ty "list", .ty "tuple"], t, [.type "list", .type "tuple"], true, rfl, upd_same, .cons (.ty _) (.cons (.ty _) .nil), ty, ka, by subst e5; exact k _ F1 _ (x1.trans x2) .bl⟩
  cases ev with
  | lst q r => exact fin (Option.some.inj e2).symm _ (.base (.lst (x2.h _ _ (x1.s _ _ q)))) (kitAny_cons (b := true) (kit_ty (by decide +kernel)) (fun z => nomatch z) fun _ => rfl)
  | tup q r => exact fin (Option.some.inj e2).symm _ (.base (.tup (x2.h _ _ (x1.s _ _ q)))) (kitAny_cons (b := false) (kit_ty (by decide +kernel)) (fun _ => kitAny_cons (b := true) (kit_ty (by decide +kernel)) (fun z => nomatch z) fun _ => rfl) (fun z => nomatch z))
  | _ => cases e2
end FB

set_option Elab.async false
set_option linter.all false
set_option maxRecDepth 100000
set_option maxHeartbeats 1000000
/-! FBk: dicts whose keys are tuples: read, copied, sorted, written; the one whose key is a tuple of the module's own. -/
namespace FB
open PySem PySem.Spec PyProof.Rows L2
variable {M : Md} {Φ : Fn → List D → Option D} {N : List Str} {sc sc0 : Scope} {X : Cx}

/-! ### the dict of one key, a tuple of the module's own -/
theorem ktup_is {K : PySem.W.Frag} {P : Program} {w : World} {h : Heap} {b : Addr} (k : KTup K b) (X : K.In h) : (tupleKind (mixKind P w)).is h ([] : List Key) b := by
  obtain ⟨o, n, h1, h2, h3⟩ := k
  exact ⟨o, #[], n, X b o h1, h2, h3, .nil⟩
theorem dk_dict {pins : List (Addr × Obj)} {σ : L2.St} {H : Hp} {s : Shared} {a b : Addr} {v : V} (I : Inv X pins σ H s) (ha : H a = some (DkAt X.prog X.w a b v)) (kt : KTup X.K b) :
    (a == sysModules) = false ∧ ∃ u : Value, RelV v u ∧ s.heap.DictOfH (tupleKind (mixKind X.prog X.w)) a [(([] : List Key), b, u)] := by
  obtain ⟨⟨hs, u, o, es, ep, ru, ho, hx, hd, he⟩, _⟩ := (show ObjOk X.prog X.w H s.heap a (DkAt X.prog X.w a b v) from I.hok a _ ha)
  refine ⟨hs, u, ru, o, es, ep, ho, hx, hd, he, fun x hx => ?_, List.nodup_cons.mpr ⟨(fun z => nomatch z), List.nodup_nil⟩⟩
  have e : x = (([] : List Key), b, u) := List.mem_singleton.mp hx
  subst e
  exact ktup_is kt I.kIn
theorem dk_ok {P : Program} {w : World} {H' : Hp} {h' : Heap} {a b : Addr} {v : V} {u : Value} (hs : (a == sysModules) = false) (ru : RelV v u) (d : h'.DictOfH (tupleKind (mixKind P w)) a [(([] : List Key), b, u)]) : ObjOk P w H' h' a (DkAt P w a b v) := by
  obtain ⟨o, es, ep, ho, hx, hd, he, _, _⟩ := d
  refine ⟨⟨hs, u, o, es, ep, ru, ho, hx, hd, he⟩, ⟨o, ho⟩, fun h1 h2 q k => ?_⟩
  obtain ⟨hs, u, o, es, ep, ru, ho, hx, hd, he⟩ := q
  exact ⟨hs, u, o, es, ep, ru, k o ho, hx, hd, he⟩
/-- d[y] -/
def tDkGet (K : PySem.W.Frag) (P : Program) (w : World) (td ty : TE) : TE := fun σ H Q => td σ H fun x H1 => ty σ H1 fun y H2 => ∃ a b c v, x = .ref a ∧ y = .ref c ∧ H2 a = some (DkAt P w a b v) ∧ KTup K b ∧ KTup K c ∧ Q v H2
theorem pe_dkGet {o i : Expr} {pos : Pos} {td ty : TE} (hu : X.A.units + 1 < cLine) (ho : PE X o td) (hi : PE X i ty) (hs : NoSl i) : PE X (.Subscript o i pos) (tDkGet X.K X.prog X.w td ty) := by
  refine ⟨fun pins s σ H Q I h => ?_⟩
  refine subD_of PySem.F.slot_dict_getitem.lookup hs (thn (ho.run pins s σ H _ I h) fun u s1 ⟨x, H1, I1, rx, q1⟩ => thn (hi.run pins s1 σ H1 _ I1 q1) fun iv s2 ⟨y, H2, I2, ry, a, b, c, v, ex, ey, g, kt, kc, q2⟩ => ?_)
  subst ex ey
  obtain rfl : u = Value.ref a := rx
  obtain rfl : iv = Value.ref c := ry
  obtain ⟨hs, w', rw', d⟩ := dk_dict I2 g kt
  exact ⟨d.typeIs, wpAny_getItem_heap (tupleKind_room_in1 hu) (ktup_is kc I2.kIn) d (by first | rfl | simp [atKey]) ⟨v, H2, I2.tok _, rw', q2⟩⟩
/-- d.get(y, z), y an empty tuple -/
def tDkGet2 (P : Program) (w : World) (K : PySem.W.Frag) (td ty tx : TE) : TE := fun σ H Q => td σ H fun x H1 => ∃ a b v, x = .ref a ∧ H1 a = some (DkAt P w a b v) ∧ KTup K b ∧ ty σ H1 fun y H2 => tx σ H2 fun z H3 => ∃ c, y = .ref c ∧ H3 a = some (DkAt P w a b v) ∧ H3 c = some (.tup []) ∧ Q v H3
theorem pe_dkGet2 {o e f : Expr} {apos cpos : Pos} {td ty tx : TE} (hu : X.A.units + 1 < cLine) (ho : PE X o td) (he : PE X e ty) (hf : PE X f tx) (m : M2 X o "get" apos e f cpos) : PE X (.Call (.Attribute o "get" apos) [e, f] [] cpos) (tDkGet2 X.prog X.w X.K td ty tx) := by
  refine ⟨fun pins s σ H Q I h => ?_⟩
  refine wpAny_Call_method m.base m.few m.line PySem.F.plainAttrs_dict PySem.F.slot_dict_get PySem.F.type_dict_get (thn (ho.run pins s σ H _ I h) fun u s1 ⟨x, H1, I1, rx, a, b, v, ex, g, kt, q1⟩ => ?_)
  subst ex
  obtain rfl : u = Value.ref a := rx
  obtain ⟨_, _, _, d1⟩ := dk_dict I1 g kt
  refine ⟨d1.typeIs, fun c q => ?_, ?_⟩
  · cases q
    obtain ⟨ob, _, _, h1, h2, _⟩ := d1
    exact ⟨ob, h1, h2.2.1⟩
  rw [m.trees]
  refine Calls.callWith_builtin rfl (Calls.evalArgs_plain (Calls.spliced_cons (thn (he.run pins s1 σ H1 _ I1 q1) fun iv s2 ⟨y, H2, I2, ry, q2⟩ =>
    Calls.spliced_cons (thn (hf.run pins s2 σ H2 _ I2 q2) fun fv s3 ⟨z, H3, I3, rz, c, ey, g3, gc, q3⟩ => Calls.spliced_nil ?_))))
  subst ey
  obtain rfl : iv = Value.ref c := ry
  obtain ⟨hs, w', rw', d⟩ := dk_dict I3 g3 kt
  exact call_meetsIn PySem.F.slot_dict_get d.typeIs PySem.F.entry_dict_get (PySem.F.args_dict_get_3 _ _ _) (meetsH_dict_get_default (tupleKind (mixKind X.prog X.w)) a c hs fv) ⟨tupleKind_room_in1 hu, [], _, key_of (ks := []) I3.hok gc, d, ⟨v, H3, I3.tok _, by simpa [atKey] using rw', q3⟩⟩

/-! ### reading -/
theorem dk_rd {F0 H0 F H : Hp} {env : En} {σ : L2.St} (so : SOk M F0 H0 F H env σ) {i : Nat} {d : D} (hi : env[i]? = some (.dk d)) : ∃ a b v, σ[i]? = some (some (.ref a)) ∧ H a = some (DkAt M.P M.w a b v) ∧ KTup M.K b ∧ EncM M F v d := by
  obtain ⟨o, hσ, a, b, v, rfl, _, _, h3, h4, h5⟩ := so.at hi
  exact ⟨a, b, v, hσ, h3, h4, h5⟩
theorem sn_dget {i : Nat} {x : Str} {kE : Expr} {a : IE} {px pos : Pos} (h : SndE M Φ N sc sc0 kE a) (hN : N[i]? = some x := by rfl) (hv : Vis sc x := by first | exact Or.inl rfl | exact Or.inr (Or.inl rfl) | exact Or.inr (Or.inr rfl))
    (hd : (x == ("__debug__" : Str)) = false := by decide) (hcd : (x == ("__classdict__" : Str)) = false := by decide) (hs : NoSl kE := by intro _ _; rfl) : SndE M Φ N sc sc0 (.Subscript (.Name x px) kE pos) (.dget i a) := fun X hX => by
  have hu : X.A.units + 1 < cLine := by have := hX.units; omega
  refine PE.imp (PE.or (pe_dget hu (pe_slot hX (pos := px) hN hv hd hcd) (h X hX) hs) (pe_dkGet hu (pe_slot hX (pos := px) hN hv hd hcd) (h X hX) hs)) fun σ H Q h => ?_
  obtain ⟨F0, H0, F, env, d, e, so, k⟩ := h
  unfold evalE at e
  split at e
  · rename_i kvs lk kd q1 q2
    obtain ⟨ks, q3, e⟩ := FB.opt_bind e
    obtain ⟨c, kv', hσ, rd, ek, rd'⟩ := dct_rd so q1
    refine .inl ⟨.ref c, hσ, F0, H0, F, env, _, q2, so, fun v F1 H1 x1 e1 => ?_⟩
    obtain ⟨c', kv2, hσ', rd2, ek2, _⟩ := dct_rd (so.step x1) q1
    have eb : c' = c := by rw [hσ] at hσ'; cases hσ'; rfl
    subst eb
    obtain ⟨b, rfl, hb⟩ := enc_keyv x1.s e1 q3
    rcases look_enc ks ek2 with ⟨w, d', e2, e3, e4⟩ | ⟨e2, e3⟩
    · rw [e3] at e
      cases e
      exact ⟨c', w, rfl, by rw [← e2]; exact dget_rd rd2 hb, k w F1 H1 x1 e4⟩
    · rw [e3] at e; cases e
  · rename_i v' q1 q2
    cases e
    obtain ⟨c, b, v, hσ, g, kt, ev⟩ := dk_rd so q1
    refine .inr ⟨.ref c, hσ, F0, H0, F, env, _, q2, so, fun w F1 H1 x1 e1 => ?_⟩
    obtain ⟨c', b', v1, hσ', g1, kt1, ev1⟩ := dk_rd (so.step x1) q1
    have eb : c' = c := by rw [hσ] at hσ'; cases hσ'; rfl
    subst eb
    cases e1 with
    | ktup kt2 => exact ⟨c', b', _, v1, rfl, rfl, by rw [hX.prog, hX.w]; exact g1, by rw [hX.K]; exact kt1, by rw [hX.K]; exact kt2, k v1 F1 H1 x1 ev1⟩
  · cases e
theorem m2_get {X : Cx} {o : Expr} {apos cpos : Pos} {e f : Expr} (hb : ∀ env, attributeBase o "get" env (eval o env) = eval o env) (hs : ∀ env, starEach [e, f] env = [(false, eval e env), (false, eval f env)]) (hl : (apos.endLine == cpos.line) = true) : M2 X o "get" apos e f cpos :=
  ⟨hb _, by rw [hs]; rfl, hl, by rw [hs]; rfl⟩
/-- d.get(k, x) -/
theorem sn_dget2 {i : Nat} {x : Str} {kE f : Expr} {a b : IE} {px apos cpos : Pos} (h : SndE M Φ N sc sc0 kE a) (hf : SndE M Φ N sc sc0 f b) (hN : N[i]? = some x := by rfl) (hv : Vis sc x := by first | exact Or.inl rfl | exact Or.inr (Or.inl rfl) | exact Or.inr (Or.inr rfl))
    (hd : (x == ("__debug__" : Str)) = false := by decide) (hcd : (x == ("__classdict__" : Str)) = false := by decide) (hs : ∀ env, starEach [kE, f] env = [(false, eval kE env), (false, eval f env)] := by intro _; rfl) (hl : (apos.endLine == cpos.line) = true := by rfl)
    (hb : ∀ env, attributeBase (.Name x px) "get" env (eval (.Name x px) env) = eval (.Name x px) env := by intro _; rfl) : SndE M Φ N sc sc0 (.Call (.Attribute (.Name x px) "get" apos) [kE, f] [] cpos) (.dget2 i a b) := fun X hX => by
  have hu : X.A.units + 1 < cLine := by have := hX.units; omega
  refine PE.imp (PE.or (pe_dget2 hu (pe_slot hX (pos := px) hN hv hd hcd) (h X hX) (hf X hX) (m2_get hb hs hl)) (pe_dkGet2 hu (pe_slot hX (pos := px) hN hv hd hcd) (h X hX) (hf X hX) (m2_get hb hs hl))) fun σ H Q h => ?_
  obtain ⟨F0, H0, F, env, d, e, so, k⟩ := h
  unfold evalE at e
  split at e
  · rename_i kvs lk kd dx q1 q2 q2x
    obtain ⟨ks, q3, e⟩ := FB.opt_bind e
    cases e
    obtain ⟨c, kv', hσ, rd, ek, rd'⟩ := dct_rd so q1
    have isd : IsD H c := .inr ⟨kv', rd⟩
    refine .inl ⟨.ref c, hσ, c, rfl, isd, F0, H0, F, env, _, q2, so, fun v F1 H1 x1 e1 => ⟨F0, H0, F1, env, dx, q2x, so.step x1, fun z F2 H2 x2 ez => ?_⟩⟩
    obtain ⟨c', kv2, hσ', rd2, ek2, _⟩ := dct_rd ((so.step x1).step x2) q1
    have eb : c' = c := by rw [hσ] at hσ'; cases hσ'; rfl
    subst eb
    obtain ⟨b, rfl, hb⟩ := enc_keyv x2.s (e1.mono x2.f) q3
    refine ⟨_, dget_rd rd2 hb, ?_⟩
    rcases look_enc ks ek2 with ⟨w, d', e2, e3, e4⟩ | ⟨e2, e3⟩
    · rw [e2]
      refine k w F2 H2 (x1.trans x2) ?_
      rw [e3]; exact e4
    · rw [e2]
      refine k z F2 H2 (x1.trans x2) ?_
      rw [e3]; exact ez
  · rename_i v' dz q1 q2 q3
    cases e
    obtain ⟨c, b, v, hσ, g, kt, ev⟩ := dk_rd so q1
    refine .inr ⟨.ref c, hσ, c, b, v, rfl, by rw [hX.prog, hX.w]; exact g, by rw [hX.K]; exact kt, F0, H0, F, env, _, q2, so, fun w F1 H1 x1 e1 => ⟨F0, H0, F1, env, _, q3, so.step x1, fun z F2 H2 x2 ez => ?_⟩⟩
    obtain ⟨t, vs, rfl, ft, st, r⟩ := (e1.mono x2.f).sqT x2.s
    cases r
    have x12 := x1.trans x2
    exact ⟨t, rfl, by rw [hX.prog, hX.w]; exact x12.h _ _ g, x2.s _ _ ft, k v F2 H2 x12 (ev.mono x12.f)⟩
  · cases e

/-! ### [.. for k in d ..] -/
theorem ev_lcD {i : Nat} {test elt : IE} {tg : Tg} {vs : List Nat} {env : En} {d : D} (h : evalE Φ (.lc 4 (.var i) tg test elt vs) env = some d) :
    ∃ kvs ys, env[i]? = some (.dct kvs false) ∧ lcGo (evalE Φ test) (evalE Φ elt) tg (wipeE (env.set i (.dct kvs true)) vs) (kvs.map fun kv => D.tup (kv.1.map .int)) = some ys ∧ kvs.length.ble 10000 = true ∧ d = .lst ys := by
  have h : (match env[i]? with
    | some (.dct kvs false) => match lcGo (evalE Φ test) (evalE Φ elt) tg (wipeE (env.set i (.dct kvs true)) vs) (kvs.map fun kv => D.tup (kv.1.map .int)) with
      | some ys => if kvs.length.ble 10000 then some (D.lst ys) else none
      | none => none
    | _ => none) = some d := h
  cases q : env[i]? with
  | none => rw [q] at h; cases h
  | some s =>
    rw [q] at h
    cases s with
    | dct kvs lk =>
      cases lk with
      | true => cases h
      | false =>
        simp only at h
        cases q2 : lcGo (evalE Φ test) (evalE Φ elt) tg (wipeE (env.set i (.dct kvs true)) vs) (kvs.map fun kv => D.tup (kv.1.map .int)) with
        | none => rw [q2] at h; cases h
        | some ys =>
          rw [q2] at h
          simp only at h
          split at h
          · rename_i z; exact ⟨kvs, ys, rfl, q2, z, (Option.some.inj h).symm⟩
          · cases h
    | _ => cases h
theorem sl_lcD {elt tgE : Expr} {x : Str} {ifs : List Expr} {scope : Scope} {own : List (Str × Nat)} {i : Nat} {test el : IE} {tg : Tg} {px pos : Pos} (nd : N.Nodup) (ok : blkC N sc scope own = true)
    (hg : SndG M N (relS scope sc) scope tgE tg) (ht : SndTs M Φ N (relS scope sc) scope ifs test) (he : SndE M Φ N (relS scope sc) scope elt el) (hin : tgIn tg (own.map (·.2))) (hN : N[i]? = some x := by rfl)
    (hv : Vis sc x := by first | exact Or.inl rfl | exact Or.inr (Or.inl rfl) | exact Or.inr (Or.inr rfl)) (hd : (x == ("__debug__" : Str)) = false := by decide) (hcd : (x == ("__classdict__" : Str)) = false := by decide) :
    SndL M Φ N sc sc0 (.ListComp elt [⟨tgE, .Name x px, ifs, 0⟩] scope pos) (.lc 4 (.var i) tg test el (own.map (·.2))) := fun X hX =>
  PE.imp (pe_lock (pe_lc (own := own) hX.calm (by rw [hX.N]; exact nd) (pi_keys (pe_slot hX (pos := px) hN hv hd hcd)) (blk_of hX ok) (fun s H C cl fp => hg _ (hX.blk scope s H C cl fp)) (fun s H C cl fp => ht _ (hX.blk scope s H C cl fp)) (fun s H C cl fp => he _ (hX.blk scope s H C cl fp)) (by intro _; rfl))) fun σ H Q h => by
    obtain ⟨F0, H0, F, env, l, e, so, kk⟩ := h
    obtain ⟨kvs, ys, hi, e3, hz, e4⟩ := ev_lcD e
    cases e4
    obtain ⟨a, kv', hσ, h0, hf, ha, ek⟩ := so.dict hi
    refine ⟨a, .dT kv', ha, trivial, fun od => ?_⟩
    refine ⟨_, hσ, a, od, rfl, .inr ⟨kv', upd_same, fun D0 hD => ?_⟩⟩
    have nD : D0 ≠ a := fun z => by rw [z, upd_same] at hD; cases hD
    have hz' : (kvs.map fun kv => D.tup (kv.1.map .int)).length.ble 10000 = true := by rw [List.length_map]; exact hz
    refine lc_turns (so.lock (od := od) hi hσ h0 hf ha ek) (itd_keys ek upd_same) hz' hin e3 hD fun F2 H2 acc x2 f2 h2 ev => ?_
    obtain ⟨x3, fa⟩ := Ext.unlock ha hf x2
    refine ⟨x2.h _ _ upd_same, kk D0 acc F2 _ x3 (by rw [upd_ne nD] at hD; exact hD) f2 (by rw [upd_ne nD]; exact h2) ev⟩
theorem lst_of_lcD {i : Nat} {test elt : IE} {tg : Tg} {vs : List Nat} : ∀ env d, evalE Φ (.lc 4 (.var i) tg test elt vs) env = some d → ∃ ds, d = .lst ds := fun env d h =>
  let ⟨_, ys, _, _, _, e⟩ := ev_lcD h
  ⟨ys, e⟩
end FB

set_option Elab.async false
set_option linter.all false
set_option maxRecDepth 100000
set_option maxHeartbeats 1000000
/-! FBk2: sorted(d), keys tuples of ints. -/
namespace FB
open PySem PySem.Spec PyProof.Rows L2
variable {M : Md} {Φ : Fn → List D → Option D} {N : List Str} {sc sc0 : Scope} {X : Cx}

/-! ### the order of tuples -/
theorem lex_total : ∀ a b : List Int, HT.lexLt a b = false → HT.lexLt b a = false → a = b
  | [], [], _, _ => rfl
  | [], y :: ys, h, _ => by rw [HT.lexLt_nil_cons] at h; cases h
  | x :: xs, [], _, h => by rw [HT.lexLt_nil_cons] at h; cases h
  | x :: xs, y :: ys, h1, h2 => by
    rw [HT.lexLt_cons] at h1 h2
    by_cases e : x = y
    · subst e
      rw [if_pos rfl] at h1 h2
      rw [lex_total xs ys h1 h2]
    · rw [if_neg e] at h1
      rw [if_neg (Ne.symm e)] at h2
      have a := of_decide_eq_false h1
      have b := of_decide_eq_false h2
      exact absurd (by omega) e
theorem insK_perm (x : List Int) : ∀ l : List (List Int), (insK x l).Perm (x :: l)
  | [] => List.Perm.refl _
  | y :: r => by
    unfold insK
    split
    · exact ((insK_perm x r).cons y).trans (List.Perm.swap x y r)
    · exact List.Perm.refl _
theorem sortK_perm : ∀ l : List (List Int), (sortK l).Perm l
  | [] => List.Perm.refl _
  | x :: r => (insK_perm x (sortK r)).trans ((sortK_perm r).cons x)
abbrev LexS (l : List (List Int)) : Prop := l.Pairwise fun x y => HT.lexLt y x = false
theorem insK_sorted (x : List Int) : ∀ l : List (List Int), LexS l → LexS (insK x l)
  | [], _ => List.pairwise_singleton _ _
  | y :: r, h => by
    unfold insK
    have h' := List.pairwise_cons.mp h
    split
    · rename_i q
      refine List.pairwise_cons.mpr ⟨fun z hz => ?_, insK_sorted x r h'.2⟩
      rcases List.mem_cons.mp ((insK_perm x r).mem_iff.mp hz) with e | e
      · subst e; exact NtL.lex_asym _ _ q
      · exact h'.1 z e
    · rename_i q
      have q' : HT.lexLt y x = false := by cases z : HT.lexLt y x with | true => exact absurd z q | false => rfl
      exact List.pairwise_cons.mpr ⟨fun z hz => (List.mem_cons.mp hz).elim (fun e => by subst e; exact q') (fun e => NtL.lex_tr _ _ _ q' (h'.1 z e)), h⟩
theorem sortK_sorted : ∀ l : List (List Int), LexS (sortK l)
  | [] => .nil
  | x :: r => insK_sorted x _ (sortK_sorted r)
theorem sortK_eq {l ys : List (List Int)} (p : ys.Perm l) (s : LexS ys) : ys = sortK l :=
  List.Perm.eq_of_pairwise (le := fun x y => HT.lexLt y x = false) (fun a b _ _ h1 h2 => (lex_total b a h1 h2).symm) s (sortK_sorted l) (p.trans (sortK_perm l).symm)

/-! ### tuples of ints in a heap -/
def IsTI (h : Heap) (v : Value) (k : List Int) : Prop := ∃ a o items n, v = .ref a ∧ h.get? a = some o ∧ o.cls = .type "tuple" ∧ o.data = .seq items n ∧ IntsAre items.toList k
theorem IsTI.keeps {h h' : Heap} {v : Value} {k : List Int} (x : IsTI h v k) (kp : ∀ b o, v = .ref b → h.get? b = some o → o.cls = .type "tuple" → h'.get? b = some o) : IsTI h' v k := by
  obtain ⟨a, o, items, n, e, g, c, d, i⟩ := x
  exact ⟨a, o, items, n, e, kp _ _ e g c, c, d, i⟩
def keyI (h : Heap) : Value → List Int
  | .ref a => match h.get? a with
    | some o => match o.data with
      | .seq items _ => numsOf items.toList
      | _ => []
    | none => []
  | _ => []
theorem IsTI.key {h : Heap} {v : Value} {k : List Int} (x : IsTI h v k) : keyI h v = k := by
  obtain ⟨a, o, items, n, rfl, g, c, d, i⟩ := x
  simp only [keyI, g, d]
  exact i.numsOf
section
variable {prog : Program} {w : World} {A : Around} {E : Value → Shared → Prop} {s : Shared}
theorem lexW {b fin : Bool} {Q : Bool → Shared → Prop} : ∀ (ps qs : List Value) (i : Nat) (as bs : List Int), IntsAre ps as → IntsAre qs bs → fin = decide (ps.length < qs.length) → Q (HT.lexLt as bs) s → PySem.W.KatLex prog w A b fin Q (ps.zip qs) i s
  | _, _, i, _, _, .nil, .nil, hf, h => by
    have e : fin = false := by rw [hf]; rfl
    subst e
    exact PySem.W.kat_nil h
  | _, _, i, _, _, .nil, .cons c u r, hf, h => by
    have e : fin = true := by rw [hf]; exact decide_eq_true (Nat.succ_pos _)
    subst e
    exact PySem.W.kat_nil h
  | _, _, i, _, _, .cons a t r, .nil, hf, h => by
    have e : fin = false := by rw [hf]; exact decide_eq_false (Nat.not_lt_zero _)
    subst e
    exact PySem.W.kat_nil h
  | _, _, i, _, _, .cons (vs := ps) (ns := as) a t r, .cons (vs := qs) (ns := bs) c u r', hf, h => by
    have hf' : fin = decide (ps.length < qs.length) := by rw [hf]; simp only [List.length_cons, Nat.add_lt_add_iff_right]
    rw [HT.lexLt_cons] at h
    refine PySem.W.kat_cons (wpAny_eqBool_int ?_)
    refine PySem.W.kat_go (fun e => PySem.W.kat_yes ?_) (fun e => PySem.W.kat_no ?_)
    · have hnm : a = c := by simpa using e
      rw [if_pos hnm] at h
      exact lexW ps qs (i + 1) as bs r r' hf' h
    · have hnm : ¬ a = c := by simpa using e
      rw [if_neg hnm] at h
      exact oneLt_any_int h
theorem tiLt {v u : Value} {j k : List Int} {Q : Bool → Shared → Prop} (hv : IsTI s.heap v j) (hu : IsTI s.heap u k) (h : Q (HT.lexLt j k) s) : wpAny (model prog w) A (keyLt' (tuples' true) v u) Q E s := by
  obtain ⟨a, o, xs, n, rfl, g, _, d, i⟩ := hv
  obtain ⟨a2, o2, ys, n2, rfl, g2, _, d2, i2⟩ := hu
  exact PySem.W.kat_lt g d g2 d2 (lexW xs.toList ys.toList 0 j k i i2 (by rw [Array.length_toList, Array.length_toList]) h)
theorem ti_tups {h : Heap} : ∀ {vs : List Value}, (∀ v ∈ vs, ∃ k, IsTI h v k ∧ k ≠ []) → ∃ fs, TupsOf h (fun _ => false) vs fs ∧ fs.length = vs.length
  | [], _ => ⟨[], .nil, rfl⟩
  | v :: vs, hv => by
    obtain ⟨fs, h1, h2⟩ := ti_tups (vs := vs) fun u hu => hv u (List.mem_cons_of_mem _ hu)
    obtain ⟨k, ⟨a, o, items, n, e, g, c, d, i⟩, hk⟩ := hv v List.mem_cons_self
    cases hi : items.toList with
    | nil => rw [hi] at i; cases i; exact absurd rfl hk
    | cons f r =>
      rw [hi] at i
      cases i with
      | cons z t r' =>
        refine ⟨.int z t :: fs, .cons ⟨a, o, items, n, e, g, c, d, ?_, fun _ => ⟨z, t, rfl⟩, fun q => nomatch q⟩ h1, by rw [List.length_cons, List.length_cons, h2]⟩
        rw [← Array.getElem?_toList, hi]
        rfl
theorem ti_sortable {a : Addr} {vs : List Value} (kf : Value → List Int) (h0 : 0 < vs.length) (hv : ∀ v ∈ vs, IsTI s.heap v (kf v) ∧ kf v ≠ []) (ha : ∀ o, s.heap.get? a = some o → o.cls ≠ .type "tuple") : SrtO.SortableO prog w A s a vs fun v u => HT.lexLt (kf v) (kf u) := by
  intro h' keep
  have kp : ∀ v ∈ vs, IsTI h' v (kf v) ∧ kf v ≠ [] := fun v hm =>
    ⟨(hv v hm).1.keeps fun b o _ e c => keep b o (fun z => by subst z; exact ha o e c) e, (hv v hm).2⟩
  obtain ⟨fs, h1, h2⟩ := ti_tups (h := h') fun v hm => ⟨_, kp v hm⟩
  refine ⟨tuples' true, fun Q E hq => tup_kind (s := { s with heap := h' }) (by omega) h1 hq, fun p q hp hq => ?_⟩
  exact tiLt (s := { s with heap := h' }) (kp _ hp).1 (kp _ hq).1 ⟨rfl, rfl⟩
end
theorem swo_lexI (h : Heap) : SrtO.Swo fun v u => HT.lexLt (keyI h v) (keyI h u) := ⟨fun x y q => NtL.lex_asym _ _ q, fun x y z h1 h2 => NtL.lex_tr _ _ _ h1 h2⟩
theorem paired_get {α β : Type} {R : α → β → Prop} : ∀ {l : List α} {m : List β}, l.length = m.length → (∀ (j : Nat) a b, l[j]? = some a → m[j]? = some b → R a b) → Paired R l m
  | [], [], _, _ => .nil
  | [], _ :: _, h, _ => by simp at h
  | _ :: _, [], h, _ => by simp at h
  | a :: l, b :: m, h, q => .cons (q 0 a b rfl rfl) (paired_get (by simpa using h) fun j x y hx hy => q (j + 1) x y (by simpa using hx) (by simpa using hy))
/-- the keys of d become known -/
theorem know_keys {F H : Hp} (s : Same F H) : ∀ {bs : List Addr} {ks : List (List Int)}, Paired (fun b k => H b = some (.tup ((k.map Sum.inl).map kV))) bs ks → ∃ F', Ext F H F' H ∧ ∀ (j : Nat) (b : Addr) (k : List Int), bs[j]? = some b → ks[j]? = some k → EncM M F' (.ref b) (.tup (k.map .int))
  | _, _, .nil => ⟨F, .refl s, fun j b k h => by simp at h⟩
  | _, _, .cons (l₁ := bs) (l₂ := ks) h t => by
    obtain ⟨F1, x1, h1⟩ := know_keys s t
    have h' := h
    rw [keys_kV] at h'
    have x2 := Ext.know x1.s h'
    refine ⟨_, x1.trans x2, fun j b k hb hk => ?_⟩
    cases j with
    | zero =>
      cases (Option.some.inj hb)
      cases (Option.some.inj hk)
      exact .tup upd_same (.ofInts _)
    | succ j => exact (h1 j b k (by simpa using hb) (by simpa using hk)).mono x2.f
/-- what sorted(d) makes -/
theorem sortD_run {pins : List (Addr × Obj)} {σ : L2.St} {H F : Hp} {s : Shared} {a : Addr} {kv' : List (List Key × V)} {kvs : List (List Int × D)} {Q : VK} (hX : XOk M N sc sc0 X) (I : Inv X pins σ H s) (sm : Same F H) (ha : Rd H a (.dT kv')) (ek : EncK M.K M.CA F kv' kvs) (hz : kvs.length ≤ 63) (hne : ∀ kv ∈ kvs, kv.1 ≠ [])
    (k : ∀ v F' H', Ext F H F' H' → EncM M F' v (.lst ((sortK (kvs.map (·.1))).map fun k => .tup (k.map .int))) → Q v H') : wpAny (model X.prog X.w) X.A (call (.builtin "sorted") [.ref a]) (EP X pins σ Q) X.xe s := by
  obtain ⟨_, hs, xs, pr, o, es, ep, ho, hx, hdt, he, hn⟩ := (show ObjOk X.prog X.w H s.heap a (.dT kv') from ha.ok I.hok)
  have l1 : es.size = xs.length := size_of_entries he
  have l2 : kv'.length = xs.length := Paired.length pr
  have l3 := enck_len ek
  have h16 : es.size ≤ sizeLine := by rw [sizeLine_eq]; omega
  -- the keys' tuples
  have key : ∀ (j : Nat) (x : List Key × Addr × Value), xs[j]? = some x → ∃ ks, (kvs.map (·.1))[j]? = some ks ∧ x.1 = ks.map Sum.inl ∧ H x.2.1 = some (.tup ((ks.map Sum.inl).map kV)) := fun j x hj => by
    obtain ⟨y, hy, e1, e2, e3⟩ := L2.DX.pget pr hj
    obtain ⟨y1, y2⟩ := y
    obtain ⟨ks, d, h1, h2, h3⟩ := enck_get ek hy
    simp only at e1 e2
    subst h2
    exact ⟨ks, by rw [List.getElem?_map, h1]; rfl, e1.symm, e2⟩
  have pk : Paired (fun b k => H b = some (.tup ((k.map Sum.inl).map kV))) (xs.map fun x => x.2.1) (kvs.map (·.1)) := by
    refine paired_get (by rw [List.length_map, List.length_map]; omega) fun j b ks hb hk => ?_
    rw [List.getElem?_map] at hb
    cases hj : xs[j]? with
    | none => rw [hj] at hb; cases hb
    | some x =>
      rw [hj] at hb
      cases hb
      obtain ⟨ks', e1, e2, e3⟩ := key j x hj
      rw [e1] at hk
      cases hk
      exact e3
  have ti : ∀ (j : Nat) (b : Addr) (ks : List Int), (xs.map fun x => x.2.1)[j]? = some b → (kvs.map (·.1))[j]? = some ks → IsTI s.heap (.ref b) ks := fun j b ks hb hk => by
    have e3 : H b = some (.tup ((ks.map Sum.inl).map kV)) := by
      rw [List.getElem?_map] at hb
      cases hj : xs[j]? with
      | none => rw [hj] at hb; cases hb
      | some x =>
        rw [hj] at hb
        cases hb
        obtain ⟨ks', e1, e2, e3⟩ := key j x hj
        rw [e1] at hk
        cases hk
        exact e3
    rw [keys_kV] at e3
    obtain ⟨_, its, rv, o, g, hc, n, hd⟩ := (show ObjOk X.prog X.w H s.heap b (.tup (ks.map V.int)) from I.hok b _ e3)
    exact ⟨b, o, its.toArray, n, rfl, g, hc, hd, by simpa using rv.ints⟩
  have tiM : ∀ v ∈ (xs.map fun x => x.2.1).map Value.ref, ∃ k, IsTI s.heap v k ∧ k ≠ [] := fun v hv => by
    obtain ⟨b, hb, rfl⟩ := List.mem_map.mp hv
    obtain ⟨j, hj⟩ := List.mem_iff_getElem?.mp hb
    obtain ⟨ks, hk⟩ : ∃ ks, (kvs.map (·.1))[j]? = some ks := by
      have := (List.getElem?_eq_some_iff.mp hj).1
      rw [List.length_map] at this
      exact ⟨_, List.getElem?_eq_getElem (by rw [List.length_map]; omega)⟩
    refine ⟨ks, ti j b ks hj hk, ?_⟩
    obtain ⟨kv, hkv, e⟩ := List.mem_map.mp (List.mem_of_getElem? hk)
    rw [← e]
    exact hne kv hkv
  refine sorted_col (vs := (xs.map fun x => x.2.1).map Value.ref) (swo_lexI s.heap) (by rw [List.length_map, List.length_map, sizeLine_eq]; omega) (fun Q1 h1 E1 => ?_) (fun h2 h₁ tk a' ha' kp => ?_) fun out h1 h2 tk ep' hs' hb k1 k2 g => ?_
  · refine PySem.W.kdu_collect (A := X.A.in1) (kdl_raw hs hx hdt) (I.ok.hd hX.calm) ho h16 fun h' tk acc hk hacc => ?_
    have ea : acc.toList = (xs.map fun x => x.2.1).map Value.ref := by
      refine List.ext_getElem? fun j => ?_
      rw [List.getElem?_map, List.getElem?_map]
      cases hj : acc.toList[j]? with
      | none =>
        have q := List.getElem?_eq_none_iff.mp hj
        rw [Array.length_toList, hacc.1] at q
        rw [List.getElem?_eq_none (by omega)]
        rfl
      | some v =>
        obtain ⟨en, hen, hv⟩ := hacc.2 j v (by rw [← Array.getElem?_toList]; exact hj)
        have qe := entry_at he j
        rw [hen] at qe
        cases hb : xs[j]? with
        | none => rw [hb] at qe; cases qe
        | some b =>
          rw [hb] at qe
          have e2 : en = entryOfKey (tupleKind (mixKind X.prog X.w)) b := Option.some.inj qe
          rw [hv, e2]
          rfl
    rw [ea]
    exact h1 h' tk hk
  · refine ti_sortable (s := { s with heap := h₁, toks := tk }) (keyI s.heap) (Nat.lt_of_lt_of_le (by decide) h2) (fun v hv => ?_) fun o' e => ?_
    · obtain ⟨k0, q1, q2⟩ := tiM v hv
      rw [q1.key]
      exact ⟨q1.keeps fun b o _ e _ => (kp b o e).2, q2⟩
    · have e' : some o' = some (seqObj "list" ((xs.map fun x => x.2.1).map Value.ref).toArray 0) := e.symm.trans ha'
      cases e'
      intro c
      exact absurd (Value.type.inj c) (by decide)
  · -- what came out
    have I1 : Inv X pins σ H { s with heap := h1, toks := tk } := I.kept k1
    have hf := I1.hok.fresh (Nat.le_refl h1.objs.size)
    have perm : out.Perm ((xs.map fun x => x.2.1).map Value.ref) := hb.perm
    have kk : ((xs.map fun x => x.2.1).map Value.ref).map (keyI s.heap) = kvs.map (·.1) := by
      refine List.ext_getElem? fun j => ?_
      rw [List.getElem?_map, List.getElem?_map]
      cases hj : (xs.map fun x => x.2.1)[j]? with
      | none =>
        have q := List.getElem?_eq_none_iff.mp hj
        rw [List.length_map] at q
        rw [List.getElem?_eq_none (by rw [List.length_map]; omega)]
        rfl
      | some b =>
        obtain ⟨ks, hk⟩ : ∃ ks, (kvs.map (·.1))[j]? = some ks := by
          have := (List.getElem?_eq_some_iff.mp hj).1
          rw [List.length_map] at this
          exact ⟨_, List.getElem?_eq_getElem (by rw [List.length_map]; omega)⟩
        rw [hk]
        exact congrArg some (ti j b ks hj hk).key
    have es : out.map (keyI s.heap) = sortK (kvs.map (·.1)) := sortK_eq (by rw [← kk]; exact perm.map _) (List.pairwise_map.mpr hs')
    obtain ⟨F1, x1, hk⟩ := know_keys sm pk
    have each : ∀ v ∈ out, ∃ b, v = .ref b ∧ EncM M F1 (.ref b) (.tup ((keyI s.heap v).map .int)) := fun v hv => by
      obtain ⟨b, hb', rfl⟩ := List.mem_map.mp (perm.mem_iff.mp hv)
      obtain ⟨j, hj⟩ := List.mem_iff_getElem?.mp hb'
      obtain ⟨ks, hk'⟩ : ∃ ks, (kvs.map (·.1))[j]? = some ks := by
        have := (List.getElem?_eq_some_iff.mp hj).1
        rw [List.length_map] at this
        exact ⟨_, List.getElem?_eq_getElem (by rw [List.length_map]; omega)⟩
      exact ⟨b, rfl, by rw [(ti j b ks hj hk').key]; exact hk j b ks hj hk'⟩
    have all : ∀ {l : List Value}, (∀ v ∈ l, ∃ b, v = .ref b ∧ EncM M F1 (.ref b) (.tup ((keyI s.heap v).map .int))) → ∃ vs, Vals vs l ∧ EncLM M F1 vs ((l.map (keyI s.heap)).map fun k => .tup (k.map .int)) := fun {l} => by
      induction l with
      | nil => exact fun _ => ⟨[], .nil, .nil⟩
      | cons v l ih =>
        intro h
        obtain ⟨vs, h1, h2⟩ := ih fun u hu => h u (List.mem_cons_of_mem _ hu)
        obtain ⟨b, rfl, e⟩ := h v List.mem_cons_self
        exact ⟨.ref b :: vs, .cons rfl h1, .cons e h2⟩
    obtain ⟨vs, rv, ev⟩ := all each
    rw [es] at ev
    have hlen : vs.length ≤ sizeLine := by
      rw [rv.length, perm.length_eq, List.length_map, List.length_map, sizeLine_eq]; omega
    obtain ⟨x2, en⟩ := new_lst (M := M) (vs := vs) x1.s hf ev
    exact ⟨.ref h1.objs.size, upd H h1.objs.size (.lst vs), I1.laid (t' := tk) k2 (Nat.le_refl _) ⟨hlen, out, ep', rv, g⟩, rfl, k _ _ _ (x1.trans x2) en⟩
end FB

set_option Elab.async false
set_option linter.all false
set_option maxRecDepth 100000
set_option maxHeartbeats 1000000
/-! FBk3: sorted(d), dict(d), {k: v}. -/
namespace FB
open PySem PySem.Spec PyProof.Rows L2
variable {M : Md} {Φ : Fn → List D → Option D} {N : List Str} {sc sc0 : Scope} {X : Cx}

def rSortD (M : Md) : List V → Hp → VK → Prop := fun xs H Q => ∃ F a, xs = [.ref a] ∧ Same F H ∧
  ((∃ kv' kvs, Rd H a (.dT kv') ∧ EncK M.K M.CA F kv' kvs ∧ kvs.length ≤ 63 ∧ (∀ kv ∈ kvs, kv.1 ≠ []) ∧ ∀ v F' H', Ext F H F' H' → EncM M F' v (.lst ((sortK (kvs.map (·.1))).map fun k => .tup (k.map .int))) → Q v H') ∨
  (∃ b v, H a = some (DkAt M.P M.w a b v) ∧ KTup M.K b ∧ ∀ v F' H', Ext F H F' H' → EncM M F' v (.lst [.ktup]) → Q v H'))
theorem cd_sortD (hX : XOk M N sc sc0 X) : CallR X (.builtin "sorted") (rSortD M) := by
  intro pins s σ H xs us Q I r h
  obtain ⟨F, a, rfl, sm, h⟩ := h
  obtain ⟨u, rfl, rx⟩ := vals1 r
  cases rx
  rcases h with ⟨kv', kvs, rd, ek, hz, hne, k⟩ | ⟨b, v, ha, kt, k⟩
  · exact sortD_run hX I sm rd ek hz hne k
  · obtain ⟨hs, u, ru, o, es, ep, ho, hx, hdt, he, _, _⟩ := dk_dict I (by rw [hX.prog, hX.w]; exact ha) (by rw [hX.K]; exact kt)
    refine sorted_col (vs := [.ref b]) (swo_lexI s.heap) (by show 1 ≤ sizeLine; decide) (fun Q1 h1 E1 => ?_) (fun h2 _ _ _ _ _ => absurd (show 2 ≤ 1 from h2) (by decide)) fun out h1 h2 tk ep' hs' hb k1 k2 g => ?_
    · have l1 : es.size = 1 := size_of_entries he
      refine PySem.W.kdu_collect (A := X.A.in1) (kdl_raw hs hx hdt) (I.ok.hd hX.calm) ho (by rw [l1]; decide) fun h' tk acc hk hacc => ?_
      have ea : acc.toList = [.ref b] := by
        have hl : acc.toList.length = 1 := by rw [Array.length_toList, hacc.1, l1]
        obtain ⟨v, hv⟩ : ∃ v, acc.toList = [v] := by
          match acc.toList, hl with
          | [v], _ => exact ⟨v, rfl⟩
        obtain ⟨en, hen, e⟩ := hacc.2 0 v (by rw [← Array.getElem?_toList, hv]; rfl)
        have qe := entry_at he 0
        rw [hen] at qe
        have e2 := Option.some.inj qe
        rw [hv, e, e2]
        rfl
      rw [ea]
      exact h1 h' tk hk
    · have eo : out = [.ref b] := List.perm_singleton.mp hb.perm
      subst eo
      have I1 : Inv X pins σ H { s with heap := h1, toks := tk } := I.kept k1
      have hf := I1.hok.fresh (Nat.le_refl h1.objs.size)
      obtain ⟨x2, en⟩ := new_lst (M := M) (vs := [.ref b]) (ds := [.ktup]) sm hf (.cons (.ktup kt) .nil)
      exact ⟨.ref h1.objs.size, upd H h1.objs.size (.lst [.ref b]), I1.laid (t' := tk) k2 (Nat.le_refl _) ⟨by show 1 ≤ sizeLine; decide, [.ref b], ep', .cons rfl .nil, g⟩, rfl, k _ _ _ x2 en⟩
theorem sn_sortD {i : Nat} {x : Str} {p px pos : Pos} (hm : M.mg "sorted" = none) (hN : N[i]? = some x := by rfl) (hv : Vis sc x := by first | exact Or.inl rfl | exact Or.inr (Or.inl rfl) | exact Or.inr (Or.inr rfl))
    (hd : (x == ("__debug__" : Str)) = false := by decide) (hcd : (x == ("__classdict__" : Str)) = false := by decide) (hg : sc.names.lookup ("sorted" : Str) = some .globalImplicit := by rfl) : SndE M Φ N sc sc0 (.Call (.Name "sorted" p) [.Name x px] [] pos) (.sortD i) := fun X hX => by
  refine PE.imp (pe_callB (cd_sortD hX) (glob_of hX hg) (mg_of hX hm) (by rfl) (pa_cons (pe_slot hX (pos := px) hN hv hd hcd) pa_nil)) fun σ H Q h => ?_
  obtain ⟨F0, H0, F, env, d, e, so, k⟩ := h
  unfold evalE at e
  split at e
  · rename_i kvs q1
    split at e
    · rename_i hz
      rw [Bool.and_eq_true] at hz
      cases e
      obtain ⟨c, kv', hσ, h0, hf, hc, ek⟩ := so.dict q1
      refine ⟨.ref c, hσ, F, c, rfl, so.fh, .inl ⟨kv', kvs, .inl hc, ek, Nat.le_of_ble_eq_true hz.1, fun kv hk e => ?_, k⟩⟩
      have := List.all_eq_true.mp hz.2 kv hk
      rw [e] at this
      cases this
    · cases e
  · rename_i v' q1
    cases e
    obtain ⟨c, b, v, hσ, g, kt, ev⟩ := dk_rd so q1
    exact ⟨.ref c, hσ, F, c, rfl, so.fh, .inr ⟨b, v, g, kt, k⟩⟩
  · cases e

/-! ### dict(d) -/
theorem distinct_nodup : ∀ {l : List Int}, distinct l = true → l.Nodup
  | [], _ => List.nodup_nil
  | x :: r, h => by
    unfold distinct at h
    rw [Bool.and_eq_true] at h
    refine List.nodup_cons.mpr ⟨fun hm => ?_, distinct_nodup h.2⟩
    have : (r.any fun y => decide (x = y)) = true := List.any_eq_true.mpr ⟨x, hm, decide_eq_true rfl⟩
    rw [this] at h
    exact absurd h.1 (by decide)
theorem hash_ints {P : Program} {w : World} (k : List Int) : (tupleKind (mixKind P w)).hash (k.map Sum.inl) = hashT k := by
  show reduceHash (Builtin.Tuple.tupleHashOf ((k.map Sum.inl).map (mixKind P w).hash)) = _
  rw [List.map_map]
  rfl
theorem call_dictH {prog : Program} {w : World} {A : Around} {E : Value → Shared → Prop} {s : Shared} {K : Type} [DecidableEq K] {knd : HeapKind prog w K} {o : Addr} {more : List (K × Addr × Value)} {Q : Value → Shared → Prop} (hu : knd.room A.in1.in1) (hoS : (o == sysModules) = false) (ho : s.heap.DictOfH knd o more) (hsz : more.length ≤ sizeLine)
    (his : ∀ h' : Heap, (∀ b o, s.heap.get? b = some o → h'.get? b = some o) → h'.DictOfH knd o more)
    (hap : (∀ x ∈ more, s.TypeIs (.ref x.2.1) "tuple") ∧ (more.map fun x => knd.hash x.1).Nodup)
    (h : ∀ h', h'.DictOfH knd s.heap.objs.size more → (∀ b o, s.heap.get? b = some o → h'.get? b = some o) → Q (.ref s.heap.objs.size) { s with heap := h' }) :
    wpAny (model prog w) A (call (.type "dict") [.ref o]) Q E s := by
  refine callType_codes (Q₁ := fun obj s₁ => obj = .ref s.heap.objs.size ∧ s₁ = { s with heap := s.heap.push { cls := .type "dict", data := .dict #[] } }) F.kt_called_dict (F.kt_typeCall_dict_1 _) F.entry_dict_init (kt_code_dict_new _ ⟨rfl, rfl⟩) ?_
  rintro obj s₁ ⟨rfl, rfl⟩
  have kp : ∀ b o, s.heap.get? b = some o → (s.heap.push { cls := .type "dict", data := .dict #[] }).get? b = some o := fun b o e => Heap.get?_push_of_some _ e
  have hnew : (s.heap.push { cls := .type "dict", data := .dict #[] }).DictOfH knd s.heap.objs.size [] := ⟨_, #[], 0, Heap.get?_push_size _ rfl, ⟨rfl, rfl, rfl⟩, rfl, rfl, (fun _ hx => nomatch hx), List.nodup_nil⟩
  have ho' := his _ kp
  have hn : (more.map (·.1)).Nodup := ho.nodup
  have hdo : s.heap.objs.size ≠ o := by
    obtain ⟨_, _, _, hg, _⟩ := ho
    exact fun e => absurd (Heap.lt_size hg) (by rw [e]; exact Nat.lt_irrefl _)
  refine ⟨hnew.typeIs, F.args_dict_init_2 _ _, ?_⟩
  unfold Builtin.«dict.__init__»
  refine wpAny_bind ?_
  unfold Builtin.Dict.selfAndRest
  refine wpAny_bind (wpAny_notOrdered_dict hnew.typeIs ?_)
  show wpAny _ _ (pure (s.heap.objs.size, [Value.ref o])) _ _ _
  refine wpAny_pure ?_
  show wpAny _ _ (Builtin.Dict.updateFrom "dict.__init__" s.heap.objs.size (.ref o) [] .none) _ _ _
  refine updateFrom_dictH (A := A.in1) (s := { s with heap := s.heap.push { cls := .type "dict", data := .dict #[] } }) (R := wants (fun r s₂ => r = .none ∧ Q (.ref s.heap.objs.size) s₂) E) .none hu hdo hoS hnew ho' (.inr ⟨fun x hx => ?_, hap.2⟩) (by rw [List.length_nil]; omega) fun h' hd' _ hs' => ⟨rfl, ?_⟩
  · obtain ⟨ob, e, c⟩ := hap.1 x hx
    exact ⟨ob, kp _ _ e, c⟩
  · rw [storedAllH_nil_of_nodup more hn] at hd'
    exact h h' hd' fun b o e => (hs'.2 b (Nat.ne_of_lt (Heap.lt_size e))).trans (kp b o e)
theorem kt_keys {H : Hp} : ∀ {kvs : List (List Key × V)} {xs : List (List Key × Addr × Value)}, KT H kvs xs → kvs.map (·.1) = xs.map (·.1)
  | _, _, .nil => rfl
  | _, _, .cons h t => by rw [List.map_cons, List.map_cons, h.1, kt_keys t]
/-- dict(d), the keys of hashes of their own -/
theorem cd_copyT (hX : XOk M N sc sc0 X) : CallR X (.type "dict") (fun xs H Q => ∃ a kv', xs = [.ref a] ∧ Rd H a (.dT kv') ∧ (kv'.map fun kv => (tupleKind (mixKind X.prog X.w)).hash kv.1).Nodup ∧ kv'.length ≤ 10000 ∧ ∀ p, H p = none → Q (.ref p) (upd H p (.dT kv'))) := by
  intro pins s σ H xs us Q I r h
  obtain ⟨a, kv', rfl, rd, hn, hz, k⟩ := h
  obtain ⟨u, rfl, rx⟩ := vals1 r
  cases rx
  obtain ⟨z, hs, xs, rel, dd⟩ := dt_rd I.hok rd
  have hu : (tupleKind (mixKind X.prog X.w)).room X.A.in1.in1 := by
    show X.A.units + 1 + 1 < cLine
    have := hX.units
    omega
  have keys : kv'.map (·.1) = xs.map (·.1) := kt_keys rel
  have l2 : kv'.length = xs.length := Paired.length rel
  have isK : ∀ h' : Heap, (∀ b o, s.heap.get? b = some o → h'.get? b = some o) → h'.DictOfH (tupleKind (mixKind X.prog X.w)) a xs := fun h' kp => by
    obtain ⟨o, es, ep, ho, hx, hd, he, his, hn⟩ := dd
    refine ⟨o, es, ep, kp _ _ ho, hx, hd, he, fun x hx => ?_, hn⟩
    obtain ⟨o', items, n, h1, h2, h3, h4⟩ := his x hx
    exact ⟨o', items, n, kp _ _ h1, h2, h3, h4⟩
  have hap : (∀ x ∈ xs, s.TypeIs (.ref x.2.1) "tuple") ∧ (xs.map fun x => (tupleKind (mixKind X.prog X.w)).hash x.1).Nodup := by
    refine ⟨fun x hx => ?_, ?_⟩
    · obtain ⟨_, _, _, _, _, _, _, his, _⟩ := dd
      exact IsTupleKey.typeIs (s := s) (his x hx)
    · have e : (xs.map fun x => (tupleKind (mixKind X.prog X.w)).hash x.1) = (xs.map (·.1)).map (tupleKind (mixKind X.prog X.w)).hash := by rw [List.map_map]; rfl
      have e2 : (kv'.map fun kv => (tupleKind (mixKind X.prog X.w)).hash kv.1) = (kv'.map (·.1)).map (tupleKind (mixKind X.prog X.w)).hash := by rw [List.map_map]; rfl
      rw [e, ← keys, ← e2]
      exact hn
  refine call_dictH hu hs dd (by rw [sizeLine_eq]; omega) isK hap fun h' dd' kp => ?_
  have hf := I.hok.fresh (Nat.le_refl s.heap.objs.size)
  obtain ⟨q, es, ep, hq, h2, h3, h4, _, h5⟩ := dd'
  refine ⟨.ref s.heap.objs.size, upd H s.heap.objs.size (.dT kv'), I.laid (t' := s.toks) kp (Nat.le_refl _) ⟨z, beq_eq_false_iff_ne.mpr (Ne.symm (Nat.ne_of_lt I.big)), xs, rel.keeps fun c ys ec => ?_, q, es, ep, hq, h2, h3, h4, h5⟩, rfl, k _ hf⟩
  rw [upd_ne (ne_of_none ec hf)]
  exact ec
theorem hash_kvs {K : PySem.W.Frag} {CA : Nat → Addr} {F : Hp} {P : Program} {w : World} : ∀ {kv' : List (List Key × V)} {kvs : List (List Int × D)}, EncK K CA F kv' kvs → (kv'.map fun kv => (tupleKind (mixKind P w)).hash kv.1) = kvs.map fun kv => hashT kv.1
  | _, _, .nil => rfl
  | _, _, .cons r t => by
    rw [List.map_cons, List.map_cons, hash_kvs t]
    exact congrArg (· :: _) (hash_ints _)
/-- x = dict(y) -/
theorem ss_cpyD {i j : Nat} {x y : Str} {p px py cp pos : Pos} (nd : N.Nodup) (hm : M.mg "dict" = none) (hN : N[i]? = some x := by rfl) (hs : Sto sc sc0 x := by first | exact Or.inl rfl | exact Or.inr ⟨rfl, rfl⟩) (hNj : N[j]? = some y := by rfl)
    (hv : Vis sc y := by first | exact Or.inl rfl | exact Or.inr (Or.inl rfl) | exact Or.inr (Or.inr rfl)) (hd : (y == ("__debug__" : Str)) = false := by decide) (hcd : (y == ("__classdict__" : Str)) = false := by decide) (hg : sc.names.lookup ("dict" : Str) = some .globalImplicit := by rfl)
    (hw : ∀ env, swapsWith (.Call (.Name "dict" p) [.Name y py] [] cp) (some (.Name x px)) pos.line env = pure false := by intro _; rfl) :
    SndS M Φ N sc sc0 (.Assign [.Name x px] (.Call (.Name "dict" p) [.Name y py] [] cp) pos) (.cpyD i j) := fun X hX hp =>
  PS.imp (ps_set (by rw [hX.N]; exact nd) (by rw [hX.N]; exact hN) (hs.loc hX) (pe_callTy (cd_copyT hX) (glob_of hX hg) (mg_of hX hm) (by rfl) (pa_cons (pe_slot hX (pos := py) hNj hv hd hcd) pa_nil)) (hw _) (hs.fn hX)) fun Dn σ H h => by
    obtain ⟨F0, H0, F, env, r, e, so, k⟩ := h
    unfold evalS at e
    split at e
    · rename_i kvs q1
      split at e
      · rename_i hz
        rw [Bool.and_eq_true] at hz
        cases e
        obtain ⟨c, kv', hσ, h0, hf, hc, ek⟩ := so.dict q1
        refine ⟨.ref c, hσ, c, kv', rfl, .inl hc, by rw [hash_kvs ek]; exact distinct_nodup hz.2, by rw [enck_len ek]; exact Nat.le_of_ble_eq_true hz.1, fun p hp' => ?_⟩
        have x := Ext.own (o := .dT kv') so.fh hp'
        exact k _ F _ (so.setOwn x hp' ⟨p, kv', rfl, so.x.h.free hp', so.fh.free hp', upd_same, ek⟩)
      · cases e
    · cases e

/-! ### {k: v} -/
theorem wpAny_Dict_one {prog : Program} {w : World} {A : Around} {E : Value → Shared → Prop} {s : Shared} {K : Type} [DecidableEq K] {knd : HeapKind prog w K} {env : Env} {kE vE : Expr} {pos : Pos} {Q : Value → Shared → Prop} (hu : knd.room A)
    (h : wpAny (model prog w) A (eval kE env) (fun kv s1 => wpAny (model prog w) A (eval vE env) (fun vv s2 => ∃ k a, kv = .ref a ∧ knd.is s2.heap k a ∧ s2.heap.DictOfH knd s.heap.objs.size [] ∧
      ∀ h' tk, h'.DictOfH knd s.heap.objs.size [(k, a, vv)] → Heap.SameBut s.heap.objs.size s2.heap h' → Q (.ref s.heap.objs.size) { s2 with heap := h', toks := tk }) E s1) E { s with heap := s.heap.push { cls := .type "dict", data := .dict #[] } }) :
    wpAny (model prog w) A (eval (.Dict [some kE] [vE] pos) env) Q E s := by
  have hshape : (evalEachOpt [some kE] env).zip ((evalEach [vE] env).map fun v => do let x ← v; standAt pos; pure x) = (pairTrees [some kE] [vE] env pos).map fun p => (some p.1, p.2) := by rfl
  rw [arm_eval_Dict, hshape, dictDisplay_pairs (pairTrees [some kE] [vE] env pos) (by intro z; cases z) (by show 1 < _; omega)]
  refine wpAny_bind (wpAny_standAt (wpAny_bind (wpAny_subDictH (knd := knd) (Q := fun d s' => wpAny (model prog w) A (pure (Value.ref d)) Q E s') hu (by show 1 ≤ 15; decide) ?_)))
  refine pairTrees_cons_walk (wpAny_mono h (fun kv s1 h1 => wpAny_mono h1 (fun vv s2 h2 => pairTrees_nil_walk ?_) fun _ _ e => e) fun _ _ e => e)
  obtain ⟨k, a, rfl, hk, hd, hq⟩ := h2
  exact ⟨[(k, a, vv)], ⟨rfl, rfl, hk, True.intro⟩, hd, fun h' tk a1 b1 => wpAny_pure (hq h' tk a1 b1)⟩
/-- {k: v}, k a tuple that was made -/
def tDisp1 (tk tv : TE) : TE := fun σ H Q => ∀ p, H p = none → tk σ (upd H p (.dT [])) fun x H1 => tv σ H1 fun y H2 => H2 p = some (.dT []) ∧ ∃ b k, x = .ref b ∧ H2 b = some (.tup (k.map kV)) ∧ Q (.ref p) (upd H2 p (.dT [(k, y)]))
/-- {k: v}, k an empty tuple of the module -/
def tDispK (K : PySem.W.Frag) (P : Program) (w : World) (tk tv : TE) : TE := fun σ H Q => ∀ p, H p = none → tk σ (upd H p (.dT [])) fun x H1 => tv σ H1 fun y H2 => H2 p = some (.dT []) ∧ ∃ b, x = .ref b ∧ KTup K b ∧ Q (.ref p) (upd H2 p (DkAt P w p b y))
theorem pe_disp1 {kE vE : Expr} {pos : Pos} {tk tv : TE} (hu : X.A.units + 64 < cLine) (hk : PE X kE tk) (hv : PE X vE tv) : PE X (.Dict [some kE] [vE] pos) (tDisp1 tk tv) := by
  refine ⟨fun pins s σ H Q I q => ?_⟩
  have hn := I.hok.fresh (Nat.le_refl s.heap.objs.size)
  have I1 := I.laid (a := s.heap.objs.size) (o := .dT []) (h' := s.heap.push { cls := .type "dict", data := .dict #[] }) (t' := s.toks) (fun _ _ q => Heap.get?_push_of_some _ q) (Nat.le_refl _) (dt_empty s.heap I.big)
  refine wpAny_Dict_one (knd := tupleKind (mixKind X.prog X.w)) (show X.A.units < cLine by omega) (thn (hk.run pins _ σ _ _ I1 (q _ hn)) fun u s1 ⟨x, H1, I2, rx, q1⟩ => thn (hv.run pins s1 σ H1 _ I2 q1) fun r s2 ⟨y, H2, I3, ry, e, b, k, ex, hb, q2⟩ => ?_)
  subst ex
  obtain rfl : u = Value.ref b := rx
  obtain ⟨z, hd, vs0, r0, dd⟩ := dt_of I3.hok e
  cases r0
  refine ⟨k, b, rfl, key_of I3.hok hb, dd, fun h' tk dd' hs => ⟨.ref s.heap.objs.size, _, ?_, rfl, q2⟩⟩
  obtain ⟨o, es, ep, hq, h2, h3, h4, _, h5⟩ := dd'
  refine d_write I3 (by rw [e]; exact True.intro) hs ⟨o, hq⟩ ⟨by show 1 ≤ sizeLine; decide, hd, _, .cons ⟨rfl, ?_, ry⟩ .nil, o, es, ep, hq, h2, h3, h4, h5⟩
  rw [upd_ne (ne_of hb e (fun z => nomatch z))]
  exact hb
theorem pe_dispK {kE vE : Expr} {pos : Pos} {tk tv : TE} (hu : X.A.units + 64 < cLine) (hk : PE X kE tk) (hv : PE X vE tv) : PE X (.Dict [some kE] [vE] pos) (tDispK X.K X.prog X.w tk tv) := by
  refine ⟨fun pins s σ H Q I q => ?_⟩
  have hn := I.hok.fresh (Nat.le_refl s.heap.objs.size)
  have I1 := I.laid (a := s.heap.objs.size) (o := .dT []) (h' := s.heap.push { cls := .type "dict", data := .dict #[] }) (t' := s.toks) (fun _ _ q => Heap.get?_push_of_some _ q) (Nat.le_refl _) (dt_empty s.heap I.big)
  refine wpAny_Dict_one (knd := tupleKind (mixKind X.prog X.w)) (show X.A.units < cLine by omega) (thn (hk.run pins _ σ _ _ I1 (q _ hn)) fun u s1 ⟨x, H1, I2, rx, q1⟩ => thn (hv.run pins s1 σ H1 _ I2 q1) fun r s2 ⟨y, H2, I3, ry, e, b, ex, kt, q2⟩ => ?_)
  subst ex
  obtain rfl : u = Value.ref b := rx
  obtain ⟨z, hd, vs0, r0, dd⟩ := dt_of I3.hok e
  cases r0
  refine ⟨([] : List Key), b, rfl, ktup_is kt I3.kIn, dd, fun h' tk dd' hs => ⟨.ref s.heap.objs.size, _, ?_, rfl, q2⟩⟩
  obtain ⟨o, es, ep, hq, _⟩ := id dd'
  exact d_write I3 (by rw [e]; exact True.intro) hs ⟨o, hq⟩ (dk_ok hd ry dd')
/-- the dict that is being made -/
theorem SOk.busy {F0 H0 F H : Hp} {env : En} {σ : L2.St} (so : SOk M F0 H0 F H env σ) {p : Addr} {o : HO} (hp : H p = none) : SOk M F0 H0 F (upd H p o) env σ := so.step (Ext.own so.fh hp)
theorem ss_newD1 {i : Nat} {x : Str} {kE vE : Expr} {a b : IE} {px p0 pos : Pos} (nd : N.Nodup) (hk : SndE M Φ N sc sc0 kE a) (hv : SndE M Φ N sc sc0 vE b) (hN : N[i]? = some x := by rfl) (hs : Sto sc sc0 x := by first | exact Or.inl rfl | exact Or.inr ⟨rfl, rfl⟩)
    (hw : ∀ env, swapsWith (.Dict [some kE] [vE] p0) (some (.Name x px)) pos.line env = pure false := by intro _; rfl) : SndS M Φ N sc sc0 (.Assign [.Name x px] (.Dict [some kE] [vE] p0) pos) (.newD1 i a b) := fun X hX hp =>
  PS.imp (ps_set (by rw [hX.N]; exact nd) (by rw [hX.N]; exact hN) (hs.loc hX) (pe_disp1 hX.units (hk X hX) (hv X hX)) (hw _) (hs.fn hX)) fun Dn σ H h => by
    obtain ⟨F0, H0, F, env, r, e, so, k⟩ := h
    unfold evalS at e
    split at e
    · rename_i kd xd q1 q2
      obtain ⟨ks, q3, e⟩ := FB.opt_bind e
      cases e
      intro p hp'
      have so1 := so.busy (o := .dT []) hp'
      refine ⟨F0, H0, F, env, _, q1, so1, fun v F1 H1 x1 e1 => ⟨F0, H0, F1, env, _, q2, so1.step x1, fun w F2 H2 x2 e2 => ?_⟩⟩
      have x12 := x1.trans x2
      have hp2 : H2 p = some (.dT []) := x12.h _ _ upd_same
      obtain ⟨c, rfl, hc⟩ := enc_keyv x2.s (e1.mono x2.f) q3
      refine ⟨hp2, c, ks.map Sum.inl, rfl, hc, ?_⟩
      have fp0 : F p = none := so.fh.free hp'
      have fp2 : F2 p = none := by
        rcases x12.n p _ upd_same fp0 with q | ⟨xs, q⟩
        · exact q
        · cases q
      have x3 : Ext F H F2 (upd H2 p (.dT [(ks.map Sum.inl, w)])) := ⟨x12.f, fun b u q => by rw [upd_ne (ne_of_none q hp')]; exact x12.h b u (by rw [upd_ne (ne_of_none q hp')]; exact q), fun b u q => by rw [upd_ne (ne_of_none q fp2)]; exact x12.s b u q, fun b u q n => x12.n b u (by rw [upd_ne (ne_of_none q hp')]; exact q) n⟩
      exact k _ F2 _ (so.setOwn x3 hp' ⟨p, _, rfl, so.x.h.free hp', fp2, upd_same, .cons e2 .nil⟩)
    · cases e
theorem ss_newDk {i : Nat} {x : Str} {kE vE : Expr} {a b : IE} {px p0 pos : Pos} (nd : N.Nodup) (hk : SndE M Φ N sc sc0 kE a) (hv : SndE M Φ N sc sc0 vE b) (hN : N[i]? = some x := by rfl) (hs : Sto sc sc0 x := by first | exact Or.inl rfl | exact Or.inr ⟨rfl, rfl⟩)
    (hw : ∀ env, swapsWith (.Dict [some kE] [vE] p0) (some (.Name x px)) pos.line env = pure false := by intro _; rfl) : SndS M Φ N sc sc0 (.Assign [.Name x px] (.Dict [some kE] [vE] p0) pos) (.newDk i a b) := fun X hX hp =>
  PS.imp (ps_set (by rw [hX.N]; exact nd) (by rw [hX.N]; exact hN) (hs.loc hX) (pe_dispK hX.units (hk X hX) (hv X hX)) (hw _) (hs.fn hX)) fun Dn σ H h => by
    obtain ⟨F0, H0, F, env, r, e, so, k⟩ := h
    unfold evalS at e
    split at e
    · rename_i xd q1 q2
      cases e
      intro p hp'
      have so1 := so.busy (o := .dT []) hp'
      refine ⟨F0, H0, F, env, _, q1, so1, fun v F1 H1 x1 e1 => ⟨F0, H0, F1, env, _, q2, so1.step x1, fun w F2 H2 x2 e2 => ?_⟩⟩
      have x12 := x1.trans x2
      have hp2 : H2 p = some (.dT []) := x12.h _ _ upd_same
      cases e1 with
      | @ktup bb kt =>
        rw [hX.K, hX.prog, hX.w]
        refine ⟨hp2, bb, rfl, kt, ?_⟩
        have fp0 : F p = none := so.fh.free hp'
        have fp2 : F2 p = none := by
          rcases x12.n p _ upd_same fp0 with q | ⟨xs, q⟩
          · exact q
          · cases q
        have x3 : Ext F H F2 (upd H2 p (DkAt M.P M.w p bb w)) := ⟨x12.f, fun b u q => by rw [upd_ne (ne_of_none q hp')]; exact x12.h b u (by rw [upd_ne (ne_of_none q hp')]; exact q), fun b u q => by rw [upd_ne (ne_of_none q fp2)]; exact x12.s b u q, fun b u q n => x12.n b u (by rw [upd_ne (ne_of_none q hp')]; exact q) n⟩
        exact k _ F2 _ (so.setOwn x3 hp' ⟨p, bb, w, rfl, so.x.h.free hp', fp2, upd_same, kt, e2⟩)
    · cases e
end FB

set_option Elab.async false
set_option linter.all false
set_option maxRecDepth 100000
set_option maxHeartbeats 1000000
/-! FBf: a def's body, by its value in the small language. -/
namespace FB
open PySem PySem.Spec PyProof.Rows L2
/-- what a def's body comes to: N its names, ds its arguments -/
def runS (Φ : Fn → List D → Option D) (is : IS) (N : List Str) (ds : List D) : Option D :=
  match evalS Φ is (ds.map Sl.val ++ List.replicate (N.length - ds.length) Sl.non) with
  | some (.rt d) => some d
  | some (.nx _) => some .non
  | none => none
/-- an __init__ of the class c -/
def runI (c : Nat) (Φ : Fn → List D → Option D) (is : IS) (N : List Str) (ds : List D) : Option D :=
  match evalS Φ is (Sl.ins c [] :: (ds.map Sl.val ++ List.replicate (N.length - (ds.length + 1)) Sl.non)) with
  | some (.nx (.ins e fs :: _)) => if e = c ∧ fs.length = (cnames c).length then some (.ins c fs) else none
  | _ => none
variable {M : Md} {Φ : Fn → List D → Option D} {N ps : List Str} {sc sc0 : Scope}

theorem start_len {N : List Str} {vs : List V} {ds : List D} (h : vs.length = ds.length) : (L2.start N vs).length = (ds.map Sl.val ++ List.replicate (N.length - ds.length) Sl.non).length := by
  unfold L2.start
  simp [h]
theorem start_ok {F H : Hp} (sm : Same F H) {vs : List V} {ds : List D} (ev : EncLM M F vs ds) (m : Nat) : SOk M F H F H (ds.map Sl.val ++ List.replicate m Sl.non) (vs.map some ++ List.replicate m none) := by
  have hl := ev.len
  refine ⟨.refl sm, by simp [hl], fun i s o h1 h2 => ?_, fun i j s t a _ h1 _ o1 _ _ _ => ?_⟩
  · by_cases hi : i < ds.length
    · rw [List.getElem?_append_left (by rw [List.length_map]; exact hi), List.getElem?_map] at h1
      rw [List.getElem?_append_left (by rw [List.length_map, hl]; exact hi), List.getElem?_map] at h2
      cases q : ds[i]? with
      | none => rw [q] at h1; cases h1
      | some d =>
        rw [q] at h1
        cases h1
        obtain ⟨v, e1, e2⟩ := ev.get q
        rw [e1] at h2
        cases h2
        exact ⟨v, rfl, e2⟩
    · rw [List.getElem?_append_right (by rw [List.length_map]; omega)] at h1
      rw [List.getElem?_replicate] at h1
      split at h1
      · cases h1; trivial
      · cases h1
  · exfalso
    by_cases hi : i < ds.length
    · rw [List.getElem?_append_left (by rw [List.length_map]; exact hi), List.getElem?_map] at h1
      cases q : ds[i]? with
      | none => rw [q] at h1; cases h1
      | some d => rw [q] at h1; cases h1; cases o1
    · rw [List.getElem?_append_right (by rw [List.length_map]; omega), List.getElem?_replicate] at h1
      split at h1
      · cases h1; cases o1
      · cases h1
/-- cell names are the frame's own -/
theorem xok_body {qual : Str} {scope : Scope} {f : Addr} {cd : Value} {A : Around} {outer : List Env} {s : Shared} {H : Hp} {E : XK} (hr : Room M.k (A.deeper (envOfC qual scope s.heap.objs.size f cd))) (hN : N.Nodup) :
    XOk M N scope scope (cxOf CX0 M.P M.w M.K M.mg M.base N qual scope f cd A outer s H E).nox := by
  exact ⟨rfl, rfl, rfl, rfl, rfl, rfl, rfl, rfl, hr, fun x h => rfl⟩
theorem fn_body {x qual : Str} {params : Arguments} {body : List Stmt} {scope : Scope} {dvs : List V} {kws : List (Str × V)} {f : Addr} {fd : FuncData} {is : IS} (F : FunD M.K x qual params body scope dvs kws f fd) (S : FnScope N ps scope) (hb : SndB M Φ N scope scope body is) :
    FnOk M.P M.w M.K M.mg M.base CX0 (M.k + 1) f fd ps (spD M ps.length (runS Φ is N)) := by
  refine F.ok S (fun vs H Q E h => by obtain ⟨_, _, _, h, _⟩ := h; exact h) fun cdv A outer s H vs Q E hr h => ?_
  obtain ⟨F0, ds, d, hl, sm, ev, e, k⟩ := h
  refine ⟨_, (hb _ (xok_body hr S.nd) .never).nox, ?_⟩
  unfold runS at e
  have so := start_ok (M := M) sm ev (N.length - ds.length)
  have st : L2.start N vs = vs.map some ++ List.replicate (N.length - ds.length) none := by unfold L2.start; rw [ev.len]
  split at e
  · rename_i d' q
    cases e
    refine ⟨F0, H, F0, _, _, q, by rw [st]; exact so, fun v F' H' x e' => k v F' H' x e'⟩
  · rename_i env' q
    cases e
    refine ⟨F0, H, F0, _, _, q, by rw [st]; exact so, fun σ' F' H' so' => k .non F' H' so'.x .non⟩
  · cases e
/-- an __init__ -/
theorem init_body {x qual : Str} {params : Arguments} {body : List Stmt} {scope : Scope} {dvs : List V} {kws : List (Str × V)} {f : Addr} {fd : FuncData} {is : IS} {c : Nat} (F : FunD M.K x qual params body scope dvs kws f fd) (S : FnScope N ps scope) (hb : ∀ a, SndB { M with self := a } Φ N scope scope body is) :
    FnOk M.P M.w M.K M.mg M.base CX0 (M.k + 1) f fd ps (spI M ps.length c (runI c Φ is N)) := by
  refine F.ok S (fun vs H Q E h => by obtain ⟨_, _, _, _, _, _, _, _, h, _⟩ := h; exact h) fun cdv A outer s H vs Q E hr h => ?_
  obtain ⟨H1, x, dx, vs', F0, ds, fs, rfl, hl, eH, hx, hdx, hne, sm, ev, e, k⟩ := h
  refine ⟨_, (hb x _ (xok_body (M := { M with self := x }) hr S.nd) .never).nox, ?_⟩
  unfold runI at e
  have fx : F0 x = none := sm.free hx
  have Hx : H x = some (.ins (M.CA c) dx []) := by rw [eH]; exact upd_same
  have sH : Same H1 H := fun b u q => by
    rw [eH, upd_ne (ne_of_none q hx), upd_ne (ne_of_none q hdx)]; exact q
  have xt : Ext F0 H1 F0 H := ⟨Same.refl F0, sH, fun b u q => sH b u (sm b u q), fun a u q n => .inl n⟩
  have so0 := start_ok (M := { M with self := x }) sm ev (N.length - (ds.length + 1))
  have so : SOk { M with self := x } F0 H1 F0 H (Sl.ins c [] :: (ds.map Sl.val ++ List.replicate (N.length - (ds.length + 1)) Sl.non)) (some (.ref x) :: (vs'.map some ++ List.replicate (N.length - (ds.length + 1)) none)) := by
    have so1 := so0.step xt
    refine ⟨so1.x, by rw [List.length_cons, List.length_cons, so1.len], fun i s o h1 h2 => ?_, fun i j s t a hn h1 h2 o1 o2 h3 h4 => ?_⟩
    · cases i with
      | zero =>
        cases (Option.some.inj h1)
        cases (Option.some.inj h2)
        exact ⟨x, dx, [], rfl, hx, fx, by simpa using Hx, Nat.zero_le _, .nil, rfl⟩
      | succ i => exact so1.sl i s o (by simpa using h1) (by simpa using h2)
    · have no : ∀ {l : Nat} {s : Sl}, (Sl.ins c [] :: (ds.map Sl.val ++ List.replicate (N.length - (ds.length + 1)) Sl.non))[l]? = some s → s.own = true → l = 0 := fun {l s} q1 q2 => by
        cases l with
        | zero => rfl
        | succ l =>
          exfalso
          rw [List.getElem?_cons_succ] at q1
          by_cases hi : l < ds.length
          · rw [List.getElem?_append_left (by rw [List.length_map]; exact hi), List.getElem?_map] at q1
            cases q : ds[l]? with
            | none => rw [q] at q1; cases q1
            | some d => rw [q] at q1; cases q1; cases q2
          · rw [List.getElem?_append_right (by rw [List.length_map]; omega), List.getElem?_replicate] at q1
            split at q1
            · cases q1; cases q2
            · cases q1
      exact hn ((no h1 o1).trans (no h2 o2).symm)
  have st : L2.start N (.ref x :: vs') = some (.ref x) :: (vs'.map some ++ List.replicate (N.length - (ds.length + 1)) none) := by
    unfold L2.start
    rw [List.length_cons, ev.len]
    rfl
  split at e
  · rename_i c' fs' rest q
    split at e
    · rename_i hc
      obtain ⟨hc1, hc2⟩ := hc
      subst hc1
      cases e
      refine ⟨F0, H1, F0, _, _, q, by rw [st]; exact so, fun σ' F' H' so' => ?_⟩
      obtain ⟨o, hσ, a, dx', ws, rfl, h0, hf, ha, hl', ev', hs⟩ := so'.at (i := 0) rfl
      cases hs
      exact k F' H' dx' ws so'.x hf ha (by rw [EncL.len ev', hc2]) ev'
    · cases e
  · cases e
end FB

set_option Elab.async false
set_option linter.all false
set_option maxRecDepth 100000
set_option maxHeartbeats 1000000
/-! FBz: list(zip(t, u)), t and u tuples of one length. -/
namespace FB.Zp
open PySem PySem.Spec PyProof.Rows
open PySem.Sem (wp)
section
variable {prog : Program} {w : World} {A : Around} {E : Value → Shared → Prop} {s : Shared}
/-- the zip object as it stands -/
abbrev IsZ (h : Heap) (z TI TO : Addr) (f0 : Value) (f : Bool) : Prop :=
  h.get? z = some { cls := .type "zip", dict := none, data := .fields #[f0, .bool f, .bool false, .ref TI, .ref TO], slots := #[] }
theorem freeZ {z TI TO a : Addr} {f : Bool} {oa : Obj} {Q : Bool → Shared → Prop} (hz : IsZ s.heap z TI TO (rawInt a) f) (ha : s.heap.get? a = some oa)
    (h : ∀ h₁ : Heap, IsZ h₁ z TI TO (rawInt a) true → Heap.SameBut z s.heap h₁ → Q false { s with heap := h₁ }) : wpAny (model prog w) A (Builtin.SmallTypes.ownedTupleIsFree (.ref z)) Q E s := by
  unfold Builtin.SmallTypes.ownedTupleIsFree
  refine wpAny_bind (wpAny_field hz rfl (x := rawInt a) rfl ?_)
  show wpAny _ _ (loadIfAlive ((a : Int).toNat) >>= _) _ _ _
  rw [Int.toNat_natCast]
  refine wpAny_bind (PySem.W.kdx_alive ha ?_)
  simp only [Option.isNone_some, Bool.false_eq_true, if_false]
  refine wpAny_bind (wpAny_field hz rfl (x := .bool f) rfl ?_)
  cases f with
  | true =>
    rw [if_neg (show ¬ ((Value.bool true != Value.bool true) = true) from Bool.false_ne_true)]
    exact wpAny_pure (h _ hz (Heap.SameBut.refl _ _))
  | false =>
    rw [if_pos (show (Value.bool false != Value.bool true) = true from rfl)]
    refine wpAny_bind (wpAny_setField_rec hz (by simp) fun h₃ he₃ hs₃ => ?_)
    exact wpAny_pure (h h₃ he₃ hs₃)
theorem nextZ {z TI TO i1 i2 l1 l2 a : Addr} {f : Bool} {oa : Obj} {k : Nat} {xs ys : Array Value} {x y : Value} {Q : Value → Shared → Prop} (D : ZipApart z TI TO i1 i2 l1 l2)
    (hz : IsZ s.heap z TI TO (rawInt a) f) (ha : s.heap.get? a = some oa) (hTI : IsPair s.heap TI (.ref i1) (.ref i2))
    (h1 : s.heap.IsTupleIter i1 l1 k) (h2 : s.heap.IsTupleIter i2 l2 k) (hl1 : s.heap.IsTuple l1 xs) (hl2 : s.heap.IsTuple l2 ys) (hx : xs[k]? = some x) (hy : ys[k]? = some y)
    (hQ : ∀ h', IsZ h' z TI TO (rawInt a) true → h'.IsTupleIter i1 l1 (k + 1) → h'.IsTupleIter i2 l2 (k + 1) → IsPair h' s.heap.objs.size x y → h'.objs.size = s.heap.objs.size + 1 →
      (∀ c o, c ≠ z → c ≠ i1 → c ≠ i2 → s.heap.get? c = some o → h'.get? c = some o) → Q (.ref s.heap.objs.size) { s with heap := h' }) :
    wpAny (model prog w) A (Builtin.«zip.__next__» ⟨[.ref z], []⟩) (fun fin s' => ∃ v, fin = .done (.ret v) ∧ Q v s') E s := by
  show wpAny _ _ (field (.ref z) 2 >>= _) _ _ _
  refine wpAny_bind (wpAny_field hz rfl (x := .bool false) rfl ?_)
  show wpAny _ _ (field (.ref z) 3 >>= _) _ _ _
  refine wpAny_bind (wpAny_field hz rfl (x := .ref TI) rfl ?_)
  refine wpAny_bind (wpAny_seqItems hTI rfl ?_)
  show wpAny _ _ (Builtin.SmallTypes.ownedTupleIsFree (.ref z) >>= _) _ _ _
  refine wpAny_bind (freeZ hz ha fun h₁ hz₁ hs₁ => ?_)
  simp only [Bool.false_eq_true, if_false]
  refine wpAny_bind ?_
  rw [← Array.forIn_toList]
  simp only [List.forIn_cons, List.forIn_nil]
  refine wpAny_bind (wpAny_bind (wpAny_holding ?_))
  show wpAny _ _ (Builtin.SmallTypes.nextOf (.ref i1) >>= _) _ _ _
  refine wpAny_bind (RZ.nextOf_tuple_item (h1.extBut hs₁.extBut D.i1z) (hl1.extBut hs₁.extBut D.l1z) hx fun h₂ h1₂ hs₂ => wpAny_pure (wpAny_pure ?_))
  refine wpAny_bind (wpAny_bind (wpAny_holding ?_))
  show wpAny _ _ (Builtin.SmallTypes.nextOf (.ref i2) >>= _) _ _ _
  refine wpAny_bind (RZ.nextOf_tuple_item ((h2.extBut hs₁.extBut D.i2z).extBut hs₂.extBut D.i12.symm) ((hl2.extBut hs₁.extBut D.l2z).extBut hs₂.extBut D.l2i1) hy fun h₃ h2₃ hs₃ => wpAny_pure (wpAny_pure (wpAny_pure ?_)))
  have hsz : h₃.objs.size = s.heap.objs.size := by rw [hs₃.1, hs₂.1, hs₁.1]
  have hz₃ : IsZ h₃ z TI TO (rawInt a) true := hs₃.extBut _ _ D.i2z.symm (hs₂.extBut _ _ D.i1z.symm hz₁)
  refine wpAny_bind (wpAny_newTuple (hsz := by show 2 ≤ sizeLine; decide) ?_)
  have hk : ∀ c o, c ≠ z → c ≠ i1 → c ≠ i2 → s.heap.get? c = some o → h₃.get? c = some o := fun c o c1 c3 c4 e => hs₃.extBut _ _ c4 (hs₂.extBut _ _ c3 (hs₁.extBut _ _ c1 e))
  have up : ∀ c o, h₃.get? c = some o → (h₃.push { cls := .type "tuple", data := .seq #[x, y] }).get? c = some o := fun c o e => Heap.get?_push_of_some _ e
  refine wpAny_pure ⟨_, rfl, ?_⟩
  show Q (.ref h₃.objs.size) { s with heap := h₃.push { cls := .type "tuple", data := .seq #[x, y] } }
  rw [hsz]
  exact hQ _ (up _ _ hz₃) ((h1₂.extBut hs₃.extBut D.i12).at fun o e => up _ o e) (h2₃.at fun o e => up _ o e) (by rw [← hsz]; exact Heap.get?_push_size _ rfl) (by rw [Heap.size_push, hsz]) fun c o c1 c3 c4 e => up _ _ (hk c o c1 c3 c4 e)
theorem endZ {z TI TO i1 i2 l1 l2 a : Addr} {f : Bool} {oa : Obj} {k : Nat} {xs ys : Array Value} {Q : Fin → Shared → Prop} (hh : A.handled = none) (D : ZipApart z TI TO i1 i2 l1 l2)
    (hz : IsZ s.heap z TI TO (rawInt a) f) (ha : s.heap.get? a = some oa) (hTI : IsPair s.heap TI (.ref i1) (.ref i2)) (h1 : s.heap.IsTupleIter i1 l1 k) (hl1 : s.heap.IsTuple l1 xs) (hx : xs[k]? = none)
    (hE : ∀ h' e, (∀ c o, c ≠ z → c ≠ i1 → s.heap.get? c = some o → h'.get? c = some o) → (∃ o, h'.get? e = some o ∧ o.cls = .type "StopIteration") → E (.ref e) { s with heap := h' }) :
    wpAny (model prog w) A (Builtin.«zip.__next__» ⟨[.ref z], []⟩) Q E s := by
  show wpAny _ _ (field (.ref z) 2 >>= _) _ _ _
  refine wpAny_bind (wpAny_field hz rfl (x := .bool false) rfl ?_)
  show wpAny _ _ (field (.ref z) 3 >>= _) _ _ _
  refine wpAny_bind (wpAny_field hz rfl (x := .ref TI) rfl ?_)
  refine wpAny_bind (wpAny_seqItems hTI rfl ?_)
  show wpAny _ _ (Builtin.SmallTypes.ownedTupleIsFree (.ref z) >>= _) _ _ _
  refine wpAny_bind (freeZ hz ha fun h₁ hz₁ hs₁ => ?_)
  simp only [Bool.false_eq_true, if_false]
  refine wpAny_bind ?_
  rw [← Array.forIn_toList]
  simp only [List.forIn_cons, List.forIn_nil]
  refine wpAny_bind (wpAny_bind (wpAny_holding ?_))
  show wpAny _ _ (Builtin.SmallTypes.nextOf (.ref i1) >>= _) _ _ _
  refine wpAny_bind (RZ.nextOf_tuple_end hh (h1.extBut hs₁.extBut D.i1z) (hl1.extBut hs₁.extBut D.l1z) hx fun h₂ e hs₂ he => ?_)
  exact hE h₂ e (fun c o c1 c3 q => hs₂ _ _ c3 (hs₁.extBut _ _ c1 q)) he
theorem pyNextZ {z TI TO i1 i2 l1 l2 a : Addr} {f : Bool} {oa : Obj} {k : Nat} {xs ys : Array Value} {x y : Value} {Q : Option Value → Shared → Prop} (D : ZipApart z TI TO i1 i2 l1 l2)
    (hz : IsZ s.heap z TI TO (rawInt a) f) (ha : s.heap.get? a = some oa) (hTI : IsPair s.heap TI (.ref i1) (.ref i2))
    (h1 : s.heap.IsTupleIter i1 l1 k) (h2 : s.heap.IsTupleIter i2 l2 k) (hl1 : s.heap.IsTuple l1 xs) (hl2 : s.heap.IsTuple l2 ys) (hx : xs[k]? = some x) (hy : ys[k]? = some y)
    (hQ : ∀ h', IsZ h' z TI TO (rawInt a) true → h'.IsTupleIter i1 l1 (k + 1) → h'.IsTupleIter i2 l2 (k + 1) → IsPair h' s.heap.objs.size x y → h'.objs.size = s.heap.objs.size + 1 →
      (∀ c o, c ≠ z → c ≠ i1 → c ≠ i2 → s.heap.get? c = some o → h'.get? c = some o) → Q (some (.ref s.heap.objs.size)) { s with heap := h' }) : wpAny (model prog w) A (pyNext (.ref z)) Q E s := by
  have hT : s.TypeIs (.ref z) "zip" := ⟨_, hz, rfl⟩
  unfold pyNext
  exact wpAny_bind (wpAny_attempt (wpAny_callSpecial?_slot (name := Str.ofString "__next__") hT F.slot_zip_next
    (wpAny_call_entry F.slot_zip_next hT F.entry_zip_next (nextZ D hz ha hTI h1 h2 hl1 hl2 hx hy fun h' a1 a3 a4 a5 a6 a7 => wpAny_pure (hQ h' a1 a3 a4 a5 a6 a7)) (F.args_zip_next_1 _))))
theorem pyNextZ_end {z TI TO i1 i2 l1 l2 a : Addr} {f : Bool} {oa : Obj} {k : Nat} {xs : Array Value} {Q : Option Value → Shared → Prop} (hh : A.handled = none) (D : ZipApart z TI TO i1 i2 l1 l2)
    (hz : IsZ s.heap z TI TO (rawInt a) f) (ha : s.heap.get? a = some oa) (hTI : IsPair s.heap TI (.ref i1) (.ref i2)) (h1 : s.heap.IsTupleIter i1 l1 k) (hl1 : s.heap.IsTuple l1 xs) (hx : xs[k]? = none)
    (hQ : ∀ h', (∀ c o, c ≠ z → c ≠ i1 → s.heap.get? c = some o → h'.get? c = some o) → Q none { s with heap := h' }) : wpAny (model prog w) A (pyNext (.ref z)) Q E s := by
  have hT : s.TypeIs (.ref z) "zip" := ⟨_, hz, rfl⟩
  unfold pyNext
  refine wpAny_bind (wpAny_attempt (wpAny_callSpecial?_slot (name := Str.ofString "__next__") hT F.slot_zip_next
    (wpAny_call_entry F.slot_zip_next hT F.entry_zip_next (endZ (ys := xs) hh D hz ha hTI h1 hl1 hx fun h' e hk he => ?_) (F.args_zip_next_1 _))))
  obtain ⟨o, ho, hc⟩ := he
  refine wpAny_bind (wpAny_isInstance (T := "StopIteration") (b := true) ⟨o, ho, hc⟩ isSubtype_stop ?_)
  exact wpAny_pure (hQ _ hk)
end
/-- where the walk stands -/
structure Zs (h : Heap) (S z TI TO i1 i2 l1 l2 : Addr) (xs ys : Array Value) (i : Nat) : Prop where
  ti : IsPair h TI (.ref i1) (.ref i2)
  it1 : h.IsTupleIter i1 l1 i
  it2 : h.IsTupleIter i2 l2 i
  t1 : h.IsTuple l1 xs
  t2 : h.IsTuple l2 ys
  st : (i = 0 ∧ IsZip h z TI TO .none ∧ ∃ p q, IsPair h TO p q) ∨ ∃ (a : Addr) (f : Bool) (oa : Obj), IsZ h z TI TO (rawInt a) f ∧ h.get? a = some oa ∧ S < a
/-- S stands above them all -/
structure Low (S z TI TO i1 i2 l1 l2 : Addr) : Prop where
  z : z < S
  ti : TI < S
  to : TO < S
  i1 : i1 < S
  i2 : i2 < S
  l1 : l1 < S
  l2 : l2 < S
theorem Zs.keep {h h' : Heap} {S z TI TO i1 i2 l1 l2 : Addr} {xs ys : Array Value} {i : Nat} (x : Zs h S z TI TO i1 i2 l1 l2 xs ys i) (L : Low S z TI TO i1 i2 l1 l2) (k : ∀ b o, b ≠ S → h.get? b = some o → h'.get? b = some o) : Zs h' S z TI TO i1 i2 l1 l2 xs ys i :=
  ⟨k _ _ (Nat.ne_of_lt L.ti) x.ti, x.it1.at fun o e => k _ o (Nat.ne_of_lt L.i1) e, x.it2.at fun o e => k _ o (Nat.ne_of_lt L.i2) e, x.t1.at fun o e => k _ o (Nat.ne_of_lt L.l1) e, x.t2.at fun o e => k _ o (Nat.ne_of_lt L.l2) e,
    x.st.elim (fun ⟨e, a, p, q, b⟩ => .inl ⟨e, k _ _ (Nat.ne_of_lt L.z) a, p, q, k _ _ (Nat.ne_of_lt L.to) b⟩) fun ⟨a, f, oa, e1, e2, e3⟩ => .inr ⟨a, f, oa, k _ _ (Nat.ne_of_lt L.z) e1, k _ _ (Nat.ne_of_gt e3) e2, e3⟩⟩
/-- the pairs that were made -/
structure Mz (xs ys : Array Value) (lo : Addr) (h : Heap) (as : List Addr) : Prop where
  rise : as.Pairwise (· < ·)
  above : ∀ a ∈ as, lo < a
  pairs : ∀ (j : Nat) (a : Addr), as[j]? = some a → ∃ x y, xs[j]? = some x ∧ ys[j]? = some y ∧ IsPair h a x y
theorem Mz.there {xs ys : Array Value} {lo : Addr} {h : Heap} {as : List Addr} (g : Mz xs ys lo h as) {a : Addr} (ha : a ∈ as) : a < h.objs.size := by
  obtain ⟨j, hj⟩ := List.mem_iff_getElem?.mp ha
  obtain ⟨_, _, _, _, e⟩ := g.pairs j a hj
  exact Heap.lt_size e
section
variable {prog : Program} {w : World} {A : Around} {s : Shared} {R : Result → Shared → Prop} {S z TI TO i1 i2 l1 l2 : Addr} {xs ys : Array Value}
/-- one step, wherever it stands -/
theorem stepZ {E : Value → Shared → Prop} {i : Nat} {x y : Value} {Q : Option Value → Shared → Prop} (D : ZipApart z TI TO i1 i2 l1 l2) (L : Low S z TI TO i1 i2 l1 l2) (hS : S < s.heap.objs.size) (st : Zs s.heap S z TI TO i1 i2 l1 l2 xs ys i) (hx : xs[i]? = some x) (hy : ys[i]? = some y)
    (hQ : ∀ h', Zs h' S z TI TO i1 i2 l1 l2 xs ys (i + 1) → IsPair h' s.heap.objs.size x y → h'.objs.size = s.heap.objs.size + 1 → (∀ c o, c ≠ z → c ≠ TO → c ≠ i1 → c ≠ i2 → s.heap.get? c = some o → h'.get? c = some o) → Q (some (.ref s.heap.objs.size)) { s with heap := h' }) :
    wpAny (model prog w) A (pyNext (.ref z)) Q E s := by
  rcases st.st with ⟨e, hz, p, q, hTO⟩ | ⟨a, f, oa, hz, ha, hSa⟩
  · subst e
    refine RZ.pyNext_zipT_item D hz st.ti hTO st.it1 st.it2 st.t1 st.t2 hx hy fun h' a1 a2 a3 a4 a5 a6 a7 => ?_
    exact hQ h' ⟨a7 _ _ D.TIz D.TITO D.TIi1 D.TIi2 st.ti, a3, a4, st.t1.at fun o e => a7 _ o D.l1z D.l1TO D.l1i1 D.l1i2 e, st.t2.at fun o e => a7 _ o D.l2z D.l2TO D.l2i1 D.l2i2 e, .inr ⟨_, false, _, a1, a5, hS⟩⟩ a5 a6 a7
  · refine pyNextZ D hz ha st.ti st.it1 st.it2 st.t1 st.t2 hx hy fun h' a1 a3 a4 a5 a6 a7 => ?_
    have na : ∀ {b}, b < S → a ≠ b := fun hb => Nat.ne_of_gt (Nat.lt_trans hb hSa)
    exact hQ h' ⟨a7 _ _ D.TIz D.TIi1 D.TIi2 st.ti, a3, a4, st.t1.at fun o e => a7 _ o D.l1z D.l1i1 D.l1i2 e, st.t2.at fun o e => a7 _ o D.l2z D.l2i1 D.l2i2 e, .inr ⟨a, true, _, a1, a7 _ _ (na L.z) (na L.i1) (na L.i2) ha, hSa⟩⟩ a5 a6 fun c o c1 _ c3 c4 e => a7 c o c1 c3 c4 e
theorem loopZ (hh : A.handled = none) (D : ZipApart z TI TO i1 i2 l1 l2) (L : Low S z TI TO i1 i2 l1 l2) (hxy : xs.size = ys.size) (h0 : 0 < xs.size) (hn : xs.size ≤ sizeLine) (res : Value) {h₁ : Heap}
    (hR : ∀ h' tk acc c as, (∀ b o, b ≠ S → b ≠ z → b ≠ TO → b ≠ i1 → b ≠ i2 → h₁.get? b = some o → h'.get? b = some o) → h'.get? S = some { cls := .type "list", dict := none, data := .seq acc c, slots := #[] } → as.length = xs.size → Mz xs ys S h' as →
      acc.toList = as.map Value.ref → R (.ok (.ret res)) { s with heap := h', toks := tk }) :
    ∀ (k i : Nat) (h : Heap) (tk c : Nat) (acc : Array Value) (as : List Addr), xs.size - i = k → i ≤ xs.size → Zs h S z TI TO i1 i2 l1 l2 xs ys i → (∀ b o, b ≠ S → b ≠ z → b ≠ TO → b ≠ i1 → b ≠ i2 → h₁.get? b = some o → h.get? b = some o) →
      h.get? S = some { cls := .type "list", dict := none, data := .seq acc c, slots := #[] } → acc.toList = as.map Value.ref → as.length = i → Mz xs ys S h as →
      codeAny (model prog w) A (.builtin "list.extend.loop" ⟨[.ref S, .ref z, res], []⟩) R { s with heap := h, toks := tk } := by
  intro k
  have nS : ∀ {b}, b < S → S ≠ b := fun hb => Nat.ne_of_gt hb
  induction k with
  | zero =>
    intro i h tk c acc as hk hi hst hkeep hS hacc hal hG
    refine codeAny_builtin PySem.F.entry_extend_loop ?_
    rw [Around.under_plainId PySem.F.plain_extend_loop _]
    show wpAny _ A.in1 (pyNext (.ref z) >>= _) _ _ _
    have hii : i = xs.size := by omega
    rcases hst.st with ⟨e, _⟩ | ⟨a, f, oa, hz, ha, hSa⟩
    · omega
    refine wpAny_bind (pyNextZ_end (s := { s with heap := h, toks := tk }) (A := A.in1) hh D hz ha hst.ti hst.it1 hst.t1 (Array.getElem?_eq_none (by omega)) fun h' he => ?_)
    refine wpAny_pure (hR h' tk acc c as (fun b o h1 h2 h3 h4 h5 e => he b o h2 h4 (hkeep b o h1 h2 h3 h4 h5 e)) (he S _ (nS L.z) (nS L.i1) hS) (by omega) ⟨hG.rise, hG.above, fun j a hj => ?_⟩ hacc)
    obtain ⟨x, y, e1, e2, e3⟩ := hG.pairs j a hj
    have hb := hG.above a (List.mem_of_getElem? hj)
    exact ⟨x, y, e1, e2, he a _ (Nat.ne_of_gt (Nat.lt_trans L.z hb)) (Nat.ne_of_gt (Nat.lt_trans L.i1 hb)) e3⟩
  | succ k ih =>
    intro i h tk c acc as hk hi hst hkeep hS hacc hal hG
    have hlt : i < xs.size := by omega
    have hsz : acc.size = i := by rw [← Array.length_toList, hacc, List.length_map, hal]
    refine codeAny_builtin PySem.F.entry_extend_loop ?_
    rw [Around.under_plainId PySem.F.plain_extend_loop _]
    show wpAny _ A.in1 (pyNext (.ref z) >>= _) _ _ _
    have hSl : S < h.objs.size := Heap.lt_size hS
    refine wpAny_bind (stepZ (s := { s with heap := h, toks := tk }) D L hSl hst (Array.getElem?_eq_getElem hlt) (Array.getElem?_eq_getElem (by omega)) fun h' hst' ht hz hkp => ?_)
    dsimp only at ht hz hkp ⊢
    have hS' := hkp S _ (nS L.z) (nS L.to) (nS L.i1) (nS L.i2) hS
    have up : ∀ b o, b ≠ S → h'.get? b = some o → (h'.update S (Obj.mapSeq (·.push (Value.ref h.objs.size)))).get? b = some o := fun b o hb e => (Heap.get?_update_other _ _ (Ne.symm hb)).trans e
    show wpAny _ A.in1 (updateSeq S (·.push (Value.ref h.objs.size)) >>= _) _ _ _
    refine wpAny_bind ?_
    refine wpAny_updateSeq hS' rfl (wpAny_pure ⟨plainId_quiet PySem.F.plain_extend_loop _, ih (i + 1) _ tk _ (acc.push (Value.ref h.objs.size)) (as ++ [h.objs.size]) (by omega) hlt (hst'.keep L up)
      (fun b o h1 h2 h3 h4 h5 e => up b o h1 (hkp b o h2 h3 h4 h5 (hkeep b o h1 h2 h3 h4 h5 e))) (Heap.get?_update_self _ hS' rfl) (by rw [Array.toList_push, hacc, List.map_append]; rfl) (by rw [List.length_append, hal]; rfl) ⟨?_, ?_, ?_⟩⟩) (by rw [hsz]; omega) (by show (acc.push (Value.ref h.objs.size)).size ≤ sizeLine + 1; rw [Array.size_push, hsz]; omega)
    · refine List.pairwise_append.mpr ⟨hG.rise, List.pairwise_singleton _ _, fun a ha b hb => ?_⟩
      rw [List.mem_singleton.mp hb]
      exact hG.there ha
    · intro a ha
      rcases List.mem_append.mp ha with ha | ha
      · exact hG.above a ha
      · rw [List.mem_singleton.mp ha]; exact hSl
    · intro j b hj
      rcases Nat.lt_trichotomy j as.length with h1 | h1 | h1
      · rw [List.getElem?_append_left h1] at hj
        obtain ⟨x, y, e1, e2, e3⟩ := hG.pairs j b hj
        have hb := hG.above b (List.mem_of_getElem? hj)
        have nb : ∀ {c}, c < S → b ≠ c := fun hc => Nat.ne_of_gt (Nat.lt_trans hc hb)
        exact ⟨x, y, e1, e2, up b _ (Nat.ne_of_gt hb) (hkp b _ (nb L.z) (nb L.to) (nb L.i1) (nb L.i2) e3)⟩
      · subst h1
        have hb : h.objs.size = b := by simpa using hj
        subst hb
        subst hal
        exact ⟨_, _, Array.getElem?_eq_getElem hlt, Array.getElem?_eq_getElem (by omega), up _ _ (Nat.ne_of_gt hSl) ht⟩
      · have hnone : (as ++ [h.objs.size])[j]? = none := List.getElem?_eq_none (by rw [List.length_append, List.length_singleton]; omega)
        rw [hnone] at hj; cases hj
theorem hintZ {E : Value → Shared → Prop} (hT : s.TypeIs (.ref z) "zip") {Q : Bool → Shared → Prop} (h : Q true s) : wpAny (model prog w) A (Builtin.List.listLengthHint (.ref z)) Q E s := by
  have e1 : typeLookup (.type "zip") "__len__" = pure none := by rw [typeLookup_type, builtinLookup_eq_fast]; kernel_rfl
  have e2 : typeLookup (.type "zip") "__length_hint__" = pure none := by rw [typeLookup_type, builtinLookup_eq_fast]; kernel_rfl
  unfold Builtin.List.listLengthHint
  refine wpAny_bind (wpAny_specialOf hT e1 ?_)
  refine wpAny_bind (wpAny_specialOf hT e2 ?_)
  exact wpAny_pure h
theorem extZ (hh : A.handled = none) (D : ZipApart z TI TO i1 i2 l1 l2) (L : Low S z TI TO i1 i2 l1 l2) (hxy : xs.size = ys.size) (h0 : 0 < xs.size) (hn : xs.size ≤ sizeLine) (res : Value) (c₀ : Nat) (hS : s.heap.get? S = some { cls := .type "list", data := .seq #[] c₀ })
    (hz : IsZip s.heap z TI TO .none) (st : Zs s.heap S z TI TO i1 i2 l1 l2 xs ys 0)
    (hR : ∀ h' tk acc c as, (∀ b o, b ≠ S → b ≠ z → b ≠ TO → b ≠ i1 → b ≠ i2 → s.heap.get? b = some o → h'.get? b = some o) → h'.get? S = some { cls := .type "list", dict := none, data := .seq acc c, slots := #[] } → as.length = xs.size → Mz xs ys S h' as →
      acc.toList = as.map Value.ref → R (.ok (.ret res)) { s with heap := h', toks := tk }) :
    wpAny (model prog w) A.in1 (Builtin.List.listExtendWith (.ref S) (.ref z) res)
      (fun fin s' => match fin with | .done f => R (.ok f) s' | .again c' => c'.quiet = true ∧ codeAny (model prog w) A c' R s') (fun e s' => R (.error e) s') s := by
  have hT : s.TypeIs (.ref z) "zip" := ⟨_, hz, rfl⟩
  have key : ∀ (h : Heap) (c₁ tk : Nat), (∀ b o, b ≠ S → s.heap.get? b = some o → h.get? b = some o) → h.get? S = some { cls := .type "list", data := .seq #[] c₁ } → codeAny (model prog w) A (.builtin "list.extend.loop" ⟨[.ref S, .ref z, res], []⟩) R { s with heap := h, toks := tk } := by
    intro h c₁ tk hk hS₁
    exact loopZ (s := s) (h₁ := s.heap) hh D L hxy h0 hn res hR xs.size 0 h tk c₁ #[] [] (Nat.sub_zero _) (Nat.zero_le _) (st.keep L hk) (fun b o hb _ _ _ _ e => hk b o hb e) hS₁ rfl rfl
      ⟨List.Pairwise.nil, (fun _ ha => nomatch ha), (fun j a hj => by simp at hj)⟩
  unfold Builtin.List.listExtendWith
  refine wpAny_bind (wpAny_typeOf (T := "zip") hT ?_)
  have h1 : Builtin.List.listSameRef (.ref S) (.ref z) = false := by simp [Builtin.List.listSameRef, Nat.ne_of_gt L.z]
  have h2 : (Value.type "zip" == Value.type "list") = false := by decide
  have h3 : (Value.type "zip" == Value.type "tuple") = false := by decide
  simp only [h1, h2, h3, Bool.or_false, Bool.false_eq_true, if_false]
  refine wpAny_bind (wpAny_pyIter_zip hz ?_)
  refine wpAny_bind (wpAny_holding (hintZ hT ?_))
  refine wpAny_ite_split (fun _ => ?_) (fun _ => wpAny_pure ⟨plainId_quiet PySem.F.plain_extend_loop _, key _ c₀ _ (fun b o _ e => e) hS⟩)
  refine wpAny_bind (wpAny_rule ?_)
  refine wpAny_bind ?_
  show wpAny _ _ (updateSeq S (·.push .none) >>= fun _ => updateSeq S (·.pop)) _ _ _
  refine wpAny_bind (wpAny_updateSeq hS rfl ?_)
  have hS₂ := Heap.get?_update_self (Obj.mapSeq (·.push Value.none)) hS rfl
  refine wpAny_updateSeq (hz := by seq_fits) hS₂ rfl ?_
  have hS₃ := Heap.get?_update_self (Obj.mapSeq (·.pop)) hS₂ rfl
  refine wpAny_pure ⟨plainId_quiet PySem.F.plain_extend_loop _, key _ _ _ (fun b o hb e => ?_) hS₃⟩
  exact (Heap.get?_update_other _ _ (Ne.symm hb)).trans ((Heap.get?_update_other _ _ (Ne.symm hb)).trans e)
/-- list(z), z a zip that was just made -/
theorem call_listZ {E : Value → Shared → Prop} {Q : Value → Shared → Prop} (hh : A.handled = none) (D : ZipApart z TI TO i1 i2 l1 l2) (L : Low s.heap.objs.size z TI TO i1 i2 l1 l2) (hxy : xs.size = ys.size) (h0 : 0 < xs.size) (hn : xs.size ≤ sizeLine)
    (hz : IsZip s.heap z TI TO .none) (st : Zs s.heap s.heap.objs.size z TI TO i1 i2 l1 l2 xs ys 0)
    (hQ : ∀ h' tk acc c as, (∀ b o, b ≠ z → b ≠ TO → b ≠ i1 → b ≠ i2 → s.heap.get? b = some o → h'.get? b = some o) → h'.get? s.heap.objs.size = some { cls := .type "list", dict := none, data := .seq acc c, slots := #[] } → as.length = xs.size → Mz xs ys s.heap.objs.size h' as →
      acc.toList = as.map Value.ref → Q (.ref s.heap.objs.size) { s with heap := h', toks := tk }) : wpAny (model prog w) A (call (.type "list") [.ref z]) Q E s := by
  refine callType_codes (Q₁ := fun obj s₁ => obj = .ref s.heap.objs.size ∧ s₁ = { s with heap := s.heap.push { cls := .type "list", data := .seq #[] } }) PySem.F.called_list (PySem.F.typeCall_list_1 _) PySem.F.entry_list_init
    (code_list_new _ ⟨rfl, rfl⟩) fun obj s₁ h₁ => ?_
  obtain ⟨rfl, rfl⟩ := h₁
  have kp : ∀ b o, b ≠ s.heap.objs.size → s.heap.get? b = some o → (s.heap.push { cls := .type "list", data := .seq #[] }).get? b = some o := fun b o _ e => Heap.get?_push_of_some _ e
  have hS : (s.heap.push { cls := .type "list", data := .seq #[] }).get? s.heap.objs.size = some { cls := .type "list", data := .seq #[] } := Heap.get?_push_size _ rfl
  refine ⟨⟨_, hS, rfl⟩, PySem.F.args_list_init_2 _ _, ?_⟩
  show wpAny _ _ (do let old ← Builtin.List.listItems (.ref s.heap.objs.size); Builtin.List.listUpdate (.ref s.heap.objs.size) (fun _ => #[]); letGo old.toList.reverse; Builtin.List.listExtendWith (.ref s.heap.objs.size) (.ref z) .none) _ _ _
  refine wpAny_bind ?_
  unfold Builtin.List.listItems
  refine wpAny_bind (wpAny_seqItems hS rfl (wpAny_pure ?_))
  show wpAny _ _ (updateSeq s.heap.objs.size (fun _ => #[]) >>= fun _ => letGo (#[] : Array Value).toList.reverse >>= fun _ => Builtin.List.listExtendWith (.ref s.heap.objs.size) (.ref z) .none) _ _ _
  refine wpAny_bind (wpAny_updateSeq hS rfl ?_)
  have hS₂ := Heap.get?_update_self (Obj.mapSeq (fun _ => (#[] : Array Value))) hS rfl
  have oth : ∀ b o, b ≠ s.heap.objs.size → s.heap.get? b = some o → ((s.heap.push { cls := .type "list", data := .seq #[] }).update s.heap.objs.size (Obj.mapSeq (fun _ => (#[] : Array Value)))).get? b = some o :=
    fun b o hb e => (Heap.get?_update_other _ _ (Ne.symm hb)).trans (kp b o hb e)
  refine wpAny_bind (wpAny_letGo ?_)
  refine extZ (A := A.in1) hh D L hxy h0 hn .none _ hS₂ (oth _ _ (Nat.ne_of_lt L.z) hz) (st.keep L oth) fun h' tk acc c as hk hS' hl hG hacc => ?_
  exact ⟨rfl, hQ h' tk acc c as (fun b o h2 h3 h4 h5 e => hk b o (Nat.ne_of_lt (Heap.lt_size e)) h2 h3 h4 h5 (oth b o (Nat.ne_of_lt (Heap.lt_size e)) e)) hS' hl hG hacc⟩
end
end FB.Zp

set_option Elab.async false
set_option linter.all false
set_option maxRecDepth 100000
set_option maxHeartbeats 1000000
/-! FBz2: list(zip(t, u)): the rule. -/
namespace FB
open PySem PySem.Spec PyProof.Rows L2
variable {M : Md} {Φ : Fn → List D → Option D} {N : List Str} {sc sc0 : Scope} {X : Cx}
theorem takeZ {pins : List (Addr × Obj)} {σ : L2.St} {H0 : Hp} {s : Shared} {h' : Heap} {tk : Nat} (I0 : Inv X pins σ H0 s) : ∀ (L : List (Addr × (V × D) × (V × D))) (F H1 : Hp), Inv X pins σ H1 { s with heap := h', toks := tk } → Same F H1 → (L.map (·.1)).Nodup →
    (∀ e ∈ L, s.heap.objs.size ≤ e.1 ∧ H1 e.1 = none ∧ (∀ H2, ObjOk X.prog X.w H2 h' e.1 (.tup [e.2.1.1, e.2.2.1])) ∧ EncM M F e.2.1.1 e.2.1.2 ∧ EncM M F e.2.2.1 e.2.2.2) →
    ∃ F2 H2, Inv X pins σ H2 { s with heap := h', toks := tk } ∧ Ext F H1 F2 H2 ∧ (∀ b, (∀ e ∈ L, e.1 ≠ b) → H1 b = none → H2 b = none) ∧ EncLM M F2 (L.map fun e => .ref e.1) (L.map fun e => .tup [e.2.1.2, e.2.2.2])
  | [], F, H1, I1, sm, _, _ => ⟨F, H1, I1, .refl sm, fun _ _ e => e, .nil⟩
  | e :: L, F, H1, I1, sm, hn, h => by
    obtain ⟨hb, hnone, ok, e1, e2⟩ := h e (List.mem_cons_self ..)
    have I2 : Inv X pins σ (upd H1 e.1 (.tup [e.2.1.1, e.2.2.1])) { s with heap := h', toks := tk } := I1.take (h' := h') (t' := tk) (fun b ob _ e => e) (I0.fpOk hb hnone) (ok _)
    rw [List.map_cons, List.nodup_cons] at hn
    obtain ⟨x1, en⟩ := new_tup (M := M) (vs := [e.2.1.1, e.2.2.1]) (ds := [e.2.1.2, e.2.2.2]) sm hnone (.cons e1 (.cons e2 .nil))
    have ne : ∀ c ∈ L, c.1 ≠ e.1 := fun c hc z => hn.1 (by rw [← z]; exact List.mem_map.mpr ⟨c, hc, rfl⟩)
    obtain ⟨F2, H2, I3, x2, fr, el⟩ := takeZ I0 L _ _ I2 x1.s hn.2 fun c hc => by
      obtain ⟨c1, c2, c3, c4, c5⟩ := h c (List.mem_cons_of_mem _ hc)
      exact ⟨c1, by rw [upd_ne (ne c hc)]; exact c2, c3, c4.mono x1.f, c5.mono x1.f⟩
    refine ⟨F2, H2, I3, x1.trans x2, fun b hb hb' => fr b (fun c hc => hb c (List.mem_cons_of_mem _ hc)) ?_, .cons (en.mono x2.f) el⟩
    rw [upd_ne (fun z => hb e (List.mem_cons_self ..) z.symm)]
    exact hb'
/-- the readings -/
def tListZip (M : Md) (a b : TE) : TE := fun σ H Q => a σ H fun x H1 => b σ H1 fun y H2 => ∃ F p q vs ws ds es, x = .ref p ∧ y = .ref q ∧ Same F H2 ∧ SqT M.K H2 p vs ∧ SqT M.K H2 q ws ∧ EncLM M F vs ds ∧ EncLM M F ws es ∧ vs.length = ws.length ∧ 0 < vs.length ∧
  ∀ v F' H', Ext F H2 F' H' → EncM M F' v (.lst (zipD ds es)) → Q v H'
theorem zipD_len : ∀ {ds es : List D}, ds.length = es.length → (zipD ds es).length = ds.length
  | [], [], _ => rfl
  | d :: ds, e :: es, h => congrArg Nat.succ (zipD_len (by simpa using h))
  | [], _ :: _, h => by simp at h
  | _ :: _, [], h => by simp at h
theorem zipD_get : ∀ {ds es : List D} {j : Nat} {d e : D}, ds[j]? = some d → es[j]? = some e → (zipD ds es)[j]? = some (.tup [d, e])
  | [], _, _, _, _, h, _ => by simp at h
  | _ :: _, [], _, _, _, _, h => by simp at h
  | d :: ds, e :: es, 0, _, _, h, h' => by
    cases (Option.some.inj h)
    cases (Option.some.inj h')
    rfl
  | d :: ds, e :: es, j + 1, _, _, h, h' => zipD_get (ds := ds) (es := es) (j := j) (by simpa using h) (by simpa using h')
theorem pe_listZip {e e2 : Expr} {ta tb : TE} {p p2 q pos : Pos} (hX : XOk M N sc sc0 X) (hg : Gl X "list") (hm : X.mg "list" = none) (hg2 : Gl X "zip") (hm2 : X.mg "zip" = none) (ha : PE X e ta) (hb : PE X e2 tb)
    (hs : starEach [e, e2] X.env = (false, eval e X.env) :: starEach [e2] X.env) (hs2 : starEach [e2] X.env = [(false, eval e2 X.env)]) :
    PE X (.Call (.Name "list" p) [.Call (.Name "zip" p2) [e, e2] [] q] [] pos) (tListZip M ta tb) := by
  refine ⟨fun pins s σ H Q I h => ?_⟩
  refine wpAny_Call_Name_kw (ld_blt I hg hm (by rfl) ?_)
  refine PyProof.Rows.callWith_type1 (e := .Call (.Name "zip" p2) [e, e2] [] q) (rest := []) ?_
  refine Calls.spliced_cons ?_
  refine Call_ (ld_blt I hg2 hm2 PyProof.Rows.boot_zip (PyProof.Rows.callWith_type1 (e := e) (rest := [e2]) ?_ hs (by rw [hs2]; rfl)))
  rw [hs, hs2]
  refine Calls.spliced_cons (thn (ha.run pins s σ H _ I h) fun u s0 ⟨x, H0, I0, r0, q0⟩ => ?_)
  refine Calls.spliced_cons (thn (hb.run pins s0 σ H0 _ I0 q0) fun u2 s1 ⟨y, H1, I1, r1, q1⟩ => Calls.spliced_nil ?_)
  obtain ⟨F, a, b, vs, ws, ds, es, rfl, rfl, sm, hqx, hqy, ev, ew, hl, h0, k⟩ := q1
  cases r0
  cases r1
  obtain ⟨its, rv, p1, hz1⟩ := I1.tuple (by rw [hX.K]; exact hqx)
  obtain ⟨its2, rv2, pb, hz2⟩ := I1.tuple (by rw [hX.K]; exact hqy)
  have l1 := rv.length
  have l2 := rv2.length
  obtain ⟨o1, ho1, _⟩ := id p1
  obtain ⟨o2, ho2, _⟩ := id pb
  refine RZ.call_zipT (show s1.heap.IsTuple a its.toArray from p1) (show s1.heap.IsTuple b its2.toArray from pb) fun h5 hz hTI hTO h1 h2 hsz hk => Calls.spliced_nil ?_
  have I2 : Inv X pins σ H1 { s1 with heap := h5 } := I1.kept (t' := s1.toks) hk
  have la := Heap.lt_size ho1
  have lb := Heap.lt_size ho2
  have L : Zp.Low h5.objs.size (s1.heap.objs.size + 4) (s1.heap.objs.size + 2) (s1.heap.objs.size + 3) s1.heap.objs.size (s1.heap.objs.size + 1) a b := by
    rw [hsz]
    exact ⟨Nat.lt_succ_self _, Nat.add_lt_add_left (by decide) _, Nat.add_lt_add_left (by decide) _, Nat.lt_add_of_pos_right (by decide), Nat.add_lt_add_left (by decide) _, Nat.lt_of_lt_of_le la (Nat.le_add_right _ _), Nat.lt_of_lt_of_le lb (Nat.le_add_right _ _)⟩
  have st : Zp.Zs h5 h5.objs.size (s1.heap.objs.size + 4) (s1.heap.objs.size + 2) (s1.heap.objs.size + 3) s1.heap.objs.size (s1.heap.objs.size + 1) a b its.toArray its2.toArray 0 :=
    ⟨hTI, h1, h2, (show s1.heap.IsTuple a its.toArray from p1).at fun o e => hk _ o e, (show s1.heap.IsTuple b its2.toArray from pb).at fun o e => hk _ o e, .inl ⟨rfl, hz, _, _, hTO⟩⟩
  refine Zp.call_listZ (s := { s1 with heap := h5 }) (I1.ok.hd hX.calm) (PySem.W.ktu_apart s1.heap.objs.size a b la lb) L (by simp; omega) (by simp; omega) (by simp; omega) hz st fun h' tk acc c as hkp hS hal hG hacc => ?_
  have kp : ∀ b o, s1.heap.get? b = some o → h'.get? b = some o := fun b o q => by
    have := Heap.lt_size q
    have nb : ∀ k, b ≠ s1.heap.objs.size + k := fun k => Nat.ne_of_lt (Nat.lt_of_lt_of_le this (Nat.le_add_right _ _))
    exact hkp b o (nb 4) (nb 3) (nb 0) (nb 1) (hk b o q)
  have I3 : Inv X pins σ H1 { s1 with heap := h', toks := tk } := I1.kept kp
  have hal' : as.length = vs.length := by rw [hal]; simp; omega
  -- the pairs
  have each : ∀ (j : Nat) (c : Addr), as[j]? = some c → ∃ v d w e, vs[j]? = some v ∧ ds[j]? = some d ∧ ws[j]? = some w ∧ es[j]? = some e ∧ EncM M F v d ∧ EncM M F w e ∧ ∀ H2, ObjOk X.prog X.w H2 h' c (.tup [v, w]) := fun j c hj => by
    obtain ⟨u, t, e1, e2, e3⟩ := hG.pairs j c hj
    have hj' := (List.getElem?_eq_some_iff.mp hj).1
    have hv : vs[j]? = some vs[j] := List.getElem?_eq_getElem (by omega)
    have hw : ws[j]? = some ws[j] := List.getElem?_eq_getElem (by omega)
    obtain ⟨u', g1, g2⟩ := rv.get hv
    obtain ⟨t', g3, g4⟩ := rv2.get hw
    have e1' : its[j]? = some u := by simpa using e1
    have e2' : its2[j]? = some t := by simpa using e2
    rw [e1'] at g1
    rw [e2'] at g3
    cases g1
    cases g3
    obtain ⟨d, d1, d2⟩ := ev.getV hv
    obtain ⟨e, d3, d4⟩ := ew.getV hw
    exact ⟨_, d, _, e, hv, d1, hw, d3, d2, d4, fun H2 => ⟨by show 2 ≤ sizeLine; decide, [u, t], .cons g2 (.cons g4 .nil), ⟨_, e3, rfl, _, rfl⟩⟩⟩
  have nd : as.Nodup := hG.rise.imp fun h => Nat.ne_of_lt h
  let L0 : List (Addr × (V × D) × (V × D)) := as.zip ((vs.zip ds).zip (ws.zip es))
  have hds := ev.len
  have hes := ew.len
  have L1 : L0.map (·.1) = as := by
    show (as.zip _).map _ = as
    exact List.map_fst_zip (by simp; omega)
  have Lat : ∀ (j : Nat) e, L0[j]? = some e → as[j]? = some e.1 ∧ vs[j]? = some e.2.1.1 ∧ ds[j]? = some e.2.1.2 ∧ ws[j]? = some e.2.2.1 ∧ es[j]? = some e.2.2.2 := fun j e he => by
    obtain ⟨e1, ⟨e2, e3⟩, e4, e5⟩ := e
    have := List.getElem?_zip_eq_some.mp he
    obtain ⟨a1, a2⟩ := this
    obtain ⟨b1, b2⟩ := List.getElem?_zip_eq_some.mp a2
    obtain ⟨c1, c2⟩ := List.getElem?_zip_eq_some.mp b1
    obtain ⟨d1, d2⟩ := List.getElem?_zip_eq_some.mp b2
    exact ⟨a1, c1, c2, d1, d2⟩
  have hSz : h5.objs.size < h'.objs.size := Heap.lt_size hS
  obtain ⟨F2, H2, I4, x2, fr, el⟩ := takeZ (M := M) I1 L0 F H1 I3 sm (by rw [L1]; exact nd) fun e he => by
    obtain ⟨j, hj⟩ := List.mem_iff_getElem?.mp he
    obtain ⟨a1, a2, a3, a4, a5⟩ := Lat j e hj
    obtain ⟨v, d, w, e', b1, b2, b3, b4, b5, b6, b7⟩ := each j _ a1
    rw [b1] at a2; rw [b2] at a3; rw [b3] at a4; rw [b4] at a5
    cases a2; cases a3; cases a4; cases a5
    have hab := hG.above _ (List.mem_of_getElem? a1)
    rw [hsz] at hab
    have hle := Nat.le_of_lt (Nat.lt_of_le_of_lt (Nat.le_add_right s1.heap.objs.size 5) hab)
    exact ⟨hle, I1.hok.fresh hle, b7, b5, b6⟩
  have eD : (L0.map fun e => D.tup [e.2.1.2, e.2.2.2]) = zipD ds es := by
    refine List.ext_getElem? fun j => ?_
    rw [List.getElem?_map]
    cases hj : L0[j]? with
    | none =>
      have q1 := List.getElem?_eq_none_iff.mp hj
      have q2 : L0.length = as.length := by rw [← L1]; simp
      rw [List.getElem?_eq_none (by rw [zipD_len (by omega)]; omega)]
      rfl
    | some e =>
      obtain ⟨a1, a2, a3, a4, a5⟩ := Lat j e hj
      rw [zipD_get a3 a5]
      rfl
  have eV : (L0.map fun e => V.ref e.1) = as.map V.ref := by
    rw [← L1, List.map_map]
    rfl
  rw [eD, eV] at el
  -- the list
  have hnS : H2 h5.objs.size = none := fr _ (fun e he z => by
    have : e.1 ∈ as := by rw [← L1]; exact List.mem_map.mpr ⟨e, he, rfl⟩
    have := hG.above _ this
    exact absurd this (by rw [z]; exact Nat.lt_irrefl _)) (I1.hok.fresh (by rw [hsz]; exact Nat.le_add_right _ _))
  obtain ⟨x3, en⟩ := new_lst (M := M) x2.s hnS el
  have I5 : Inv X pins σ (upd H2 h5.objs.size (.lst (as.map V.ref))) { s1 with heap := h', toks := tk } :=
    I4.take (h' := h') (t' := tk) (fun b ob _ e => e) (I1.fpOk (by rw [hsz]; exact Nat.le_add_right _ _) hnS) ⟨by rw [List.length_map]; omega, as.map Value.ref, c, vals_refs as, by
      have : acc = (as.map Value.ref).toArray := by rw [← hacc, Array.toArray_toList]
      rw [← this]
      exact hS⟩
  exact ⟨.ref h5.objs.size, _, I5, rfl, k _ _ _ (x2.trans x3) en⟩
theorem sn_zipL {e e2 : Expr} {a b : IE} {p p2 q pos : Pos} (ha : SndE M Φ N sc sc0 e a) (hb : SndE M Φ N sc sc0 e2 b) (hm : M.mg "list" = none) (hm2 : M.mg "zip" = none) (hg : sc.names.lookup ("list" : Str) = some .globalImplicit := by rfl) (hg2 : sc.names.lookup ("zip" : Str) = some .globalImplicit := by rfl)
    (hs : ∀ env, starEach [e, e2] env = (false, eval e env) :: starEach [e2] env := by intro _; rfl) (hs2 : ∀ env, starEach [e2] env = [(false, eval e2 env)] := by intro _; rfl) :
    SndE M Φ N sc sc0 (.Call (.Name "list" p) [.Call (.Name "zip" p2) [e, e2] [] q] [] pos) (.bi .zipL (.cons a (.cons b .nil))) := fun X hX =>
  PE.imp (pe_listZip hX (glob_of hX hg) (mg_of hX hm) (glob_of hX hg2) (mg_of hX hm2) (ha X hX) (hb X hX) (hs _) (hs2 _)) fun σ H Q h => by
    obtain ⟨F0, H0, F, env, d, e, so, k⟩ := h
    obtain ⟨ds, e1, e2⟩ := ev_bi e
    obtain ⟨x, y, h1, h2, e3⟩ := ev_cons2 e1
    injection e3 with e3
    subst e3
    refine ⟨F0, H0, F, env, x, h1, so, fun v F1 H1 x1 ev => ⟨F0, H0, F1, env, y, h2, so.step x1, fun u F2 H2 x2 eu => ?_⟩⟩
    cases x with
    | ptup l =>
      cases y with
      | tup l2 =>
        have e2 : (if l.length = l2.length ∧ 0 < l.length then some (D.lst (zipD l l2)) else none) = some d := e2
        split at e2
        · rename_i hz
          cases e2
          obtain ⟨q, ws, rfl, fq, sq, r2⟩ := eu.sqT x2.s
          have ev2 := ev.mono x2.f
          cases ev2 with
          | ptup ha hd r =>
            have l1 := r.len
            have l2' := r2.len
            exact ⟨F2, _, q, _, ws, l, l2, rfl, rfl, x2.s, .inl (.inr ⟨_, x2.s _ _ ha⟩), sq, r, r2, by omega, by omega, fun w F3 H3 x3 e3 => k w F3 H3 ((x1.trans x2).trans x3) e3⟩
        · cases e2
      | _ => cases e2
    | _ => cases y <;> cases e2

/-! ### a new list from +, three tests in a row -/
theorem add_lst {a b : D} {l : List D} (h : bival .add [a, b] = some (.lst l)) : ∃ x y, a = .lst x ∧ b = .lst y ∧ l = x ++ y := by
  cases a with
  | lst x =>
    cases b with
    | lst y =>
      have h : (if (x.length + y.length).ble 10000 then some (D.lst (x ++ y)) else none) = some (D.lst l) := h
      split at h
      · cases h; exact ⟨x, y, rfl, rfl, rfl⟩
      · cases h
    | _ => cases h
  | int i => cases b <;> cases h
  | tup x =>
    cases b with
    | tup y =>
      have h : (if (x.length + y.length).ble 10000 then some (D.tup (x ++ y)) else none) = some (D.lst l) := h
      split at h <;> cases h
    | _ => cases h
  | _ => cases b <;> cases h
theorem sl_add {l r : Expr} {a b : IE} {pos : Pos} (hl : SndE M Φ N sc sc0 l a) (hr : SndE M Φ N sc sc0 r b) : SndL M Φ N sc sc0 (.BinOp l .Add r pos) (.bi .add (.cons a (.cons b .nil))) := fun X hX =>
  PE.imp (pe_op op_cat (hl X hX) (hr X hX)) fun σ H Q h => by
    obtain ⟨F0, H0, F, env, ds, e, so, k⟩ := h
    obtain ⟨es, e1, e2⟩ := ev_bi e
    obtain ⟨x, y, h1, h2, e3⟩ := ev_cons2 e1
    injection e3 with e3
    subst e3
    obtain ⟨lx, ly, rfl, rfl, rfl⟩ := add_lst e2
    have hz : (lx.length + ly.length).ble 10000 = true := by
      have e2 : (if (lx.length + ly.length).ble 10000 then some (D.lst (lx ++ ly)) else none) = some (D.lst (lx ++ ly)) := e2
      split at e2
      · assumption
      · cases e2
    refine ⟨F0, H0, F, env, _, h1, so, fun v F1 H1 x1 ev => ⟨F0, H0, F1, env, _, h2, so.step x1, fun u F2 H2 x2 eu => ?_⟩⟩
    obtain ⟨p, vs, rfl, fp, sp, r1⟩ := (ev.mono x2.f).sqL x2.s
    obtain ⟨q, ws, rfl, fq, sq, r2⟩ := eu.sqL x2.s
    refine ⟨p, q, vs, ws, rfl, rfl, sp, sq, by rw [r1.len, r2.len]; exact sz_ble hz, fun l hl => ?_⟩
    have x12 := x1.trans x2
    exact k l _ F2 _ (x12.trans (Ext.own (o := .lst (vs ++ ws)) x2.s hl)) (x12.h.free hl) (x2.s.free hl) upd_same (r1.app r2)
theorem sn_one {op : BoolOp} {f : Expr} {b : IE} {pos : Pos} (h : SndE M Φ N sc sc0 f b) : SndE M Φ N sc sc0 (.BoolOp op [f] pos) b := fun X hX => pe_one (h X hX)
theorem sn_andG {e f : Expr} {rest : List Expr} {a b : IE} {pos : Pos} (h : SndE M Φ N sc sc0 e a) (hb : SndE M Φ N sc sc0 (.BoolOp .And (f :: rest) pos) b) : SndE M Φ N sc sc0 (.BoolOp .And (e :: f :: rest) pos) (.and a b) := fun X hX =>
  PE.imp (pe_and (h X hX) (hb X hX)) fun σ H Q h => by
    obtain ⟨F0, H0, F, env, r, e, so, k⟩ := h
    unfold evalE at e
    split at e
    · rename_i q
      split at e
      · rename_i c q2
        injection e with e
        subst e
        refine ⟨F0, H0, F, env, _, q, so, fun v F1 H1 x1 ev => ?_⟩
        cases ev
        refine ⟨true, rfl, iteT ⟨F0, H0, F1, env, _, q2, so.step x1, fun v F2 H2 x2 e2 => k v F2 H2 (x1.trans x2) e2⟩⟩
      · cases e
    · rename_i q
      injection e with e
      subst e
      refine ⟨F0, H0, F, env, _, q, so, fun v F1 H1 x1 ev => ?_⟩
      cases ev
      exact ⟨false, rfl, iteF (k _ F1 H1 x1 .bl)⟩
    · cases e
end FB

set_option Elab.async false
set_option linter.all false
set_option maxRecDepth 100000
set_option maxHeartbeats 1000000
/-! FBp: the defs in the small language (printed by gen_p.py). -/
namespace FB
open PySem L2

def n_is_integer : List Str := ["value"]
def i_is_integer : IS := (.ret (.and (.bi .isInt (.cons (.var 0) .nil)) (.not (.bi .isBool (.cons (.var 0) .nil)))))
def n_ratio : List Str := ["self", "n", "d", "common"]
def i_ratio : IS := (.seq (.ite (.bi .eq (.cons (.var 2) (.cons (.cst (.int 0)) .nil))) .fail .skip) (.seq (.asg 3 (.ite (.bi .gt (.cons (.var 2) (.cons (.cst (.int 0)) .nil))) (.bi .gcd (.cons (.var 1) (.cons (.var 2) .nil))) (.bi .neg (.cons (.bi .gcd (.cons (.var 1) (.cons (.var 2) .nil))) .nil)))) (.seq (.fld 0 0 (.bi .fdiv (.cons (.var 1) (.cons (.var 3) .nil)))) (.fld 0 1 (.bi .fdiv (.cons (.var 2) (.cons (.var 3) .nil)))))))
def n_r_add : List Str := ["self", "other"]
def i_r_add : IS := (.ret (.call .ratio (.cons (.bi .add (.cons (.bi .mul (.cons (.fld 0 0 (.var 0)) (.cons (.fld 0 1 (.var 1)) .nil))) (.cons (.bi .mul (.cons (.fld 0 0 (.var 1)) (.cons (.fld 0 1 (.var 0)) .nil))) .nil))) (.cons (.bi .mul (.cons (.fld 0 1 (.var 0)) (.cons (.fld 0 1 (.var 1)) .nil))) .nil))))
def n_r_sub : List Str := ["self", "other"]
def i_r_sub : IS := (.ret (.call .ratio (.cons (.bi .sub (.cons (.bi .mul (.cons (.fld 0 0 (.var 0)) (.cons (.fld 0 1 (.var 1)) .nil))) (.cons (.bi .mul (.cons (.fld 0 0 (.var 1)) (.cons (.fld 0 1 (.var 0)) .nil))) .nil))) (.cons (.bi .mul (.cons (.fld 0 1 (.var 0)) (.cons (.fld 0 1 (.var 1)) .nil))) .nil))))
def n_r_mul : List Str := ["self", "other"]
def i_r_mul : IS := (.ret (.call .ratio (.cons (.bi .mul (.cons (.fld 0 0 (.var 0)) (.cons (.fld 0 0 (.var 1)) .nil))) (.cons (.bi .mul (.cons (.fld 0 1 (.var 0)) (.cons (.fld 0 1 (.var 1)) .nil))) .nil))))
def n_r_eq : List Str := ["self", "other"]
def i_r_eq : IS := (.ret (.and (.bi (.isC 0) (.cons (.var 1) .nil)) (.and (.bi .eq (.cons (.fld 0 0 (.var 0)) (.cons (.fld 0 0 (.var 1)) .nil))) (.bi .eq (.cons (.fld 0 1 (.var 0)) (.cons (.fld 0 1 (.var 1)) .nil))))))
def n_r_over : List Str := ["self", "other"]
def i_r_over : IS := (.ret (.call .ratio (.cons (.bi .mul (.cons (.fld 0 0 (.var 0)) (.cons (.fld 0 1 (.var 1)) .nil))) (.cons (.bi .mul (.cons (.fld 0 1 (.var 0)) (.cons (.fld 0 0 (.var 1)) .nil))) .nil))))
def n_r_is_zero : List Str := ["self"]
def i_r_is_zero : IS := (.ret (.bi .eq (.cons (.fld 0 0 (.var 0)) (.cons (.cst (.int 0)) .nil))))
def n_zero : List Str := []
def i_zero : IS := (.ret (.call .ratio (.cons (.cst (.int 0)) (.cons (.cst (.int 1)) .nil))))
def n_is_partition : List Str := ["value", "before", "part"]
def i_is_partition : IS := (.seq (.ite (.not (.bi .isTuple (.cons (.var 0) .nil))) (.ret (.cst (.bl false))) .skip) (.seq (.asg 1 (.bi .neg (.cons (.cst (.int 1)) .nil))) (.seq (.forE 0 (.var 0) (.nm 2) (.seq (.ite (.or (.not (.bi .isInt (.cons (.var 2) .nil))) (.or (.bi .isBool (.cons (.var 2) .nil)) (.bi .lt (.cons (.var 2) (.cons (.cst (.int 1)) .nil))))) (.ret (.cst (.bl false))) .skip) (.seq (.ite (.chain .le .lt (.cst (.int 0)) (.var 1) (.var 2)) (.ret (.cst (.bl false))) .skip) (.asg 1 (.var 2))))) (.ret (.cst (.bl true))))))
def n_size : List Str := ["a"]
def i_size : IS := (.ret (.bi .sum (.cons (.var 0) .nil)))
def n_partitions_below : List Str := ["n", "most", "out", "first", "rest"]
def i_partitions_below : IS := (.seq (.ite (.bi .eq (.cons (.var 0) (.cons (.cst (.int 0)) .nil))) (.ret (.bi .lstD (.cons (.bi .tupD .nil) .nil))) .skip) (.seq (.newL 2 (.bi .lstD .nil)) (.seq (.forE 3 (.cons (.bi .min2 (.cons (.var 0) (.cons (.var 1) .nil))) (.cons (.cst (.int 0)) .nil)) (.nm 3) (.forE 0 (.call .partitions_below (.cons (.bi .sub (.cons (.var 0) (.cons (.var 3) .nil))) (.cons (.var 3) .nil))) (.nm 4) (.app 2 (.bi .add (.cons (.bi .tupD (.cons (.var 3) .nil)) (.cons (.var 4) .nil)))))) (.seq (.frz 2) (.ret (.var 2))))))
def n_partitions : List Str := ["n"]
def i_partitions : IS := (.seq (.ite (.or (.not (.bi .isInt (.cons (.var 0) .nil))) (.or (.bi .isBool (.cons (.var 0) .nil)) (.or (.bi .lt (.cons (.var 0) (.cons (.cst (.int 0)) .nil))) (.bi .gt (.cons (.var 0) (.cons (.cst (.int 12)) .nil)))))) .fail .skip) (.ret (.bi .ptupOf (.cons (.call .partitions_below (.cons (.var 0) (.cons (.var 0) .nil))) .nil))))
def n_part_at : List Str := ["a", "i"]
def i_part_at : IS := (.ret (.ite (.bi .lt (.cons (.var 1) (.cons (.bi .len (.cons (.var 0) .nil)) .nil))) (.bi .ix (.cons (.var 0) (.cons (.var 1) .nil))) (.cst (.int 0))))
def n_turned : List Str := ["a", "j", "part"]
def i_turned : IS := (.ret (.bi .tupOf (.cons (.lc 1 (.cons (.call .part_at (.cons (.var 0) (.cons (.cst (.int 0)) .nil))) .nil) (.nm 1) (.cst (.bl true)) (.bi .len (.cons (.lc 0 (.var 0) (.nm 2) (.bi .gt (.cons (.var 2) (.cons (.var 1) .nil))) (.var 2) [2]) .nil)) [1]) .nil)))
def n_holds : List Str := ["a", "b", "i"]
def i_holds : IS := (.seq (.ite (.bi .gt (.cons (.bi .len (.cons (.var 1) .nil)) (.cons (.bi .len (.cons (.var 0) .nil)) .nil))) (.ret (.cst (.bl false))) .skip) (.ret (.bi .eq (.cons (.bi .len (.cons (.lc 1 (.cons (.bi .len (.cons (.var 1) .nil)) .nil) (.nm 2) (.bi .gt (.cons (.bi .ix (.cons (.var 1) (.cons (.var 2) .nil))) (.cons (.bi .ix (.cons (.var 0) (.cons (.var 2) .nil))) .nil))) (.var 2) [2]) .nil)) (.cons (.cst (.int 0)) .nil)))))
def n_trimmed : List Str := ["row", "part"]
def i_trimmed : IS := (.ret (.bi .tupOf (.cons (.lc 0 (.var 0) (.nm 1) (.bi .gt (.cons (.var 1) (.cons (.cst (.int 0)) .nil))) (.var 1) [1]) .nil)))
def n_rows : List Str := ["lows", "highs", "total", "out", "first", "rest"]
def i_rows : IS := (.seq (.ite (.bi .eq (.cons (.bi .len (.cons (.var 0) .nil)) (.cons (.cst (.int 0)) .nil))) (.ret (.ite (.bi .eq (.cons (.var 2) (.cons (.cst (.int 0)) .nil))) (.bi .lstD (.cons (.bi .tupD .nil) .nil)) (.bi .lstD .nil))) .skip) (.seq (.newL 3 (.bi .lstD .nil)) (.seq (.forE 3 (.cons (.bi .ix (.cons (.var 1) (.cons (.cst (.int 0)) .nil))) (.cons (.bi .sub (.cons (.bi .ix (.cons (.var 0) (.cons (.cst (.int 0)) .nil))) (.cons (.cst (.int 1)) .nil))) .nil)) (.nm 4) (.forE 0 (.call .rows (.cons (.bi (.sl true false) (.cons (.var 0) (.cons (.cst (.int 1)) .nil))) (.cons (.bi (.sl true false) (.cons (.var 1) (.cons (.cst (.int 1)) .nil))) (.cons (.bi .sub (.cons (.var 2) (.cons (.var 4) .nil))) .nil)))) (.nm 5) (.app 3 (.bi .add (.cons (.bi .tupD (.cons (.var 4) .nil)) (.cons (.var 5) .nil)))))) (.seq (.frz 3) (.ret (.var 3))))))
def n_with_strip : List Str := ["b", "k", "upright", "lows", "highs", "row", "a"]
def i_with_strip : IS := (.seq (.ite (.var 2) .fail .skip) (.seq (.asg 3 (.bi .add (.cons (.bi .lstOf (.cons (.var 0) .nil)) (.cons (.bi .lstD (.cons (.cst (.int 0)) .nil)) .nil)))) (.seq (.asg 4 (.bi .add (.cons (.bi .lstD (.cons (.bi .add (.cons (.call .part_at (.cons (.var 0) (.cons (.cst (.int 0)) .nil))) (.cons (.var 1) .nil))) .nil)) (.cons (.bi .lstOf (.cons (.var 0) .nil)) .nil)))) (.ret (.bi .tupOf (.cons (.lc 0 (.call .rows (.cons (.var 3) (.cons (.var 4) (.cons (.bi .add (.cons (.bi .sum (.cons (.var 0) .nil)) (.cons (.var 1) .nil))) .nil)))) (.nm 5) (.cst (.bl true)) (.call .trimmed (.cons (.var 5) .nil)) [5]) .nil))))))
def n_joined : List Str := ["a", "b"]
def i_joined : IS := (.ret (.bi .tupOf (.cons (.bi .sortedR (.cons (.bi .add (.cons (.var 0) (.cons (.var 1) .nil))) .nil)) .nil)))
def n_count_fillings : List Str := ["outer", "content", "inner", "counts", "k", "later", "b", "a"]
def i_count_fillings : IS := (.seq (.newDk 3 (.var 2) (.cst (.int 1))) (.seq (.forE 0 (.var 1) (.nm 4) (.seq (.newD 5) (.seq (.forE 0 (.sortD 3) (.nm 6) (.forE 0 (.call .with_strip (.cons (.var 6) (.cons (.var 4) (.cons (.cst (.bl false)) .nil)))) (.nm 7) (.ite (.call .holds (.cons (.var 0) (.cons (.var 7) .nil))) (.setD 5 (.var 7) (.bi .add (.cons (.dget2 5 (.var 7) (.cst (.int 0))) (.cons (.dget 3 (.var 6)) .nil)))) .skip))) (.cpyD 3 5)))) (.ret (.dget2 3 (.var 0) (.cst (.int 0))))))
def n_spreads : List Str := ["columns", "amount", "most", "found", "taken", "rest"]
def i_spreads : IS := (.seq (.ite (.bi .eq (.cons (.bi .len (.cons (.var 0) .nil)) (.cons (.cst (.int 0)) .nil))) (.seq (.ite (.bi .eq (.cons (.var 1) (.cons (.cst (.int 0)) .nil))) (.ret (.bi .lstD (.cons (.bi .tupD .nil) .nil))) .skip) (.ret (.bi .lstD .nil))) .skip) (.seq (.newL 3 (.bi .lstD .nil)) (.seq (.forE 1 (.cons (.bi .add (.cons (.bi .min3 (.cons (.var 1) (.cons (.var 2) (.cons (.bi .ix (.cons (.var 0) (.cons (.cst (.int 0)) .nil))) .nil)))) (.cons (.cst (.int 1)) .nil))) .nil) (.nm 4) (.forE 0 (.call .spreads (.cons (.bi (.sl true false) (.cons (.var 0) (.cons (.cst (.int 1)) .nil))) (.cons (.bi .sub (.cons (.var 1) (.cons (.var 4) .nil))) (.cons (.var 2) .nil)))) (.nm 5) (.app 3 (.bi .add (.cons (.bi .tupD (.cons (.bi .sub (.cons (.bi .ix (.cons (.var 0) (.cons (.cst (.int 0)) .nil))) (.cons (.var 4) .nil))) .nil)) (.cons (.var 5) .nil)))))) (.seq (.frz 3) (.ret (.var 3))))))
def n_count_matrices : List Str := ["rows", "columns", "most", "states", "amount", "following", "columns_left", "rest", "key", "left"]
def i_count_matrices : IS := (.seq (.newD1 3 (.bi .tupOf (.cons (.bi .sorted (.cons (.var 1) .nil)) .nil)) (.cst (.int 1))) (.seq (.forE 0 (.var 0) (.nm 4) (.seq (.newD 5) (.seq (.forE 4 (.var 3) (.nm 6) (.forE 0 (.call .spreads (.cons (.var 6) (.cons (.var 4) (.cons (.bi .min2 (.cons (.var 4) (.cons (.var 2) .nil))) .nil)))) (.nm 7) (.seq (.asg 8 (.bi .tupOf (.cons (.bi .sorted (.cons (.var 7) .nil)) .nil))) (.setD 5 (.var 8) (.bi .add (.cons (.dget2 5 (.var 8) (.cst (.int 0))) (.cons (.dget 3 (.var 6)) .nil))))))) (.movD 3 5)))) (.ret (.bi .sum (.cons (.lc 4 (.var 3) (.nm 9) (.bi .eq (.cons (.bi .sum (.cons (.var 9) .nil)) (.cons (.cst (.int 0)) .nil))) (.dget 3 (.var 9)) [9]) .nil)))))
def n_zero_one_matrices : List Str := ["rows", "columns"]
def i_zero_one_matrices : IS := (.ret (.call .count_matrices (.cons (.var 0) (.cons (.var 1) (.cons (.cst (.int 1)) .nil)))))
def n_whole_matrices : List Str := ["rows", "columns"]
def i_whole_matrices : IS := (.ret (.call .count_matrices (.cons (.var 0) (.cons (.var 1) (.cons (.bi .sum (.cons (.var 0) .nil)) .nil)))))
def n_mergings : List Str := ["parts", "sums", "states", "part", "following", "left", "j", "key"]
def i_mergings : IS := (.seq (.newD1 2 (.bi .tupOf (.cons (.bi .sorted (.cons (.var 1) .nil)) .nil)) (.cst (.int 1))) (.seq (.forE 0 (.var 0) (.nm 3) (.seq (.newD 4) (.seq (.forE 4 (.var 2) (.nm 5) (.forE 1 (.cons (.bi .len (.cons (.var 5) .nil)) .nil) (.nm 6) (.ite (.bi .ge (.cons (.bi .ix (.cons (.var 5) (.cons (.var 6) .nil))) (.cons (.var 3) .nil))) (.seq (.asg 7 (.bi .tupOf (.cons (.bi .sorted (.cons (.bi .add (.cons (.bi .add (.cons (.bi (.sl false true) (.cons (.var 5) (.cons (.var 6) .nil))) (.cons (.bi .tupD (.cons (.bi .sub (.cons (.bi .ix (.cons (.var 5) (.cons (.var 6) .nil))) (.cons (.var 3) .nil))) .nil)) .nil))) (.cons (.bi (.sl true false) (.cons (.var 5) (.cons (.bi .add (.cons (.var 6) (.cons (.cst (.int 1)) .nil))) .nil))) .nil))) .nil)) .nil))) (.setD 4 (.var 7) (.bi .add (.cons (.dget2 4 (.var 7) (.cst (.int 0))) (.cons (.dget 2 (.var 5)) .nil))))) .skip))) (.movD 2 4)))) (.ret (.bi .sum (.cons (.lc 4 (.var 2) (.nm 5) (.bi .eq (.cons (.bi .sum (.cons (.var 5) .nil)) (.cons (.cst (.int 0)) .nil))) (.dget 2 (.var 5)) [5]) .nil)))))
def n_entry : List Str := ["base", "part", "other"]
def i_entry : IS := (.seq (.ite (.bi .eq (.cons (.var 0) (.cons (.cst (.str "m")) .nil))) (.ret (.bi .intOf (.cons (.bi .eq (.cons (.var 1) (.cons (.var 2) .nil))) .nil))) .skip) (.seq (.ite (.bi .eq (.cons (.var 0) (.cons (.cst (.str "e")) .nil))) (.ret (.call .zero_one_matrices (.cons (.var 1) (.cons (.var 2) .nil)))) .skip) (.seq (.ite (.bi .eq (.cons (.var 0) (.cons (.cst (.str "h")) .nil))) (.ret (.call .whole_matrices (.cons (.var 1) (.cons (.var 2) .nil)))) .skip) (.seq (.ite (.bi .eq (.cons (.var 0) (.cons (.cst (.str "p")) .nil))) (.ret (.call .mergings (.cons (.var 1) (.cons (.var 2) .nil)))) .skip) (.ret (.call .count_fillings (.cons (.var 1) (.cons (.var 2) (.cons (.cst .ktup) .nil)))))))))
def n_check : List Str := ["n", "bases", "base"]
def i_check : IS := (.seq (.ite (.or (.bi .lt (.cons (.var 0) (.cons (.cst (.int 0)) .nil))) (.bi .gt (.cons (.var 0) (.cons (.cst (.int 8)) .nil)))) .fail .skip) (.forE 0 (.var 1) (.nm 2) (.ite (.bi .notInT (.cons (.var 2) (.cons (.bi .tupD (.cons (.cst (.str "m")) (.cons (.cst (.str "e")) (.cons (.cst (.str "h")) (.cons (.cst (.str "p")) (.cons (.cst (.str "s")) .nil)))))) .nil))) .fail .skip)))
def n_monomial_row : List Str := ["base", "part", "other"]
def i_monomial_row : IS := (.seq (.exp (.call .check (.cons (.bi .sum (.cons (.var 1) .nil)) (.cons (.bi .tupD (.cons (.var 0) .nil)) .nil)))) (.ret (.bi .tupOf (.cons (.lc 0 (.call .partitions (.cons (.bi .sum (.cons (.var 1) .nil)) .nil)) (.nm 2) (.cst (.bl true)) (.call .ratio (.cons (.call .entry (.cons (.var 0) (.cons (.var 1) (.cons (.var 2) .nil)))) (.cons (.cst (.int 1)) .nil))) [2]) .nil))))
def n_combined : List Str := ["row", "table", "found", "i", "_", "j"]
def i_combined : IS := (.seq (.newL 2 (.lc 0 (.var 0) (.nm 4) (.cst (.bl true)) (.call .zero .nil) [4])) (.seq (.forE 1 (.cons (.bi .len (.cons (.var 0) .nil)) .nil) (.nm 3) (.ite (.not (.call .r_is_zero (.cons (.bi .ix (.cons (.var 0) (.cons (.var 3) .nil))) .nil))) (.forE 1 (.cons (.bi .len (.cons (.var 0) .nil)) .nil) (.nm 5) (.setL 2 (.var 5) (.call .r_add (.cons (.ixO 2 (.var 5)) (.cons (.call .r_mul (.cons (.bi .ix (.cons (.var 0) (.cons (.var 3) .nil))) (.cons (.bi .ix (.cons (.bi .ix (.cons (.var 1) (.cons (.var 3) .nil))) (.cons (.var 5) .nil))) .nil))) .nil))))) .skip)) (.seq (.frz 2) (.ret (.bi .tupOf (.cons (.var 2) .nil))))))
def n_forward : List Str := ["row", "table", "found", "j", "value", "i"]
def i_forward : IS := (.seq (.newL 2 (.bi .lstD .nil)) (.seq (.forE 1 (.cons (.bi .len (.cons (.var 0) .nil)) .nil) (.nm 3) (.seq (.asg 4 (.bi .ix (.cons (.var 0) (.cons (.var 3) .nil)))) (.seq (.forE 1 (.cons (.var 3) .nil) (.nm 5) (.asg 4 (.call .r_sub (.cons (.var 4) (.cons (.call .r_mul (.cons (.ixO 2 (.var 5)) (.cons (.bi .ix (.cons (.bi .ix (.cons (.var 1) (.cons (.var 5) .nil))) (.cons (.var 3) .nil))) .nil))) .nil))))) (.app 2 (.call .r_over (.cons (.var 4) (.cons (.bi .ix (.cons (.bi .ix (.cons (.var 1) (.cons (.var 3) .nil))) (.cons (.var 3) .nil))) .nil))))))) (.seq (.frz 2) (.ret (.bi .tupOf (.cons (.var 2) .nil))))))
def n_backward : List Str := ["row", "table", "size", "flipped", "i", "j"]
def i_backward : IS := (.seq (.asg 2 (.bi .len (.cons (.var 0) .nil))) (.seq (.asg 3 (.bi .tupOf (.cons (.lc 1 (.cons (.var 2) .nil) (.nm 4) (.cst (.bl true)) (.bi .tupOf (.cons (.lc 1 (.cons (.var 2) .nil) (.nm 5) (.cst (.bl true)) (.bi .ix (.cons (.bi .ix (.cons (.var 1) (.cons (.bi .sub (.cons (.bi .sub (.cons (.var 2) (.cons (.cst (.int 1)) .nil))) (.cons (.var 4) .nil))) .nil))) (.cons (.bi .sub (.cons (.bi .sub (.cons (.var 2) (.cons (.cst (.int 1)) .nil))) (.cons (.var 5) .nil))) .nil))) [5]) .nil)) [4]) .nil))) (.ret (.bi .rev (.cons (.call .forward (.cons (.bi .rev (.cons (.var 0) .nil)) (.cons (.var 3) .nil))) .nil)))))
def n_fillings_table : List Str := ["parts", "part"]
def i_fillings_table : IS := (.ret (.bi .tupOf (.cons (.lc 0 (.var 0) (.nm 1) (.cst (.bl true)) (.call .monomial_row (.cons (.cst (.str "s")) (.cons (.var 1) .nil))) [1]) .nil)))
def n_from_monomials : List Str := ["row", "two", "parts", "table", "found", "size", "flat", "i", "part", "j"]
def i_from_monomials : IS := (.seq (.ite (.bi .eq (.cons (.var 1) (.cons (.cst (.str "m")) .nil))) (.ret (.var 0)) .skip) (.seq (.ite (.bi .eq (.cons (.var 1) (.cons (.cst (.str "p")) .nil))) (.ret (.call .backward (.cons (.var 0) (.cons (.bi .tupOf (.cons (.lc 0 (.var 2) (.nm 8) (.cst (.bl true)) (.call .monomial_row (.cons (.cst (.str "p")) (.cons (.var 8) .nil))) [8]) .nil)) .nil)))) .skip) (.seq (.ite (.bi .eq (.cons (.var 1) (.cons (.cst (.str "e")) .nil))) (.seq (.asg 3 (.bi .tupOf (.cons (.lc 0 (.var 2) (.nm 8) (.cst (.bl true)) (.call .monomial_row (.cons (.cst (.str "e")) (.cons (.call .turned (.cons (.var 8) .nil)) .nil))) [8]) .nil))) (.seq (.asg 4 (.call .forward (.cons (.var 0) (.cons (.var 3) .nil)))) (.ret (.bi .tupOf (.cons (.lc 0 (.var 2) (.nm 8) (.cst (.bl true)) (.bi .ix (.cons (.var 4) (.cons (.bi .indexT (.cons (.var 2) (.cons (.call .turned (.cons (.var 8) .nil)) .nil))) .nil))) [8]) .nil))))) .skip) (.seq (.asg 3 (.call .fillings_table (.cons (.var 2) .nil))) (.seq (.asg 4 (.call .forward (.cons (.var 0) (.cons (.var 3) .nil)))) (.seq (.ite (.bi .eq (.cons (.var 1) (.cons (.cst (.str "s")) .nil))) (.ret (.var 4)) .skip) (.seq (.asg 5 (.bi .len (.cons (.var 2) .nil))) (.seq (.asg 6 (.bi .tupOf (.cons (.lc 1 (.cons (.var 5) .nil) (.nm 7) (.cst (.bl true)) (.bi .tupOf (.cons (.lc 1 (.cons (.var 5) .nil) (.nm 9) (.cst (.bl true)) (.bi .ix (.cons (.bi .ix (.cons (.var 3) (.cons (.var 9) .nil))) (.cons (.var 7) .nil))) [9]) .nil)) [7]) .nil))) (.ret (.call .backward (.cons (.var 4) (.cons (.var 6) .nil))))))))))))
def n_converted : List Str := ["n", "row", "one", "two", "parts", "part"]
def i_converted : IS := (.seq (.exp (.call .check (.cons (.var 0) (.cons (.bi .tupD (.cons (.var 2) (.cons (.var 3) .nil))) .nil)))) (.seq (.asg 4 (.call .partitions (.cons (.var 0) .nil))) (.seq (.ite (.bi .ne (.cons (.bi .len (.cons (.var 1) .nil)) (.cons (.bi .len (.cons (.var 4) .nil)) .nil))) .fail .skip) (.seq (.ite (.bi .eq (.cons (.var 2) (.cons (.var 3) .nil))) (.ret (.bi .tupOf (.cons (.var 1) .nil))) .skip) (.seq (.ite (.bi .ne (.cons (.var 2) (.cons (.cst (.str "m")) .nil))) (.asg 1 (.call .combined (.cons (.var 1) (.cons (.bi .tupOf (.cons (.lc 0 (.var 4) (.nm 5) (.cst (.bl true)) (.call .monomial_row (.cons (.var 2) (.cons (.var 5) .nil))) [5]) .nil)) .nil)))) .skip) (.ret (.call .from_monomials (.cons (.bi .tupOf (.cons (.var 1) .nil)) (.cons (.var 3) (.cons (.var 4) .nil))))))))))
def n_as_ratio : List Str := ["value"]
def i_as_ratio : IS := (.seq (.ite (.bi (.isC 0) (.cons (.var 0) .nil)) (.ret (.var 0)) .skip) (.seq (.ite (.not (.call .is_integer (.cons (.var 0) .nil))) .fail .skip) (.ret (.call .ratio (.cons (.var 0) (.cons (.cst (.int 1)) .nil))))))
def n_check_part : List Str := ["part"]
def i_check_part : IS := (.seq (.ite (.not (.call .is_partition (.cons (.var 0) .nil))) .fail .skip) (.ite (.bi .gt (.cons (.call .size (.cons (.var 0) .nil)) (.cons (.cst (.int 8)) .nil))) .fail .skip))
def n_added_parts : List Str := ["pairs", "table", "found", "d", "part", "c"]
def i_added_parts : IS := (.seq (.newD 1) (.seq (.forE 0 (.var 0) (.pr 4 5) (.ite (.din false (.var 4) 1) (.setD 1 (.var 4) (.call .r_add (.cons (.dget 1 (.var 4)) (.cons (.var 5) .nil)))) (.setD 1 (.var 4) (.var 5)))) (.seq (.newL 2 (.bi .lstD .nil)) (.seq (.forE 1 (.cons (.bi .add (.cons (.cst (.int 8)) (.cons (.cst (.int 1)) .nil))) .nil) (.nm 3) (.ext 2 (.lc 0 (.call .partitions (.cons (.var 3) .nil)) (.nm 4) (.and (.din false (.var 4) 1) (.not (.call .r_is_zero (.cons (.dget 1 (.var 4)) .nil)))) (.bi .tupD (.cons (.var 4) (.cons (.dget 1 (.var 4)) .nil))) [4]))) (.seq (.frz 2) (.ret (.bi .tupOf (.cons (.var 2) .nil))))))))
def n_symmetric : List Str := ["self", "base", "pairs", "found", "pair", "part", "_"]
def i_symmetric : IS := (.seq (.ite (.or (.not (.bi .isStr (.cons (.var 1) .nil))) (.or (.bi .ne (.cons (.bi .len (.cons (.var 1) .nil)) (.cons (.cst (.int 1)) .nil))) (.or (.bi .notInS (.cons (.var 1) (.cons (.cst (.str "mehps")) .nil))) (.not (.bi .isSeq (.cons (.var 2) .nil)))))) .fail .skip) (.seq (.newL 3 (.bi .lstD .nil)) (.seq (.forE 0 (.var 2) (.nm 4) (.seq (.ite (.or (.not (.bi .isTuple (.cons (.var 4) .nil))) (.or (.bi .ne (.cons (.bi .len (.cons (.var 4) .nil)) (.cons (.cst (.int 2)) .nil))) (.not (.call .is_partition (.cons (.bi .ix (.cons (.var 4) (.cons (.cst (.int 0)) .nil))) .nil))))) .fail .skip) (.app 3 (.bi .tupD (.cons (.bi .ix (.cons (.var 4) (.cons (.cst (.int 0)) .nil))) (.cons (.call .as_ratio (.cons (.bi .ix (.cons (.var 4) (.cons (.cst (.int 1)) .nil))) .nil)) .nil)))))) (.seq (.seq (.frz 3) (.forE 0 (.var 3) (.pr 5 6) (.exp (.call .check_part (.cons (.var 5) .nil))))) (.seq (.fld 1 0 (.var 1)) (.fld 1 1 (.call .added_parts (.cons (.var 3) .nil))))))))
def n_s_add : List Str := ["self", "other"]
def i_s_add : IS := (.seq (.ite (.bi .eq (.cons (.fld 1 0 (.var 0)) (.cons (.fld 1 0 (.var 1)) .nil))) (.ret (.call .symmetric (.cons (.fld 1 0 (.var 0)) (.cons (.bi .add (.cons (.fld 1 1 (.var 0)) (.cons (.fld 1 1 (.var 1)) .nil))) .nil)))) .skip) .fail)
def n_s_multiple : List Str := ["self", "part", "known", "c"]
def i_s_multiple : IS := (.seq (.forE 0 (.fld 1 1 (.var 0)) (.pr 2 3) (.ite (.bi .eq (.cons (.var 2) (.cons (.var 1) .nil))) (.ret (.var 3)) .skip)) (.ret (.call .zero .nil)))
def n_s_degree : List Str := ["self", "part", "_"]
def i_s_degree : IS := (.ret (.bi .maxL (.cons (.bi .add (.cons (.lc 0 (.fld 1 1 (.var 0)) (.pr 1 2) (.cst (.bl true)) (.call .size (.cons (.var 1) .nil)) [1, 2]) (.cons (.bi .lstD (.cons (.bi .neg (.cons (.cst (.int 1)) .nil)) .nil)) .nil))) .nil)))
def n_s_is_zero : List Str := ["self"]
def i_s_is_zero : IS := (.ret (.bi .eq (.cons (.bi .len (.cons (.fld 1 1 (.var 0)) .nil)) (.cons (.cst (.int 0)) .nil))))
def n_s_part_of : List Str := ["self", "d", "part", "c"]
def i_s_part_of : IS := (.ret (.call .symmetric (.cons (.fld 1 0 (.var 0)) (.cons (.lc 0 (.fld 1 1 (.var 0)) (.pr 2 3) (.bi .eq (.cons (.call .size (.cons (.var 2) .nil)) (.cons (.var 1) .nil))) (.bi .tupD (.cons (.var 2) (.cons (.var 3) .nil))) [2, 3]) .nil))))
def n_one : List Str := ["base", "part"]
def i_one : IS := (.ret (.call .symmetric (.cons (.var 0) (.cons (.bi .lstD (.cons (.bi .tupD (.cons (.var 1) (.cons (.cst (.int 1)) .nil))) .nil)) .nil))))
def n_in_base : List Str := ["f", "base", "pairs", "n", "part", "parts", "row", "own"]
def i_in_base : IS := (.seq (.exp (.call .check (.cons (.cst (.int 0)) (.cons (.bi .tupD (.cons (.var 1) .nil)) .nil)))) (.seq (.ite (.bi .eq (.cons (.fld 1 0 (.var 0)) (.cons (.var 1) .nil))) (.ret (.var 0)) .skip) (.seq (.asg 2 (.bi .lstD .nil)) (.seq (.forE 1 (.cons (.bi .add (.cons (.call .s_degree (.cons (.var 0) .nil)) (.cons (.cst (.int 1)) .nil))) .nil) (.nm 3) (.seq (.asg 4 (.call .s_part_of (.cons (.var 0) (.cons (.var 3) .nil)))) (.ite (.not (.call .s_is_zero (.cons (.var 4) .nil))) (.seq (.asg 5 (.call .partitions (.cons (.var 3) .nil))) (.seq (.asg 6 (.call .converted (.cons (.var 3) (.cons (.bi .tupOf (.cons (.lc 0 (.var 5) (.nm 7) (.cst (.bl true)) (.call .s_multiple (.cons (.var 4) (.cons (.var 7) .nil))) [7]) .nil)) (.cons (.fld 1 0 (.var 0)) (.cons (.var 1) .nil)))))) (.asg 2 (.bi .add (.cons (.var 2) (.cons (.bi .zipL (.cons (.var 5) (.cons (.var 6) .nil))) .nil)))))) .skip))) (.ret (.call .symmetric (.cons (.var 1) (.cons (.var 2) .nil))))))))
def n_check_degree : List Str := ["degree"]
def i_check_degree : IS := (.ite (.bi .gt (.cons (.var 0) (.cons (.cst (.int 8)) .nil))) .fail .skip)
def n_multiplied : List Str := ["left", "right", "found", "a", "x", "b", "y"]
def i_multiplied : IS := (.seq (.newL 2 (.bi .lstD .nil)) (.seq (.forE 0 (.var 0) (.pr 3 4) (.forE 0 (.var 1) (.pr 5 6) (.app 2 (.bi .tupD (.cons (.call .joined (.cons (.var 3) (.cons (.var 5) .nil))) (.cons (.call .r_mul (.cons (.var 4) (.cons (.var 6) .nil))) .nil)))))) (.seq (.frz 2) (.ret (.bi .lstOf (.cons (.fld 1 1 (.call .symmetric (.cons (.cst (.str "p")) (.cons (.var 2) .nil)))) .nil))))))
def n_put : List Str := ["f", "g", "inside", "pairs", "part", "x", "total", "k", "stretched", "own", "y", "j"]
def i_put : IS := (.seq (.exp (.call .check_degree (.cons (.bi .mul (.cons (.bi .max2 (.cons (.call .s_degree (.cons (.var 0) .nil)) (.cons (.cst (.int 0)) .nil))) (.cons (.bi .max2 (.cons (.call .s_degree (.cons (.var 1) .nil)) (.cons (.cst (.int 0)) .nil))) .nil))) .nil))) (.seq (.asg 2 (.call .in_base (.cons (.var 1) (.cons (.cst (.str "p")) .nil)))) (.seq (.ite (.not (.call .r_is_zero (.cons (.call .s_multiple (.cons (.var 2) (.cons (.bi .tupD .nil) .nil))) .nil))) .fail .skip) (.seq (.asg 3 (.bi .lstD .nil)) (.seq (.forE 0 (.fld 1 1 (.call .in_base (.cons (.var 0) (.cons (.cst (.str "p")) .nil)))) (.pr 4 5) (.seq (.asg 6 (.bi .lstD (.cons (.bi .tupD (.cons (.bi .tupD .nil) (.cons (.var 5) .nil))) .nil))) (.seq (.forE 0 (.var 4) (.nm 7) (.seq (.newL 8 (.lc 0 (.fld 1 1 (.var 2)) (.pr 9 10) (.cst (.bl true)) (.bi .tupD (.cons (.bi .tupOf (.cons (.lc 0 (.var 9) (.nm 11) (.cst (.bl true)) (.bi .mul (.cons (.var 7) (.cons (.var 11) .nil))) [11]) .nil)) (.cons (.var 10) .nil))) [9, 10])) (.seq (.frz 8) (.asg 6 (.call .multiplied (.cons (.var 6) (.cons (.var 8) .nil))))))) (.asg 3 (.bi .add (.cons (.var 3) (.cons (.var 6) .nil))))))) (.ret (.call .in_base (.cons (.call .symmetric (.cons (.cst (.str "p")) (.cons (.var 3) .nil))) (.cons (.fld 1 0 (.var 0)) .nil)))))))))
def n_law_partitions : List Str := ["_law_n", "_law_most", "_law_found", "_law_first", "_law_rest"]
def i_law_partitions : IS := (.seq (.ite (.bi .eq (.cons (.var 0) (.cons (.cst (.int 0)) .nil))) (.ret (.bi .lstD (.cons (.bi .tupD .nil) .nil))) .skip) (.seq (.newL 2 (.bi .lstD .nil)) (.seq (.forE 3 (.cons (.bi .min2 (.cons (.var 0) (.cons (.var 1) .nil))) (.cons (.cst (.int 0)) .nil)) (.nm 3) (.forE 0 (.call .law_partitions (.cons (.bi .sub (.cons (.var 0) (.cons (.var 3) .nil))) (.cons (.var 3) .nil))) (.nm 4) (.app 2 (.bi .add (.cons (.bi .tupD (.cons (.var 3) .nil)) (.cons (.var 4) .nil)))))) (.seq (.frz 2) (.ret (.var 2))))))
def n_law_list : List Str := ["_law_base", "_law_xs", "_law_most", "_law_row", "_law_x", "_law_after", "_law_k", "_law_powers", "_law_i"]
def i_law_list : IS := (.seq (.asg 3 (.bi .add (.cons (.bi .lstD (.cons (.cst (.int 1)) .nil)) (.cons (.lc 1 (.cons (.var 2) .nil) (.nm 6) (.cst (.bl true)) (.cst (.int 0)) [6]) .nil)))) (.seq (.forE 0 (.var 1) (.nm 4) (.seq (.newL 5 (.lc 1 (.cons (.bi .add (.cons (.var 2) (.cons (.cst (.int 1)) .nil))) .nil) (.nm 6) (.cst (.bl true)) (.cst (.int 0)) [6])) (.seq (.forE 1 (.cons (.bi .add (.cons (.var 2) (.cons (.cst (.int 1)) .nil))) .nil) (.nm 6) (.seq (.setL 5 (.var 6) (.bi .ix (.cons (.var 3) (.cons (.var 6) .nil)))) (.seq (.ite (.and (.bi .gt (.cons (.var 6) (.cons (.cst (.int 0)) .nil))) (.bi .eq (.cons (.var 0) (.cons (.cst (.str "e")) .nil)))) (.setL 5 (.var 6) (.bi .add (.cons (.ixO 5 (.var 6)) (.cons (.bi .mul (.cons (.var 4) (.cons (.bi .ix (.cons (.var 3) (.cons (.bi .sub (.cons (.var 6) (.cons (.cst (.int 1)) .nil))) .nil))) .nil))) .nil)))) .skip) (.ite (.and (.bi .gt (.cons (.var 6) (.cons (.cst (.int 0)) .nil))) (.bi .eq (.cons (.var 0) (.cons (.cst (.str "h")) .nil)))) (.setL 5 (.var 6) (.bi .add (.cons (.ixO 5 (.var 6)) (.cons (.bi .mul (.cons (.var 4) (.cons (.ixO 5 (.bi .sub (.cons (.var 6) (.cons (.cst (.int 1)) .nil)))) .nil))) .nil)))) .skip)))) (.seq (.frz 5) (.asg 3 (.var 5)))))) (.seq (.ite (.bi .eq (.cons (.var 0) (.cons (.cst (.str "p")) .nil))) (.seq (.newL 3 (.bi .add (.cons (.bi .lstD (.cons (.bi .len (.cons (.var 1) .nil)) .nil)) (.cons (.lc 1 (.cons (.var 2) .nil) (.nm 6) (.cst (.bl true)) (.cst (.int 0)) [6]) .nil)))) (.seq (.asg 7 (.lc 0 (.var 1) (.nm 4) (.cst (.bl true)) (.cst (.int 1)) [4])) (.seq (.forE 2 (.cons (.cst (.int 1)) (.cons (.bi .add (.cons (.var 2) (.cons (.cst (.int 1)) .nil))) .nil)) (.nm 6) (.seq (.asg 7 (.lc 1 (.cons (.bi .len (.cons (.var 1) .nil)) .nil) (.nm 8) (.cst (.bl true)) (.bi .mul (.cons (.bi .ix (.cons (.var 7) (.cons (.var 8) .nil))) (.cons (.bi .ix (.cons (.var 1) (.cons (.var 8) .nil))) .nil))) [8])) (.setL 3 (.var 6) (.bi .sum (.cons (.var 7) .nil))))) (.seq (.frz 3) .skip)))) .skip) (.ret (.var 3)))))
def n_law_power : List Str := ["_law_x", "_law_k", "_law_total", "_law_turn"]
def i_law_power : IS := (.seq (.asg 2 (.cst (.int 1))) (.seq (.forE 1 (.cons (.var 1) .nil) (.nm 3) (.asg 2 (.bi .mul (.cons (.var 2) (.cons (.var 0) .nil))))) (.ret (.var 2))))
def n_law_monomials : List Str := ["_law_part", "_law_xs", "_law_total", "_law_i"]
def i_law_monomials : IS := (.seq (.ite (.bi .eq (.cons (.bi .len (.cons (.var 0) .nil)) (.cons (.cst (.int 0)) .nil))) (.ret (.cst (.int 1))) .skip) (.seq (.ite (.bi .gt (.cons (.bi .len (.cons (.var 0) .nil)) (.cons (.bi .len (.cons (.var 1) .nil)) .nil))) (.ret (.cst (.int 0))) .skip) (.seq (.asg 2 (.call .law_monomials (.cons (.var 0) (.cons (.bi (.sl true false) (.cons (.var 1) (.cons (.cst (.int 1)) .nil))) .nil)))) (.seq (.forE 1 (.cons (.bi .len (.cons (.var 0) .nil)) .nil) (.nm 3) (.ite (.or (.bi .eq (.cons (.var 3) (.cons (.cst (.int 0)) .nil))) (.bi .ne (.cons (.bi .ix (.cons (.var 0) (.cons (.var 3) .nil))) (.cons (.bi .ix (.cons (.var 0) (.cons (.bi .sub (.cons (.var 3) (.cons (.cst (.int 1)) .nil))) .nil))) .nil)))) (.asg 2 (.bi .add (.cons (.var 2) (.cons (.bi .mul (.cons (.call .law_power (.cons (.bi .ix (.cons (.var 1) (.cons (.cst (.int 0)) .nil))) (.cons (.bi .ix (.cons (.var 0) (.cons (.var 3) .nil))) .nil))) (.cons (.call .law_monomials (.cons (.bi .add (.cons (.bi (.sl false true) (.cons (.var 0) (.cons (.var 3) .nil))) (.cons (.bi (.sl true false) (.cons (.var 0) (.cons (.bi .add (.cons (.var 3) (.cons (.cst (.int 1)) .nil))) .nil))) .nil))) (.cons (.bi (.sl true false) (.cons (.var 1) (.cons (.cst (.int 1)) .nil))) .nil))) .nil))) .nil)))) .skip)) (.ret (.var 2))))))
def n_law_smaller : List Str := ["_law_part", "_law_found", "_law_i", "_law_low", "_law_longer", "_law_start", "_law_k"]
def i_law_smaller : IS := (.seq (.asg 1 (.bi .lstD (.cons (.bi .tupD .nil) .nil))) (.seq (.forE 1 (.cons (.bi .len (.cons (.var 0) .nil)) .nil) (.nm 2) (.seq (.asg 3 (.cst (.int 0))) (.seq (.ite (.bi .lt (.cons (.bi .add (.cons (.var 2) (.cons (.cst (.int 1)) .nil))) (.cons (.bi .len (.cons (.var 0) .nil)) .nil))) (.asg 3 (.bi .ix (.cons (.var 0) (.cons (.bi .add (.cons (.var 2) (.cons (.cst (.int 1)) .nil))) .nil)))) .skip) (.seq (.newL 4 (.bi .lstD .nil)) (.seq (.forE 0 (.var 1) (.nm 5) (.forE 2 (.cons (.var 3) (.cons (.bi .add (.cons (.bi .ix (.cons (.var 0) (.cons (.var 2) .nil))) (.cons (.cst (.int 1)) .nil))) .nil)) (.nm 6) (.app 4 (.bi .add (.cons (.var 5) (.cons (.bi .tupD (.cons (.var 6) .nil)) .nil)))))) (.seq (.frz 4) (.asg 1 (.var 4)))))))) (.ret (.var 1))))
def n_law_schur : List Str := ["_law_part", "_law_xs", "_law_total", "_law_rest", "_law_share", "_law_k"]
def i_law_schur : IS := (.seq (.asg 0 (.bi .tupOf (.cons (.lc 0 (.var 0) (.nm 5) (.bi .gt (.cons (.var 5) (.cons (.cst (.int 0)) .nil))) (.var 5) [5]) .nil))) (.seq (.ite (.bi .eq (.cons (.bi .len (.cons (.var 0) .nil)) (.cons (.cst (.int 0)) .nil))) (.ret (.cst (.int 1))) .skip) (.seq (.ite (.bi .gt (.cons (.bi .len (.cons (.var 0) .nil)) (.cons (.bi .len (.cons (.var 1) .nil)) .nil))) (.ret (.cst (.int 0))) .skip) (.seq (.asg 2 (.cst (.int 0))) (.seq (.forE 0 (.call .law_smaller (.cons (.var 0) .nil)) (.nm 3) (.seq (.asg 4 (.call .law_power (.cons (.bi .ix (.cons (.var 1) (.cons (.bi .neg (.cons (.cst (.int 1)) .nil)) .nil))) (.cons (.bi .sub (.cons (.bi .sum (.cons (.var 0) .nil)) (.cons (.bi .sum (.cons (.var 3) .nil)) .nil))) .nil)))) (.ite (.bi .ne (.cons (.var 4) (.cons (.cst (.int 0)) .nil))) (.asg 2 (.bi .add (.cons (.var 2) (.cons (.bi .mul (.cons (.var 4) (.cons (.call .law_schur (.cons (.var 3) (.cons (.bi (.sl false true) (.cons (.var 1) (.cons (.bi .neg (.cons (.cst (.int 1)) .nil)) .nil))) .nil))) .nil))) .nil)))) .skip))) (.ret (.var 2)))))))
def n_law_value : List Str := ["_law_base", "_law_part", "_law_xs", "_law_row", "_law_total", "_law_k"]
def i_law_value : IS := (.seq (.ite (.bi .eq (.cons (.var 0) (.cons (.cst (.str "m")) .nil))) (.ret (.call .law_monomials (.cons (.var 1) (.cons (.var 2) .nil)))) .skip) (.seq (.ite (.bi .eq (.cons (.var 0) (.cons (.cst (.str "s")) .nil))) (.ret (.call .law_schur (.cons (.var 1) (.cons (.var 2) .nil)))) .skip) (.seq (.asg 3 (.call .law_list (.cons (.var 0) (.cons (.var 2) (.cons (.bi .sum (.cons (.var 1) .nil)) .nil))))) (.seq (.asg 4 (.cst (.int 1))) (.seq (.forE 0 (.var 1) (.nm 5) (.asg 4 (.bi .mul (.cons (.var 4) (.cons (.bi .ix (.cons (.var 3) (.cons (.var 5) .nil))) .nil))))) (.ret (.var 4)))))))
def n_law_at : List Str := ["_law_f", "_law_xs", "_law_total", "_law_part", "_law_x"]
def i_law_at : IS := (.seq (.asg 2 (.call .ratio (.cons (.cst (.int 0)) (.cons (.cst (.int 1)) .nil)))) (.seq (.forE 0 (.fld 1 1 (.var 0)) (.pr 3 4) (.asg 2 (.call .r_add (.cons (.var 2) (.cons (.call .r_mul (.cons (.var 4) (.cons (.call .ratio (.cons (.call .law_value (.cons (.fld 1 0 (.var 0)) (.cons (.var 3) (.cons (.var 1) .nil)))) (.cons (.cst (.int 1)) .nil))) .nil))) .nil))))) (.ret (.var 2))))
def n_law_monomial_list : List Str := ["_law_pick", "_law_xs", "_law_pairs", "_law_squares", "_law_x"]
def i_law_monomial_list : IS := (.seq (.asg 2 (.bi .lstD (.cons (.bi .mul (.cons (.bi .ix (.cons (.var 1) (.cons (.cst (.int 0)) .nil))) (.cons (.bi .ix (.cons (.var 1) (.cons (.cst (.int 1)) .nil))) .nil))) (.cons (.bi .mul (.cons (.bi .ix (.cons (.var 1) (.cons (.cst (.int 0)) .nil))) (.cons (.bi .ix (.cons (.var 1) (.cons (.cst (.int 2)) .nil))) .nil))) (.cons (.bi .mul (.cons (.bi .ix (.cons (.var 1) (.cons (.cst (.int 1)) .nil))) (.cons (.bi .ix (.cons (.var 1) (.cons (.cst (.int 2)) .nil))) .nil))) .nil))))) (.seq (.newL 3 (.lc 0 (.var 1) (.nm 4) (.cst (.bl true)) (.bi .mul (.cons (.var 4) (.cons (.var 4) .nil))) [4])) (.seq (.ite (.bi .eq (.cons (.var 0) (.cons (.cst (.int 0)) .nil))) (.ret (.var 1)) .skip) (.seq (.ite (.bi .eq (.cons (.var 0) (.cons (.cst (.int 1)) .nil))) (.ret (.var 2)) .skip) (.seq (.ite (.bi .eq (.cons (.var 0) (.cons (.cst (.int 2)) .nil))) (.seq (.frz 3) (.ret (.bi .add (.cons (.var 2) (.cons (.var 3) .nil))))) .skip) (.seq (.ite (.bi .eq (.cons (.var 0) (.cons (.cst (.int 3)) .nil))) (.seq (.frz 3) (.ret (.var 3))) .skip) (.ret (.bi .add (.cons (.var 1) (.cons (.var 2) .nil))))))))))

/-- a def's value: its arguments, told apart by their number and shape -/
def plain (n : Nat) (Φ : Fn → List D → Option D) (is : IS) (N : List Str) (ds : List D) : Option D := if ds.length = n then runS Φ is N ds else none
def meth (n c : Nat) (Φ : Fn → List D → Option D) (is : IS) (N : List Str) (ds : List D) : Option D := match ds with
  | .ins e _ :: _ => if e = c ∧ ds.length = n then runS Φ is N ds else none
  | _ => none
def oper (c : Nat) (Φ : Fn → List D → Option D) (is : IS) (N : List Str) (ds : List D) : Option D := match ds with
  | [.ins e _, .ins e' _] => if e = c ∧ e' = c then runS Φ is N ds else none
  | _ => none
def init (n c : Nat) (Φ : Fn → List D → Option D) (is : IS) (N : List Str) (ds : List D) : Option D := if ds.length + 1 = n then runI c Φ is N ds else none
def body (Φ : Fn → List D → Option D) : Fn → List D → Option D
  | .is_integer => plain 1 Φ i_is_integer n_is_integer
  | .ratio => init 3 0 Φ i_ratio n_ratio
  | .r_add => oper 0 Φ i_r_add n_r_add
  | .r_sub => oper 0 Φ i_r_sub n_r_sub
  | .r_mul => oper 0 Φ i_r_mul n_r_mul
  | .r_eq => oper 0 Φ i_r_eq n_r_eq
  | .r_over => meth 2 0 Φ i_r_over n_r_over
  | .r_is_zero => meth 1 0 Φ i_r_is_zero n_r_is_zero
  | .zero => plain 0 Φ i_zero n_zero
  | .is_partition => plain 1 Φ i_is_partition n_is_partition
  | .size => plain 1 Φ i_size n_size
  | .partitions_below => plain 2 Φ i_partitions_below n_partitions_below
  | .partitions => plain 1 Φ i_partitions n_partitions
  | .part_at => plain 2 Φ i_part_at n_part_at
  | .turned => plain 1 Φ i_turned n_turned
  | .holds => plain 2 Φ i_holds n_holds
  | .trimmed => plain 1 Φ i_trimmed n_trimmed
  | .rows => plain 3 Φ i_rows n_rows
  | .with_strip => plain 3 Φ i_with_strip n_with_strip
  | .joined => plain 2 Φ i_joined n_joined
  | .count_fillings => plain 3 Φ i_count_fillings n_count_fillings
  | .spreads => plain 3 Φ i_spreads n_spreads
  | .count_matrices => plain 3 Φ i_count_matrices n_count_matrices
  | .zero_one_matrices => plain 2 Φ i_zero_one_matrices n_zero_one_matrices
  | .whole_matrices => plain 2 Φ i_whole_matrices n_whole_matrices
  | .mergings => plain 2 Φ i_mergings n_mergings
  | .entry => plain 3 Φ i_entry n_entry
  | .check => plain 2 Φ i_check n_check
  | .monomial_row => plain 2 Φ i_monomial_row n_monomial_row
  | .combined => plain 2 Φ i_combined n_combined
  | .forward => plain 2 Φ i_forward n_forward
  | .backward => plain 2 Φ i_backward n_backward
  | .fillings_table => plain 1 Φ i_fillings_table n_fillings_table
  | .from_monomials => plain 3 Φ i_from_monomials n_from_monomials
  | .converted => plain 4 Φ i_converted n_converted
  | .as_ratio => plain 1 Φ i_as_ratio n_as_ratio
  | .check_part => plain 1 Φ i_check_part n_check_part
  | .added_parts => plain 1 Φ i_added_parts n_added_parts
  | .symmetric => init 3 1 Φ i_symmetric n_symmetric
  | .s_add => oper 1 Φ i_s_add n_s_add
  | .s_multiple => meth 2 1 Φ i_s_multiple n_s_multiple
  | .s_degree => meth 1 1 Φ i_s_degree n_s_degree
  | .s_is_zero => meth 1 1 Φ i_s_is_zero n_s_is_zero
  | .s_part_of => meth 2 1 Φ i_s_part_of n_s_part_of
  | .one => plain 2 Φ i_one n_one
  | .in_base => plain 2 Φ i_in_base n_in_base
  | .check_degree => plain 1 Φ i_check_degree n_check_degree
  | .multiplied => plain 2 Φ i_multiplied n_multiplied
  | .put => plain 2 Φ i_put n_put
  | .law_partitions => plain 2 Φ i_law_partitions n_law_partitions
  | .law_list => plain 3 Φ i_law_list n_law_list
  | .law_power => plain 2 Φ i_law_power n_law_power
  | .law_monomials => plain 2 Φ i_law_monomials n_law_monomials
  | .law_smaller => plain 1 Φ i_law_smaller n_law_smaller
  | .law_schur => plain 2 Φ i_law_schur n_law_schur
  | .law_value => plain 3 Φ i_law_value n_law_value
  | .law_at => plain 2 Φ i_law_at n_law_at
  | .law_monomial_list => plain 2 Φ i_law_monomial_list n_law_monomial_list

/-- the defs, L calls deep -/
noncomputable def Φ (L : Nat) : Fn → List D → Option D := Nat.rec (fun _ _ => none) (fun _ r => body r) L
theorem Φ_zero : Φ 0 = fun _ _ => none := rfl
theorem Φ_succ (L : Nat) : Φ (L + 1) = body (Φ L) := rfl
end FB

set_option Elab.async false
set_option linter.all false
set_option maxRecDepth 100000
set_option maxHeartbeats 4000000
/-! FBw: what the defs' bodies lean on. -/
namespace FB
open PySem PySem.Spec PyProof.Rows L2
def top (i : Nat) : Stmt := PySem.Challenge.pw_fivebases_k34_whole_functions_put_in.main.body.getD i (.Pass ⟨0, 0, 0, 0⟩)

structure Facts (M : Md) (Φ : Fn → List D → Option D) : Prop where
  len : M.mg "len" = none
  sum : M.mg "sum" = none
  min : M.mg "min" = none
  max : M.mg "max" = none
  range : M.mg "range" = none
  isinstance : M.mg "isinstance" = none
  tuple : M.mg "tuple" = none
  list : M.mg "list" = none
  dict : M.mg "dict" = none
  sorted : M.mg "sorted" = none
  int : M.mg "int" = none
  bool : M.mg "bool" = none
  str : M.mg "str" = none
  zip : M.mg "zip" = none
  gcdN : M.mg "gcd" = some (.builtin "math.gcd")
  mp : ∃ u, M.mg "MOST_partition" = some u ∧ RelV (.int 12) u
  md : ∃ u, M.mg "MOST_DEGREE" = some u ∧ RelV (.int 8) u
  bs : ∃ u, M.mg "BASES" = some u ∧ RelV (.str "mehps") u
  g_ratio : M.mg "Ratio" = some (.ref (M.CA 0))
  c0 : ClsAt M 0
  c1 : ClsAt M 1
  i0 : IsiC M 0
  m_ratio : MkAt M "Ratio" 3 0 (Φ .ratio) []
  m_ratio1 : MkAt M "Ratio" 3 0 (Φ .ratio) [.int 1]
  m_symmetric : MkAt M "Symmetric" 3 1 (Φ .symmetric) []
  o_r_add : OpAt M 0 .Add (Φ .r_add)
  o_r_sub : OpAt M 0 .Sub (Φ .r_sub)
  o_r_mul : OpAt M 0 .Mult (Φ .r_mul)
  t_r_is_zero : MtAt M 0 "is_zero" 1 (Φ .r_is_zero)
  t_r_over : MtAt M 0 "over" 2 (Φ .r_over)
  t_s_multiple : MtAt M 1 "multiple" 2 (Φ .s_multiple)
  t_s_degree : MtAt M 1 "degree" 1 (Φ .s_degree)
  t_s_is_zero : MtAt M 1 "is_zero" 1 (Φ .s_is_zero)
  t_s_part_of : MtAt M 1 "part_of" 2 (Φ .s_part_of)
  f_is_integer : FnAt M "is_integer" 1 (Φ .is_integer) []
  f_zero : FnAt M "zero" 0 (Φ .zero) []
  f_is_partition : FnAt M "is_partition" 1 (Φ .is_partition) []
  f_size : FnAt M "size" 1 (Φ .size) []
  f_partitions_below : FnAt M "_partitions_below" 2 (Φ .partitions_below) []
  f_partitions : FnAt M "partitions" 1 (Φ .partitions) []
  f_part_at : FnAt M "part_at" 2 (Φ .part_at) []
  f_turned : FnAt M "turned" 1 (Φ .turned) []
  f_holds : FnAt M "holds" 2 (Φ .holds) []
  f_trimmed : FnAt M "_trimmed" 1 (Φ .trimmed) []
  f_rows : FnAt M "_rows" 3 (Φ .rows) []
  f_with_strip : FnAt M "with_strip" 3 (Φ .with_strip) [.bl false]
  f_joined : FnAt M "joined" 2 (Φ .joined) []
  f_count_fillings : FnAt M "count_fillings" 3 (Φ .count_fillings) [.ktup]
  f_spreads : FnAt M "spreads" 3 (Φ .spreads) []
  f_count_matrices : FnAt M "count_matrices" 3 (Φ .count_matrices) []
  f_zero_one_matrices : FnAt M "zero_one_matrices" 2 (Φ .zero_one_matrices) []
  f_whole_matrices : FnAt M "whole_matrices" 2 (Φ .whole_matrices) []
  f_mergings : FnAt M "mergings" 2 (Φ .mergings) []
  f_entry : FnAt M "entry" 3 (Φ .entry) []
  f_check : FnAt M "check" 2 (Φ .check) []
  f_monomial_row : FnAt M "monomial_row" 2 (Φ .monomial_row) []
  f_combined : FnAt M "combined" 2 (Φ .combined) []
  f_forward : FnAt M "forward" 2 (Φ .forward) []
  f_backward : FnAt M "backward" 2 (Φ .backward) []
  f_fillings_table : FnAt M "fillings_table" 1 (Φ .fillings_table) []
  f_from_monomials : FnAt M "from_monomials" 3 (Φ .from_monomials) []
  f_converted : FnAt M "converted" 4 (Φ .converted) []
  f_as_ratio : FnAt M "as_ratio" 1 (Φ .as_ratio) []
  f_check_part : FnAt M "check_part" 1 (Φ .check_part) []
  f_added_parts : FnAt M "added_parts" 1 (Φ .added_parts) []
  f_one : FnAt M "one" 2 (Φ .one) []
  f_in_base : FnAt M "in_base" 2 (Φ .in_base) []
  f_check_degree : FnAt M "check_degree" 1 (Φ .check_degree) []
  f_multiplied : FnAt M "multiplied" 2 (Φ .multiplied) []
  f_put : FnAt M "put" 2 (Φ .put) []
  f_law_partitions : FnAt M "_law_partitions" 2 (Φ .law_partitions) []
  f_law_list : FnAt M "_law_list" 3 (Φ .law_list) []
  f_law_power : FnAt M "_law_power" 2 (Φ .law_power) []
  f_law_monomials : FnAt M "_law_monomials" 2 (Φ .law_monomials) []
  f_law_smaller : FnAt M "_law_smaller" 1 (Φ .law_smaller) []
  f_law_schur : FnAt M "_law_schur" 2 (Φ .law_schur) []
  f_law_value : FnAt M "_law_value" 3 (Φ .law_value) []
  f_law_at : FnAt M "_law_at" 2 (Φ .law_at) []
  f_law_monomial_list : FnAt M "_law_monomial_list" 2 (Φ .law_monomial_list) []
variable {M : Md} {Φ : Fn → List D → Option D} {N : List Str} {sc sc0 : Scope}
theorem Facts.g_most_partition (W : Facts M Φ) {pos : Pos} (hg : sc.names.lookup ("MOST_partition" : Str) = some .globalImplicit := by rfl) : SndE M Φ N sc sc0 (.Name "MOST_partition" pos) (.cst (.int 12)) := by
  obtain ⟨u, h1, h2⟩ := W.mp
  exact sn_glob hg h1 h2 fun _ => .int
theorem Facts.g_most_degree (W : Facts M Φ) {pos : Pos} (hg : sc.names.lookup ("MOST_DEGREE" : Str) = some .globalImplicit := by rfl) : SndE M Φ N sc sc0 (.Name "MOST_DEGREE" pos) (.cst (.int 8)) := by
  obtain ⟨u, h1, h2⟩ := W.md
  exact sn_glob hg h1 h2 fun _ => .int
theorem Facts.g_bases (W : Facts M Φ) {pos : Pos} (hg : sc.names.lookup ("BASES" : Str) = some .globalImplicit := by rfl) : SndE M Φ N sc sc0 (.Name "BASES" pos) (.cst (.str "mehps")) := by
  obtain ⟨u, h1, h2⟩ := W.bs
  exact sn_glob hg h1 h2 fun _ => .str
theorem Facts.gcd (W : Facts M Φ) {e : Expr} {es : List Expr} {a : IE} {p pos : Pos} (hg : sc.names.lookup ("gcd" : Str) = some .globalImplicit) (ha : SndA M Φ N sc sc0 (e :: es) a)
    (he : ∀ env, starEach (e :: es) env = (false, eval e env) :: starEach es env := by intro _; rfl) (hpl : ∀ env, (backTo pos (starEach es env)).any (·.1) = false := by intro _; rfl) : SndE M Φ N sc sc0 (.Call (.Name "gcd" p) (e :: es) [] pos) (.bi .gcd a) := fun X hX =>
  PE.imp (pe_callBfun (cd_gcd hX) (glob_of hX hg) (mg_of hX W.gcdN) (ha X hX) (he := he _) (hpl := hpl _)) fun σ H Q h => arg_reads h
end FB

set_option Elab.async false
set_option linter.all false
set_option maxRecDepth 100000
set_option maxHeartbeats 0
/-! FBh: the head: what stands behind the top (printed by gen_h.py). -/
namespace FB
open PySem PySem.Spec PyProof.Rows L2
def dd_is_integer : He.DefD := ⟨("is_integer", none), "is_integer", "is_integer", defArgs (top 9), defBody (top 9), defScope (top 9), [], []⟩
def dd_zero : He.DefD := ⟨("zero", none), "zero", "zero", defArgs (top 12), defBody (top 12), defScope (top 12), [], []⟩
def dd_is_partition : He.DefD := ⟨("is_partition", none), "is_partition", "is_partition", defArgs (top 15), defBody (top 15), defScope (top 15), [], []⟩
def dd_size : He.DefD := ⟨("size", none), "size", "size", defArgs (top 16), defBody (top 16), defScope (top 16), [], []⟩
def dd_partitions : He.DefD := ⟨("partitions", none), "partitions", "partitions", defArgs (top 18), defBody (top 18), defScope (top 18), [], []⟩
def dd_part_at : He.DefD := ⟨("part_at", none), "part_at", "part_at", defArgs (top 19), defBody (top 19), defScope (top 19), [], []⟩
def dd_turned : He.DefD := ⟨("turned", none), "turned", "turned", defArgs (top 20), defBody (top 20), defScope (top 20), [], []⟩
def dd_holds : He.DefD := ⟨("holds", none), "holds", "holds", defArgs (top 21), defBody (top 21), defScope (top 21), [], []⟩
def dd_with_strip : He.DefD := ⟨("with_strip", none), "with_strip", "with_strip", defArgs (top 24), defBody (top 24), defScope (top 24), [], [("upright", .bl false)]⟩
def dd_joined : He.DefD := ⟨("joined", none), "joined", "joined", defArgs (top 25), defBody (top 25), defScope (top 25), [], []⟩
def dd_count_fillings : He.DefD := ⟨("count_fillings", none), "count_fillings", "count_fillings", defArgs (top 27), defBody (top 27), defScope (top 27), [.adr (He.dflAt ("count_fillings", none) 0)], []⟩
def dd_spreads : He.DefD := ⟨("spreads", none), "spreads", "spreads", defArgs (top 29), defBody (top 29), defScope (top 29), [], []⟩
def dd_count_matrices : He.DefD := ⟨("count_matrices", none), "count_matrices", "count_matrices", defArgs (top 30), defBody (top 30), defScope (top 30), [], []⟩
def dd_zero_one_matrices : He.DefD := ⟨("zero_one_matrices", none), "zero_one_matrices", "zero_one_matrices", defArgs (top 31), defBody (top 31), defScope (top 31), [], []⟩
def dd_whole_matrices : He.DefD := ⟨("whole_matrices", none), "whole_matrices", "whole_matrices", defArgs (top 32), defBody (top 32), defScope (top 32), [], []⟩
def dd_mergings : He.DefD := ⟨("mergings", none), "mergings", "mergings", defArgs (top 33), defBody (top 33), defScope (top 33), [], []⟩
def dd_entry : He.DefD := ⟨("entry", none), "entry", "entry", defArgs (top 34), defBody (top 34), defScope (top 34), [], []⟩
def dd_check : He.DefD := ⟨("check", none), "check", "check", defArgs (top 35), defBody (top 35), defScope (top 35), [], []⟩
def dd_monomial_row : He.DefD := ⟨("monomial_row", none), "monomial_row", "monomial_row", defArgs (top 36), defBody (top 36), defScope (top 36), [], []⟩
def dd_combined : He.DefD := ⟨("combined", none), "combined", "combined", defArgs (top 37), defBody (top 37), defScope (top 37), [], []⟩
def dd_forward : He.DefD := ⟨("forward", none), "forward", "forward", defArgs (top 38), defBody (top 38), defScope (top 38), [], []⟩
def dd_backward : He.DefD := ⟨("backward", none), "backward", "backward", defArgs (top 39), defBody (top 39), defScope (top 39), [], []⟩
def dd_fillings_table : He.DefD := ⟨("fillings_table", none), "fillings_table", "fillings_table", defArgs (top 40), defBody (top 40), defScope (top 40), [], []⟩
def dd_from_monomials : He.DefD := ⟨("from_monomials", none), "from_monomials", "from_monomials", defArgs (top 41), defBody (top 41), defScope (top 41), [], []⟩
def dd_converted : He.DefD := ⟨("converted", none), "converted", "converted", defArgs (top 42), defBody (top 42), defScope (top 42), [], []⟩
def dd_as_ratio : He.DefD := ⟨("as_ratio", none), "as_ratio", "as_ratio", defArgs (top 46), defBody (top 46), defScope (top 46), [], []⟩
def dd_check_part : He.DefD := ⟨("check_part", none), "check_part", "check_part", defArgs (top 53), defBody (top 53), defScope (top 53), [], []⟩
def dd_added_parts : He.DefD := ⟨("added_parts", none), "added_parts", "added_parts", defArgs (top 57), defBody (top 57), defScope (top 57), [], []⟩
def dd_one : He.DefD := ⟨("one", none), "one", "one", defArgs (top 61), defBody (top 61), defScope (top 61), [], []⟩
def dd_in_base : He.DefD := ⟨("in_base", none), "in_base", "in_base", defArgs (top 63), defBody (top 63), defScope (top 63), [], []⟩
def dd_check_degree : He.DefD := ⟨("check_degree", none), "check_degree", "check_degree", defArgs (top 64), defBody (top 64), defScope (top 64), [], []⟩
def dd_multiplied : He.DefD := ⟨("multiplied", none), "multiplied", "multiplied", defArgs (top 66), defBody (top 66), defScope (top 66), [], []⟩
def dd_put : He.DefD := ⟨("put", none), "put", "put", defArgs (top 67), defBody (top 67), defScope (top 67), [], []⟩
def dd_partitions_below : He.DefD := ⟨("_partitions_below", none), "_partitions_below", "_partitions_below", defArgs (top 17), defBody (top 17), defScope (top 17), [], []⟩
def dd_trimmed : He.DefD := ⟨("_trimmed", none), "_trimmed", "_trimmed", defArgs (top 22), defBody (top 22), defScope (top 22), [], []⟩
def dd_rows : He.DefD := ⟨("_rows", none), "_rows", "_rows", defArgs (top 23), defBody (top 23), defScope (top 23), [], []⟩
def dd_law_partitions : He.DefD := ⟨("_law_partitions", none), "_law_partitions", "_law_partitions", defArgs (top 71), defBody (top 71), defScope (top 71), [], []⟩
def dd_law_list : He.DefD := ⟨("_law_list", none), "_law_list", "_law_list", defArgs (top 72), defBody (top 72), defScope (top 72), [], []⟩
def dd_law_power : He.DefD := ⟨("_law_power", none), "_law_power", "_law_power", defArgs (top 73), defBody (top 73), defScope (top 73), [], []⟩
def dd_law_monomials : He.DefD := ⟨("_law_monomials", none), "_law_monomials", "_law_monomials", defArgs (top 74), defBody (top 74), defScope (top 74), [], []⟩
def dd_law_smaller : He.DefD := ⟨("_law_smaller", none), "_law_smaller", "_law_smaller", defArgs (top 75), defBody (top 75), defScope (top 75), [], []⟩
def dd_law_schur : He.DefD := ⟨("_law_schur", none), "_law_schur", "_law_schur", defArgs (top 76), defBody (top 76), defScope (top 76), [], []⟩
def dd_law_value : He.DefD := ⟨("_law_value", none), "_law_value", "_law_value", defArgs (top 77), defBody (top 77), defScope (top 77), [], []⟩
def dd_law_at : He.DefD := ⟨("_law_at", none), "_law_at", "_law_at", defArgs (top 80), defBody (top 80), defScope (top 80), [], []⟩
def dd_law_monomial_list : He.DefD := ⟨("_law_monomial_list", none), "_law_monomial_list", "_law_monomial_list", defArgs (top 81), defBody (top 81), defScope (top 81), [], []⟩
def dd_ratio : He.DefD := ⟨("Ratio", some "__init__"), "__init__", "Ratio.__init__", defArgs (inClass (top 11) 0), defBody (inClass (top 11) 0), defScope (inClass (top 11) 0), [.int 1], []⟩
def dd_r_add : He.DefD := ⟨("Ratio", some "__add__"), "__add__", "Ratio.__add__", defArgs (inClass (top 11) 1), defBody (inClass (top 11) 1), defScope (inClass (top 11) 1), [], []⟩
def dd_r_sub : He.DefD := ⟨("Ratio", some "__sub__"), "__sub__", "Ratio.__sub__", defArgs (inClass (top 11) 2), defBody (inClass (top 11) 2), defScope (inClass (top 11) 2), [], []⟩
def dd_r_mul : He.DefD := ⟨("Ratio", some "__mul__"), "__mul__", "Ratio.__mul__", defArgs (inClass (top 11) 3), defBody (inClass (top 11) 3), defScope (inClass (top 11) 3), [], []⟩
def dd_r_eq : He.DefD := ⟨("Ratio", some "__eq__"), "__eq__", "Ratio.__eq__", defArgs (inClass (top 11) 5), defBody (inClass (top 11) 5), defScope (inClass (top 11) 5), [], []⟩
def dd_r_over : He.DefD := ⟨("Ratio", some "over"), "over", "Ratio.over", defArgs (inClass (top 11) 8), defBody (inClass (top 11) 8), defScope (inClass (top 11) 8), [], []⟩
def dd_r_is_zero : He.DefD := ⟨("Ratio", some "is_zero"), "is_zero", "Ratio.is_zero", defArgs (inClass (top 11) 13), defBody (inClass (top 11) 13), defScope (inClass (top 11) 13), [], []⟩
def dd_symmetric : He.DefD := ⟨("Symmetric", some "__init__"), "__init__", "Symmetric.__init__", defArgs (inClass (top 59) 0), defBody (inClass (top 59) 0), defScope (inClass (top 59) 0), [], []⟩
def dd_s_add : He.DefD := ⟨("Symmetric", some "__add__"), "__add__", "Symmetric.__add__", defArgs (inClass (top 59) 3), defBody (inClass (top 59) 3), defScope (inClass (top 59) 3), [], []⟩
def dd_s_multiple : He.DefD := ⟨("Symmetric", some "multiple"), "multiple", "Symmetric.multiple", defArgs (inClass (top 59) 7), defBody (inClass (top 59) 7), defScope (inClass (top 59) 7), [], []⟩
def dd_s_degree : He.DefD := ⟨("Symmetric", some "degree"), "degree", "Symmetric.degree", defArgs (inClass (top 59) 8), defBody (inClass (top 59) 8), defScope (inClass (top 59) 8), [], []⟩
def dd_s_is_zero : He.DefD := ⟨("Symmetric", some "is_zero"), "is_zero", "Symmetric.is_zero", defArgs (inClass (top 59) 9), defBody (inClass (top 59) 9), defScope (inClass (top 59) 9), [], []⟩
def dd_s_part_of : He.DefD := ⟨("Symmetric", some "part_of"), "part_of", "Symmetric.part_of", defArgs (inClass (top 59) 10), defBody (inClass (top 59) 10), defScope (inClass (top 59) 10), [], []⟩
def dd__law_numbers : He.DefD := ⟨("_law_numbers", none), "_law_numbers", "_law_numbers", defArgs (top 69), defBody (top 69), defScope (top 69), [], []⟩
def dd__law_next : He.DefD := ⟨("_law_next", none), "_law_next", "_law_next", defArgs (top 70), defBody (top 70), defScope (top 70), [], []⟩
def dd__law_letters : He.DefD := ⟨("_law_letters", none), "_law_letters", "_law_letters", defArgs (top 78), defBody (top 78), defScope (top 78), [], []⟩
def dd__law_function : He.DefD := ⟨("_law_function", none), "_law_function", "_law_function", defArgs (top 79), defBody (top 79), defScope (top 79), [], []⟩
def dd__law_reason : He.DefD := ⟨("_law_reason", none), "_law_reason", "_law_reason", defArgs (top 82), defBody (top 82), defScope (top 82), [], []⟩
def dd_law : He.DefD := ⟨("law", none), "law", "law", defArgs (top 83), defBody (top 83), defScope (top 83), [], []⟩
def fnl0 : List He.DefD := [dd_is_integer, dd_zero, dd_is_partition, dd_size, dd_partitions, dd_part_at, dd_turned, dd_holds, dd_with_strip, dd_joined, dd_count_fillings, dd_spreads, dd_count_matrices, dd_zero_one_matrices, dd_whole_matrices, dd_mergings, dd_entry, dd_check, dd_monomial_row, dd_combined, dd_forward, dd_backward, dd_fillings_table, dd_from_monomials, dd_converted]
def fnl1 : List He.DefD := [dd_as_ratio, dd_check_part, dd_added_parts, dd_one, dd_in_base, dd_check_degree, dd_multiplied, dd_put, dd_partitions_below, dd_trimmed, dd_rows, dd_law_partitions, dd_law_list, dd_law_power, dd_law_monomials, dd_law_smaller, dd_law_schur, dd_law_value, dd_law_at, dd_law_monomial_list, dd_ratio, dd_r_add, dd_r_sub, dd_r_mul, dd_r_eq]
def fnl2 : List He.DefD := [dd_r_over, dd_r_is_zero, dd_symmetric, dd_s_add, dd_s_multiple, dd_s_degree, dd_s_is_zero, dd_s_part_of, dd__law_numbers, dd__law_next, dd__law_letters, dd__law_function, dd__law_reason, dd_law]
def fnl : List He.DefD := fnl0 ++ fnl1 ++ fnl2
def fal0 : List He.Fa := [.glo "Ratio", .glo "Refused", .glo "Symmetric", .glo "_law_at", .glo "_law_function", .glo "_law_letters", .glo "_law_list", .glo "_law_monomial_list", .glo "_law_monomials", .glo "_law_next", .glo "_law_numbers", .glo "_law_partitions", .glo "_law_power", .glo "_law_reason", .glo "_law_schur", .glo "_law_smaller", .glo "_law_value", .glo "_partitions_below", .glo "_rows", .glo "_trimmed", .glo "added_parts", .glo "as_ratio", .glo "backward", .glo "check", .glo "check_degree"]
def fal1 : List He.Fa := [.glo "check_part", .glo "combined", .glo "converted", .glo "count_fillings", .glo "count_matrices", .glo "entry", .glo "fillings_table", .glo "forward", .glo "from_monomials", .glo "holds", .glo "in_base", .glo "is_integer", .glo "is_partition", .glo "joined", .glo "law", .glo "mergings", .glo "monomial_row", .glo "multiplied", .glo "one", .glo "part_at", .glo "partitions", .glo "put", .glo "size", .glo "spreads", .glo "turned"]
def fal2 : List He.Fa := [.glo "whole_matrices", .glo "with_strip", .glo "zero", .glo "zero_one_matrices", .free "len", .free "sum", .free "min", .free "max", .free "range", .free "isinstance", .free "tuple", .free "list", .free "dict", .free "sorted", .free "int", .free "bool", .free "str", .free "zip", .free "abs", .free "super", .int "MOST_partition" 12, .int "MOST_DEGREE" 8, .str "BASES" "mehps", .cls "Ratio", .mkr "Ratio"]
def fal3 : List He.Fa := [.cls "Symmetric", .mkr "Symmetric", .noat "Ratio" "n", .noat "Ratio" "d", .noat "Symmetric" "base", .noat "Symmetric" "terms", .meth "Ratio" "is_zero", .meth "Ratio" "over", .meth "Symmetric" "multiple", .meth "Symmetric" "degree", .meth "Symmetric" "is_zero", .meth "Symmetric" "part_of", .meth "Ratio" "__add__", .meth "Ratio" "__sub__", .meth "Ratio" "__mul__", .meth "Ratio" "__eq__", .meth "Symmetric" "__add__", .keep "Refused"]
def fal : List He.Fa := fal0 ++ fal1 ++ fal2 ++ fal3
def loose0 : List Str := ["_wall", "__name__", "Fault", "ZeroDivisor", "Malformed", "Refused", "PIECE", "is_integer", "written_integer", "Ratio", "zero", "MOST_partition", "is_partition", "size", "_partitions_below", "partitions", "part_at", "turned", "holds", "_trimmed", "_rows", "with_strip", "joined", "count_fillings", "spreads"]
def loose1 : List Str := ["count_matrices", "zero_one_matrices", "whole_matrices", "mergings", "entry", "check", "monomial_row", "combined", "forward", "backward", "fillings_table", "from_monomials", "converted", "MOST_letters", "check_letters", "as_ratio", "size_text", "sum_pieces", "monomials", "BASES", "MOST_DEGREE", "check_part", "descending", "choices", "coefficient_in"]
def loose2 : List Str := ["added_parts", "part_text", "Symmetric", "meaning_terms", "one", "in_base", "check_degree", "multiplied", "put", "_law_numbers", "_law_next", "_law_partitions", "_law_list", "_law_power", "_law_monomials", "_law_smaller", "_law_schur", "_law_value", "_law_letters", "_law_function", "_law_at", "_law_monomial_list", "_law_reason"]
def loose : List Str := loose0 ++ loose1 ++ loose2
def isKT (K : PySem.W.Frag) (a : Addr) : Bool := match K.lookup a with
  | some o => decide (o.cls = .type "tuple") && match o.data with
    | .seq xs _ => xs.isEmpty
    | _ => false
  | none => false
/-- further facts of the fragment -/
def extraB (K : PySem.W.Frag) : Bool :=
  PySem.W.selfFirst K (He.ga K "Ratio") && (He.eqO (PySem.W.findIn K (.ref (He.ga K "Ratio")) "__class__") (some (some (.builtin "object.__class__"))) &&
  (He.eqO (PySem.W.specialIn K (.builtin "object.__class__") "__get__") (some (some (.builtin "getset_descriptor.__get__"))) && (decide (PySem.W.takesIn K (.builtin "object.__class__") = some true) &&
  (decide (PySem.W.mroIn K (He.ga K "Ratio") (.type "object") = some true) && (decide (PySem.W.kitOne K (.type "int") (.ref (He.ga K "Ratio")) = some false) &&
  (He.eqO (PySem.W.nsIn K mainGlobals "gcd") (some (some (.builtin "math.gcd"))) && (isKT K (He.dflAt ("count_fillings", none) 0 K) && PySem.W.selfFirst K (He.ga K "Symmetric"))))))))
/-! the class Refused, Ratio's != -/
/-- the class object at C: its names' dict, its bases' order, has it a dict, its __new__ -/
def excB (K : PySem.W.Frag) (C : Addr) : Option (Addr × List Value × Bool × String) := match K.lookup C with
  | some ⟨.type ty, _, .cls cd, sl⟩ => (match cd.mro with
    | .ref c :: bm => (match sl.toList with
      | [_, _, _, _, some (.builtin nid), _] => if ty = "type" ∧ c = C ∧ cd.hasDel = false then some (cd.ns, bm, cd.hasDict, nid) else none
      | _ => none)
    | _ => none)
  | _ => none
theorem excB_ok {K : PySem.W.Frag} {C N : Addr} {bm : List Value} {hd : Bool} {nid : String} (h : excB K C = some (N, bm, hd, nid)) : ∃ nm q bs sn sub ab col dd k0 k1 k2 k3 k5, K.lookup C = some (excClassObj nm q C N bs bm hd sn sub ab col dd k0 k1 k2 k3 k5 nid) := by
  unfold excB at h
  split at h
  · rename_i ty dd cd sl q
    split at h
    · rename_i c bm' hm
      split at h
      · rename_i k0 k1 k2 k3 nid' k5 hs
        split at h
        · rename_i hc
          obtain ⟨h1, h2, h3⟩ := hc
          cases h
          obtain ⟨nm, bs, mro, ns, qn, hd', sn, sb, ab, col, del⟩ := cd
          dsimp only at hm h3
          subst h1 h2 hm h3
          have e : sl = #[k0, k1, k2, k3, some (.builtin nid), k5] := by
            rw [← hs]
          subst e
          exact ⟨nm, qn, bs, sn, sb, ab, col, dd, k0, k1, k2, k3, k5, q⟩
        · cases h
      · cases h
    · cases h
  · cases h
def riA (K : PySem.W.Frag) : Addr := He.ma K (He.ga K "Refused") "__init__"
abbrev FnC : Type := Option (Str × Str × Arguments × FuncBody × Scope × Addr × List Str × Addr)
/-- a method that closes over its class -/
def fnC (K : PySem.W.Frag) : FnC := match K.lookup (riA K) with
  | some ⟨_, _, .func fd, _⟩ => some (fd.name, fd.qualname, fd.params, fd.body, fd.scope, fd.globals, fd.closure.map (·.1), fd.builtins)
  | _ => none
def fnCval : FnC := some ("__init__", "Refused.__init__", defArgs (inClass (top 6) 0), .stmts (defBody (inClass (top 6) 0)), defScope (inClass (top 6) 0), mainGlobals, ["__class__"], builtinsNs)
def fileB (K : PySem.W.Frag) (a : Addr) : Bool := match K.lookup a with
  | some ⟨_, _, .fields vs, _⟩ => (match (vs[2]? : Option Value) with
    | some (Value.str fl _) => (PySem.Challenge.pw_fivebases_k34_whole_functions_put_in.main.file : Str) == fl
    | _ => false)
  | _ => false
def cellB (K : PySem.W.Frag) (cc C : Addr) : Bool := match K.lookup cc with
  | some ⟨_, _, .cell (some (.ref D)), _⟩ => decide (D = C)
  | _ => false
def noneV : Value → Bool
  | .none => true
  | _ => false
def riB (K : PySem.W.Frag) : Bool := match K.lookup (riA K) with
  | some ⟨_, _, .func fd, _⟩ => noneV fd.defaults && (noneV fd.kwdefaults && (PySem.W.codeIn K fd.code "Refused.__init__" && ((match fd.code with
      | .ref cda => fileB K cda
      | _ => false) && (match fd.closure with
      | [(_, cc)] => cellB K cc (He.ga K "Refused")
      | _ => false))))
  | _ => false
def oexB (K : PySem.W.Frag) (C : Addr) : Bool := (match excB K C with
    | some (_, bm, true, nid) => decide (nid = "ValueError.__new__") && PySem.HandSPX.refsVE bm
    | _ => false) && (He.eqO (PySem.W.findIn K (.ref C) "__setattr__") (some (some (.builtin "object.__setattr__"))) && (decide (PySem.W.subIn K (.ref C) (.type "BaseException") = some true) && (decide (PySem.W.typeIn K (.ref C) = some (.type "type")) && PySem.W.keepIn K (.ref C))))
def rfB (K : PySem.W.Frag) : Bool := oexB K (He.ga K "Refused") && (riB K && (He.eqO (PySem.W.findIn K (.ref (He.ga K "Refused")) "__init__") (some (some (.ref (riA K)))) && (decide (PySem.W.typeIn K (.ref (riA K)) = some (.type "function")) &&
  (decide (PySem.W.mroIn K (He.ga K "Refused") (.ref (He.ga K "Refused")) = some true) && (He.eqO (PySem.W.ks_superIn K (He.ga K "Refused") (He.ga K "Refused") "__init__") (some (some (.builtin "ValueError.__init__"))) && (decide (PySem.W.subIn K (.ref (He.ga K "Refused")) (.type "ValueError") = some true) &&
  (He.eqO (PySem.W.nsIn K cStatics "thirdparty.any") (some none) && (He.eqO (PySem.W.findIn K (.ref (He.ga K "Refused")) "reason") (some none) && (xfB K (He.ga K "Refused") && decide (PySem.W.exmOne K (.ref (He.ga K "Refused")) (.ref (He.ga K "Refused")) = some true))))))))))
def reA (K : PySem.W.Frag) : Addr := He.ma K (He.ga K "Ratio") "__eq__"
def neB (K : PySem.W.Frag) : Bool := (match excB K (He.ga K "Ratio") with
    | some (N, [.type t], _, _) => decide (t = "object") && (PySem.W.nsOkIn K N && (He.eqO (PySem.W.nsIn K N "__eq__") (some (some (.ref (reA K)))) && He.eqO (PySem.W.nsIn K N "__ne__") (some none)))
    | _ => false) && decide (PySem.W.typeIn K (.ref (reA K)) = some (.type "function"))

abbrev R : PySem.W.OpenRow := PySem.W.OpenLaw.row PySem.Challenge.rw_fivebases_k34_whole_functions_put_in
/-- what is asked of the fragment -/
abbrev Al2 := He.AlD × Bool × Bool × Bool × FnC
def obsK (K : PySem.W.Frag) : Al2 := (He.obsD fal fnl K, extraB K, rfB K, neB K, fnC K)
/-- what a function or a class names; what a names' dict or a tuple holds -/
def rr1 (g : Addr → Option Obj) (a : Addr) : List Addr := match g a with
  | some ⟨_, _, .func fd, _⟩ => He.refV fd.code ++ (He.refV fd.defaults ++ (He.refV fd.kwdefaults ++ fd.closure.map (·.2)))
  | some ⟨_, _, .cls cd, _⟩ => [cd.ns]
  | _ => []
def rr2 (g : Addr → Option Obj) (a : Addr) : List Addr := match g a with
  | some ⟨_, _, .dict es _, _⟩ => es.toList.flatMap fun e => He.refV e.val
  | some ⟨_, _, .seq its _, _⟩ => its.toList.flatMap He.refV
  | _ => []
/-- the objects that are asked of -/
def asE (g : Addr → Option Obj) : List Addr := (fun l1 => (fun l2 => (fun l3 => mainGlobals :: cStatics :: (l1 ++ (l2 ++ (l3 ++ l3.flatMap (rr1 g))))) (l2.flatMap (rr2 g))) (l1.flatMap (rr1 g))) (rr2 g mainGlobals)
def obs2 (n : Nat) (g : Addr → Option Obj) : Al2 := obsK (He.frG g (asE g))
def hk : PySem.W.Hook where
  α := Al2
  obs := fun s => obs2 5 s.heap.get?
  val := fun _ => (He.valD fnl, true, true, true, fnCval)
  says := fun _ h => ∃ K : PySem.W.Frag, K.In h ∧ obsK K = (He.valD fnl, true, true, true, fnCval)
  of := fun _ _ e => ⟨_, He.frG_in, e⟩
  keeps := fun _ _ _ ⟨K, hK, c⟩ k => ⟨K, PySem.W.Frag.In.keeps hK k, c⟩
def ob (s : PySem.W.SharedT) : Al2 := obs2 5 (HandSHeadRun.getT s)
theorem ob_eq (s : PySem.W.SharedT) : ob s = hk.obs s.abs := by
  have e : HandSHeadRun.getT s = s.abs.heap.get? := funext (HandSHeadRun.getT_eq s)
  show obs2 5 (HandSHeadRun.getT s) = obs2 5 s.abs.heap.get?
  rw [e]
theorem run (w : World) : HandSHeadRun.RunEqI R (PySem.W.view R.prog [0, 83]) hk ob 20000 loose w := by
  unfold HandSHeadRun.RunEqI
  kernel_rfl
end FB

set_option Elab.async false
set_option linter.all false
set_option maxRecDepth 100000
set_option maxHeartbeats 1000000
/-! FBu: more calls deep, the same values. -/
namespace FB
open PySem L2
def LeF (Φ Ψ : Fn → List D → Option D) : Prop := ∀ f ds d, Φ f ds = some d → Ψ f ds = some d
theorem lcGo_mono {fT fT' fE fE' : En → Option D} (h1 : ∀ e d, fT e = some d → fT' e = some d) (h2 : ∀ e d, fE e = some d → fE' e = some d) {tg : Tg} {env : En} : ∀ (l : List D) ys, lcGo fT fE tg env l = some ys → lcGo fT' fE' tg env l = some ys
  | [], ys, h => h
  | x :: r, ys, h => by
    unfold lcGo at h ⊢
    rcases he1 : tgSet tg x env with _ | e1
    · rw [he1] at h; cases h
    · rw [he1] at h
      simp only at h ⊢
      rcases e2 : fT e1 with _ | d2
      · rw [e2] at h; cases h
      · rw [e2] at h
        rw [h1 _ _ e2]
        rcases d2 with _ | b | _ | _ | _ | _ | _ | _ | _ <;> try (cases h; done)
        cases b
        · exact lcGo_mono h1 h2 r ys h
        · simp only at h ⊢
          rcases e3 : fE e1 with _ | y
          · rw [e3] at h; cases h
          · rw [e3] at h
            rw [h2 _ _ e3]
            simp only at h ⊢
            rcases e4 : lcGo fT fE tg env r with _ | zs
            · rw [e4] at h; cases h
            · rw [e4] at h
              rw [lcGo_mono h1 h2 r zs e4]
              exact h
theorem forGo_mono {b b' : En → Option Fl} (h1 : ∀ e d, b e = some d → b' e = some d) {tg : Tg} : ∀ (l : List D) env r, forGo b tg l env = some r → forGo b' tg l env = some r
  | [], env, r, h => h
  | x :: l, env, r, h => by
    unfold forGo at h ⊢
    split at h <;> try (cases h; done)
    split at h <;> try (cases h; done)
    · rename_i e2
      rw [h1 _ _ e2]
      exact forGo_mono h1 l _ _ h
    · rename_i e2
      rw [h1 _ _ e2]
      exact h
theorem map_mono {α β : Type} {o o' : Option α} (f : α → β) (ho : ∀ d, o = some d → o' = some d) {r : β} (h : o.map f = some r) : o'.map f = some r := by
  rcases o with _ | d
  · cases h
  · rw [ho d rfl]; exact h
section
variable {Φ Ψ : Fn → List D → Option D} (hl : LeF Φ Ψ)
include hl
theorem evalE_mono : ∀ (e : IE) env d, evalE Φ e env = some d → evalE Ψ e env = some d := by
  intro e
  induction e with
  | var i => intro env d h; exact h
  | cst c => intro env d h; exact h
  | nil => intro env d h; exact h
  | cons a r iha ihr =>
    intro env d h
    unfold evalE at h ⊢
    rcases ha : evalE Φ a env with _ | x <;> rw [ha] at h
    · cases h
    rw [iha _ _ ha]
    rcases hr : evalE Φ r env with _ | y <;> rw [hr] at h
    · cases h
    rw [ihr _ _ hr]
    exact h
  | bi b a ih =>
    intro env d h
    unfold evalE at h ⊢
    rcases ha : evalE Φ a env with _ | x <;> rw [ha] at h
    · cases h
    rw [ih _ _ ha]
    exact h
  | call f a ih =>
    intro env d h
    unfold evalE at h ⊢
    rcases ha : evalE Φ a env with _ | x <;> rw [ha] at h
    · cases h
    rw [ih _ _ ha]
    rcases x with _ | _ | _ | _ | _ | _ | _ | _ | _ <;> try (cases h; done)
    exact hl _ _ _ h
  | not a ih =>
    intro env d h
    unfold evalE at h ⊢
    rcases ha : evalE Φ a env with _ | x <;> rw [ha] at h
    · cases h
    rw [ih _ _ ha]
    exact h
  | and a b iha ihb =>
    intro env d h
    unfold evalE at h ⊢
    rcases ha : evalE Φ a env with _ | x <;> rw [ha] at h
    · cases h
    rw [iha _ _ ha]
    rcases x with _ | c | _ | _ | _ | _ | _ | _ | _ <;> try (cases h; done)
    cases c
    · exact h
    simp only at h ⊢
    rcases hb : evalE Φ b env with _ | y <;> rw [hb] at h
    · cases h
    rw [ihb _ _ hb]
    exact h
  | or a b iha ihb =>
    intro env d h
    unfold evalE at h ⊢
    rcases ha : evalE Φ a env with _ | x <;> rw [ha] at h
    · cases h
    rw [iha _ _ ha]
    rcases x with _ | c | _ | _ | _ | _ | _ | _ | _ <;> try (cases h; done)
    cases c
    · simp only at h ⊢
      rcases hb : evalE Φ b env with _ | y <;> rw [hb] at h
      · cases h
      rw [ihb _ _ hb]
      exact h
    · exact h
  | ite c a b ihc iha ihb =>
    intro env d h
    unfold evalE at h ⊢
    rcases hc : evalE Φ c env with _ | x <;> rw [hc] at h
    · cases h
    rw [ihc _ _ hc]
    rcases x with _ | c | _ | _ | _ | _ | _ | _ | _ <;> try (cases h; done)
    cases c
    · exact ihb _ _ h
    · exact iha _ _ h
  | chain p q a b c iha ihb ihc =>
    intro env d h
    unfold evalE at h ⊢
    rcases ha : evalE Φ a env with _ | x <;> rw [ha] at h
    · cases h
    rw [iha _ _ ha]
    simp only at h ⊢
    rcases hb : evalE Φ b env with _ | y <;> rw [hb] at h
    · cases h
    rw [ihb _ _ hb]
    simp only at h ⊢
    rcases hp : bival p [x, y] with _ | z <;> rw [hp] at h
    · cases h
    rcases z with _ | t | _ | _ | _ | _ | _ | _ | _ <;> try (cases h; done)
    cases t
    · exact h
    simp only at h ⊢
    rcases hc : evalE Φ c env with _ | y <;> rw [hc] at h
    · cases h
    rw [ihc _ _ hc]
    exact h
  | fld c j a ih =>
    intro env d h
    unfold evalE at h ⊢
    rcases ha : evalE Φ a env with _ | x <;> rw [ha] at h
    · cases h
    rw [ih _ _ ha]
    exact h
  | ixO i a ih =>
    intro env d h
    unfold evalE at h ⊢
    rcases ha : evalE Φ a env with _ | x <;> rw [ha] at h
    · split at h <;> simp_all
    rw [ih _ _ ha]
    exact h
  | dget i a ih =>
    intro env d h
    unfold evalE at h ⊢
    rcases ha : evalE Φ a env with _ | x <;> rw [ha] at h
    · split at h <;> simp_all
    rw [ih _ _ ha]
    exact h
  | dget2 i a b iha ihb =>
    intro env d h
    unfold evalE at h ⊢
    rcases ha : evalE Φ a env with _ | x <;> rw [ha] at h
    · split at h <;> simp_all
    rw [iha _ _ ha]
    rcases hb : evalE Φ b env with _ | y <;> rw [hb] at h
    · split at h <;> simp_all
    rw [ihb _ _ hb]
    exact h
  | din n a i ih =>
    intro env d h
    unfold evalE at h ⊢
    rcases ha : evalE Φ a env with _ | x <;> rw [ha] at h
    · split at h <;> simp_all
    rw [ih _ _ ha]
    exact h
  | sortD i => intro env d h; exact h
  | lc k arg tg test elt vs iha iht ihe =>
    intro env d h
    unfold evalE at h ⊢
    split at h
    · split at h <;> try (cases h; done)
      split at h <;> try (cases h; done)
      split at h <;> try (cases h; done)
      rename_i e1 _ _ e2
      simp only [e1, lcGo_mono iht ihe _ _ e2]
      exact h
    · split at h <;> try (cases h; done)
      rename_i e1
      rw [iha _ _ e1]
      simp only
      split at h <;> try (cases h; done)
      split at h <;> try (cases h; done)
      rename_i e3
      rw [lcGo_mono iht ihe _ _ e3]
      exact h
theorem evalS_mono : ∀ (s : IS) env r, evalS Φ s env = some r → evalS Ψ s env = some r := by
  have E := fun e env d => evalE_mono hl e env d
  intro s
  induction s with
  | skip => intro env r h; exact h
  | seq a b iha ihb =>
    intro env r h
    unfold evalS at h ⊢
    split at h <;> try (cases h; done)
    · rename_i e1
      rw [iha _ _ e1]
      exact ihb _ _ h
    · rename_i e1
      rw [iha _ _ e1]
      exact h
  | asg i e => intro env r h; exact map_mono _ (E e env) h
  | newL i e =>
    intro env r h
    unfold evalS at h ⊢
    split at h <;> try (cases h; done)
    rename_i e1
    rw [E _ _ _ e1]
    exact h
  | newD i => intro env r h; exact h
  | newD1 i k v =>
    intro env r h
    unfold evalS at h ⊢
    split at h <;> try (cases h; done)
    rename_i e1 e2
    rw [E _ _ _ e1, E _ _ _ e2]
    exact h
  | newDk i k v =>
    intro env r h
    unfold evalS at h ⊢
    split at h <;> try (cases h; done)
    rename_i e1 e2
    rw [E _ _ _ e1, E _ _ _ e2]
    exact h
  | movD i j => intro env r h; exact h
  | cpyD i j => intro env r h; exact h
  | app i e =>
    intro env r h
    unfold evalS at h ⊢
    split at h <;> try (cases h; done)
    rename_i e1 e2
    rw [e1, E _ _ _ e2]
    exact h
  | ext i e =>
    intro env r h
    unfold evalS at h ⊢
    split at h <;> try (cases h; done)
    rename_i e1 e2
    rw [e1, E _ _ _ e2]
    exact h
  | setL i a e =>
    intro env r h
    unfold evalS at h ⊢
    split at h <;> try (cases h; done)
    rename_i e1 e2 e3
    rw [e1, E _ _ _ e2, E _ _ _ e3]
    exact h
  | setD i a e =>
    intro env r h
    unfold evalS at h ⊢
    split at h <;> try (cases h; done)
    rename_i e1 e2 e3
    rw [e1, E _ _ _ e2, E _ _ _ e3]
    exact h
  | frz i => intro env r h; exact h
  | forE k arg tg body ih =>
    intro env r h
    unfold evalS at h ⊢
    split at h
    · split at h <;> try (cases h; done)
      split at h <;> try (cases h; done)
      rcases e2 : forGo (evalS Φ body) tg _ _ with _ | x <;> rw [e2] at h
      · cases h
      · rw [forGo_mono ih _ _ _ e2]
        exact h
    · split at h <;> try (cases h; done)
      rename_i e1
      rw [E _ _ _ e1]
      simp only
      split at h <;> try (cases h; done)
      exact forGo_mono ih _ _ _ h
  | ite c a b iha ihb =>
    intro env r h
    unfold evalS at h ⊢
    split at h <;> try (cases h; done)
    · rename_i e1
      rw [E _ _ _ e1]
      exact iha _ _ h
    · rename_i e1
      rw [E _ _ _ e1]
      exact ihb _ _ h
  | ret e => intro env r h; exact map_mono _ (E e env) h
  | exp e =>
    intro env r h
    unfold evalS at h ⊢
    split at h <;> try (cases h; done)
    rename_i e1
    rw [E _ _ _ e1]
    exact h
  | fld c j e =>
    intro env r h
    unfold evalS at h ⊢
    split at h <;> try (cases h; done)
    rename_i e1 e2
    rw [e1, E _ _ _ e2]
    exact h
  | fail => intro env r h; exact h
theorem runS_mono {is : IS} {N : List Str} {ds : List D} {d : D} (h : runS Φ is N ds = some d) : runS Ψ is N ds = some d := by
  unfold runS at h ⊢
  split at h <;> try (cases h; done)
  all_goals
    rename_i e1
    rw [evalS_mono hl _ _ _ e1]
    exact h
theorem runI_mono {c : Nat} {is : IS} {N : List Str} {ds : List D} {d : D} (h : runI c Φ is N ds = some d) : runI c Ψ is N ds = some d := by
  unfold runI at h ⊢
  split at h <;> try (cases h; done)
  all_goals
    rename_i e1
    rw [evalS_mono hl _ _ _ e1]
    exact h
theorem body_mono : LeF (body Φ) (body Ψ) := by
  intro f ds d h
  have p1 : ∀ n is N, plain n Φ is N ds = some d → plain n Ψ is N ds = some d := by
    intro n is N h
    unfold plain at h ⊢
    split at h
    · rename_i c; rw [if_pos c]; exact runS_mono hl h
    · cases h
  have p2 : ∀ n c is N, meth n c Φ is N ds = some d → meth n c Ψ is N ds = some d := by
    intro n c is N h
    unfold meth at h ⊢
    split at h
    · split at h
      · rename_i c; rw [if_pos c]; exact runS_mono hl h
      · cases h
    · cases h
  have p3 : ∀ c is N, oper c Φ is N ds = some d → oper c Ψ is N ds = some d := by
    intro c is N h
    unfold oper at h ⊢
    split at h
    · split at h
      · rename_i c; rw [if_pos c]; exact runS_mono hl h
      · cases h
    · cases h
  have p4 : ∀ n c is N, init n c Φ is N ds = some d → init n c Ψ is N ds = some d := by
    intro n c is N h
    unfold init at h ⊢
    split at h
    · rename_i c; rw [if_pos c]; exact runI_mono hl h
    · cases h
  cases f <;> first | exact p1 _ _ _ h | exact p2 _ _ _ _ h | exact p3 _ _ _ h | exact p4 _ _ _ _ h
end
theorem Φ_le1 : ∀ L, LeF (Φ L) (Φ (L + 1))
  | 0 => fun _ _ _ h => nomatch h
  | L + 1 => body_mono (Φ_le1 L)
theorem Φ_le {L M : Nat} (h : L ≤ M) : LeF (Φ L) (Φ M) := by
  induction h with
  | refl => exact fun _ _ _ h => h
  | step _ ih => exact fun f ds d h => Φ_le1 _ f ds d (ih f ds d h)
end FB

set_option Elab.async false
set_option linter.all false
set_option maxRecDepth 100000
set_option maxHeartbeats 1000000
/-! FBq: Ratio in the small language. -/
namespace FB
open PySem L2
/-- a Ratio object -/
def rtD (q : Rat) : D := .ins 0 [.int q.num, .int q.den]
theorem small_iff {i : Int} : small i = true ↔ i.natAbs < 2 ^ 4000 := by
  unfold small
  constructor
  · intro h
    exact Nat.le_of_ble_eq_true h
  · intro h
    exact Nat.ble_eq_true_of_le h
theorem small_le {i j : Int} (h : small i = true) (hj : j.natAbs ≤ i.natAbs) : small j = true := by
  rw [small_iff] at h ⊢
  omega
theorem ratio_val (L : Nat) {n : Int} {d : Nat} (hd : 0 < d) (hn : small n = true) (hd' : small (d : Int) = true) : Φ (L + 1) .ratio [.int n, .int (d : Int)] = some (rtD (mkRat n d)) := by
  have d0 : ¬ ((d : Int) = 0) := by omega
  have dp : (0 : Int) < (d : Int) := by omega
  have hg : (Int.gcd n (d : Int)) = d.gcd n.natAbs := by
    show Nat.gcd n.natAbs (d : Int).natAbs = _
    rw [Int.natAbs_natCast, Nat.gcd_comm]
  have gp : 0 < d.gcd n.natAbs := Nat.gcd_pos_of_pos_left _ hd
  have gs : small ((d.gcd n.natAbs : Nat) : Int) = true := small_le hd' (by
    rw [Int.natAbs_natCast, Int.natAbs_natCast]
    exact Nat.gcd_le_left _ hd)
  have gp' : (0 : Int) < ((d.gcd n.natAbs : Nat) : Int) := by omega
  rw [Φ_succ]
  show init 3 0 (Φ L) i_ratio n_ratio [.int n, .int (d : Int)] = _
  have run : evalS (Φ L) i_ratio [.ins 0 [], .val (.int n), .val (.int (d : Int)), .non] = some (.nx [.ins 0 [.int (n / ((d.gcd n.natAbs : Nat) : Int)), .int ((d : Int) / ((d.gcd n.natAbs : Nat) : Int))], .val (.int n), .val (.int (d : Int)), .val (.int ((d.gcd n.natAbs : Nat) : Int))]) := by
    have dn : d ≠ 0 := by omega
    simp [i_ratio, evalS, evalE, bival, eqD, dn, d0, dp, hn, hd', gs, gp', hg, cnames, gp, hd]
  unfold init
  rw [if_pos (by rfl)]
  unfold runI
  show (match evalS (Φ L) i_ratio [.ins 0 [], .val (.int n), .val (.int (d : Int)), .non] with
    | some (.nx (.ins e fs :: _)) => if e = 0 ∧ fs.length = (cnames 0).length then some (D.ins 0 fs) else none
    | _ => none) = _
  rw [run]
  have e1 : (mkRat n d).num = n / ((d.gcd n.natAbs : Nat) : Int) := by rw [Rat.num_mkRat, if_neg (by omega)]
  have e2 : ((mkRat n d).den : Int) = (d : Int) / ((d.gcd n.natAbs : Nat) : Int) := by
    rw [Rat.den_mkRat, if_neg (by omega)]
    exact Int.natCast_ediv _ _
  unfold rtD
  rw [e1, e2]
  rfl
/-- a number that Ratio's arithmetic takes -/
def Sm (q : Rat) : Prop := q.num.natAbs ≤ 2 ^ 1990 ∧ q.den ≤ 2 ^ 1990
theorem pow_lt : (2 : Nat) ^ 1990 * 2 ^ 1990 + 2 ^ 1990 * 2 ^ 1990 < 2 ^ 4000 := by decide +kernel
theorem sm_mul {a b : Nat} (ha : a ≤ 2 ^ 1990) (hb : b ≤ 2 ^ 1990) : a * b ≤ 2 ^ 1990 * 2 ^ 1990 := Nat.mul_le_mul ha hb
theorem Sm.n {q : Rat} (h : Sm q) : small q.num = true := small_iff.mpr (Nat.lt_of_le_of_lt h.1 (by decide +kernel))
theorem Sm.d {q : Rat} (h : Sm q) : small (q.den : Int) = true := small_iff.mpr (by rw [Int.natAbs_natCast]; exact Nat.lt_of_le_of_lt h.2 (by decide +kernel))
theorem op2 {Φ : Fn → List D → Option D} {is : IS} {N : List Str} {a b : Rat} : oper 0 Φ is N [rtD a, rtD b] = runS Φ is N [rtD a, rtD b] := by
  unfold oper rtD
  simp
theorem runS_rt {Φ : Fn → List D → Option D} {is : IS} {N : List Str} {ds : List D} {d : D} (h : evalS Φ is (ds.map Sl.val ++ List.replicate (N.length - ds.length) Sl.non) = some (.rt d)) : runS Φ is N ds = some d := by
  unfold runS
  rw [h]
theorem r_mul_val (L : Nat) {a b : Rat} (ha : Sm a) (hb : Sm b) : Φ (L + 2) .r_mul [rtD a, rtD b] = some (rtD (a * b)) := by
  have hs : small ((a.den * b.den : Nat) : Int) = true := small_iff.mpr (by rw [Int.natAbs_natCast]; exact Nat.lt_of_le_of_lt (sm_mul ha.2 hb.2) (by decide +kernel))
  have hn : small (a.num * b.num) = true := small_iff.mpr (by rw [Int.natAbs_mul]; exact Nat.lt_of_le_of_lt (sm_mul ha.1 hb.1) (by decide +kernel))
  have q := ratio_val L (n := a.num * b.num) (d := a.den * b.den) (Nat.mul_pos a.den_pos b.den_pos) hn hs
  have e : mkRat (a.num * b.num) (a.den * b.den) = a * b := by
    rw [← Rat.mkRat_mul_mkRat, Rat.mkRat_self, Rat.mkRat_self]
  rw [e, Int.natCast_mul] at q
  rw [Φ_succ]
  show oper 0 (Φ (L + 1)) i_r_mul n_r_mul [rtD a, rtD b] = _
  rw [op2]
  refine runS_rt ?_
  show evalS (Φ (L + 1)) i_r_mul [.val (rtD a), .val (rtD b)] = some (.rt (rtD (a * b)))
  have run : evalS (Φ (L + 1)) i_r_mul [.val (rtD a), .val (rtD b)] = (Φ (L + 1) .ratio [D.int (a.num * b.num), D.int ((a.den : Int) * (b.den : Int))]).map .rt := by
    simp [i_r_mul, evalS, evalE, bival, rtD, ha.n, ha.d, hb.n, hb.d]
  rw [run, q]
  rfl
theorem sm_add {a b : Rat} (ha : Sm a) (hb : Sm b) : (a.num * b.den + b.num * a.den).natAbs < 2 ^ 4000 ∧ (a.num * b.den - b.num * a.den).natAbs < 2 ^ 4000 := by
  have h1 : (a.num * b.den).natAbs ≤ 2 ^ 1990 * 2 ^ 1990 := by rw [Int.natAbs_mul, Int.natAbs_natCast]; exact sm_mul ha.1 hb.2
  have h2 : (b.num * a.den).natAbs ≤ 2 ^ 1990 * 2 ^ 1990 := by rw [Int.natAbs_mul, Int.natAbs_natCast]; exact sm_mul hb.1 ha.2
  have h3 : (2 : Nat) ^ 1990 * 2 ^ 1990 + 2 ^ 1990 * 2 ^ 1990 < 2 ^ 4000 := by decide +kernel
  generalize (2 : Nat) ^ 1990 * 2 ^ 1990 = B at h1 h2 h3
  generalize (2 : Nat) ^ 4000 = C at h3 ⊢
  omega
theorem r_add_val (L : Nat) {a b : Rat} (ha : Sm a) (hb : Sm b) : Φ (L + 2) .r_add [rtD a, rtD b] = some (rtD (a + b)) := by
  have hs : small ((a.den * b.den : Nat) : Int) = true := small_iff.mpr (by rw [Int.natAbs_natCast]; exact Nat.lt_of_le_of_lt (sm_mul ha.2 hb.2) (by decide +kernel))
  have q := ratio_val L (n := a.num * b.den + b.num * a.den) (d := a.den * b.den) (Nat.mul_pos a.den_pos b.den_pos) (small_iff.mpr (sm_add ha hb).1) hs
  have e : mkRat (a.num * b.den + b.num * a.den) (a.den * b.den) = a + b := by
    rw [Rat.add_def, Rat.mkRat_def, dif_neg]
  rw [e, Int.natCast_mul] at q
  rw [Φ_succ]
  show oper 0 (Φ (L + 1)) i_r_add n_r_add [rtD a, rtD b] = _
  rw [op2]
  refine runS_rt ?_
  show evalS (Φ (L + 1)) i_r_add [.val (rtD a), .val (rtD b)] = some (.rt (rtD (a + b)))
  have run : evalS (Φ (L + 1)) i_r_add [.val (rtD a), .val (rtD b)] = (Φ (L + 1) .ratio [D.int (a.num * b.den + b.num * a.den), D.int ((a.den : Int) * (b.den : Int))]).map .rt := by
    simp [i_r_add, evalS, evalE, bival, rtD, ha.n, ha.d, hb.n, hb.d]
  rw [run, q]
  rfl
theorem r_sub_val (L : Nat) {a b : Rat} (ha : Sm a) (hb : Sm b) : Φ (L + 2) .r_sub [rtD a, rtD b] = some (rtD (a - b)) := by
  have hs : small ((a.den * b.den : Nat) : Int) = true := small_iff.mpr (by rw [Int.natAbs_natCast]; exact Nat.lt_of_le_of_lt (sm_mul ha.2 hb.2) (by decide +kernel))
  have q := ratio_val L (n := a.num * b.den - b.num * a.den) (d := a.den * b.den) (Nat.mul_pos a.den_pos b.den_pos) (small_iff.mpr (sm_add ha hb).2) hs
  have e : mkRat (a.num * b.den - b.num * a.den) (a.den * b.den) = a - b := by
    rw [Rat.sub_def, Rat.mkRat_def, dif_neg]
  rw [e, Int.natCast_mul] at q
  rw [Φ_succ]
  show oper 0 (Φ (L + 1)) i_r_sub n_r_sub [rtD a, rtD b] = _
  rw [op2]
  refine runS_rt ?_
  show evalS (Φ (L + 1)) i_r_sub [.val (rtD a), .val (rtD b)] = some (.rt (rtD (a - b)))
  have run : evalS (Φ (L + 1)) i_r_sub [.val (rtD a), .val (rtD b)] = (Φ (L + 1) .ratio [D.int (a.num * b.den - b.num * a.den), D.int ((a.den : Int) * (b.den : Int))]).map .rt := by
    simp [i_r_sub, evalS, evalE, bival, rtD, ha.n, ha.d, hb.n, hb.d]
  rw [run, q]
  rfl
/-- a whole number -/
theorem ratio_int (L : Nat) {n : Int} (hn : small n = true) : Φ (L + 1) .ratio [.int n, .int 1] = some (rtD (n : Rat)) := by
  have q := ratio_val L (n := n) (d := 1) (by decide) hn (by decide +kernel)
  have e : mkRat n 1 = (n : Rat) := by
    have := Rat.mkRat_self (n : Rat)
    rwa [Rat.num_intCast, Rat.den_intCast] at this
  rw [e] at q
  exact q
/-- a / b, b a whole number above 0 -/
theorem r_over_val (L : Nat) {a : Rat} {b : Int} (ha : Sm a) (hb : 0 < b) (hs : b.natAbs ≤ 2 ^ 1990) : Φ (L + 2) .r_over [rtD a, rtD (b : Rat)] = some (rtD (a / b)) := by
  obtain ⟨m, rfl⟩ := Int.eq_ofNat_of_zero_le (Int.le_of_lt hb)
  have hm : 0 < m := by omega
  have hm2 : m ≤ 2 ^ 1990 := by simpa using hs
  have sb : small ((m : Nat) : Int) = true := small_iff.mpr (by rw [Int.natAbs_natCast]; exact Nat.lt_of_le_of_lt hm2 (by decide +kernel))
  have hs2 : small ((a.den * m : Nat) : Int) = true := small_iff.mpr (by rw [Int.natAbs_natCast]; exact Nat.lt_of_le_of_lt (sm_mul ha.2 hm2) (by decide +kernel))
  have q := ratio_val L (n := a.num) (d := a.den * m) (Nat.mul_pos a.den_pos hm) ha.n hs2
  have e : mkRat a.num (a.den * m) = a / ((m : Int) : Rat) := by
    have e : mkRat a.num (a.den * m) = mkRat a.num a.den * mkRat 1 m := by rw [Rat.mkRat_mul_mkRat, Int.mul_one]
    have c : ((m : Nat) : Rat) = ((m : Int) : Rat) := rfl
    have o : ((1 : Int) : Rat) = 1 := rfl
    rw [e, Rat.mkRat_self, Rat.mkRat_eq_div, Rat.div_def, Rat.div_def, c, o, Rat.one_mul]
  rw [e, Int.natCast_mul] at q
  rw [Φ_succ]
  show meth 2 0 (Φ (L + 1)) i_r_over n_r_over [rtD a, rtD ((m : Int) : Rat)] = _
  have e2 : meth 2 0 (Φ (L + 1)) i_r_over n_r_over [rtD a, rtD ((m : Int) : Rat)] = runS (Φ (L + 1)) i_r_over n_r_over [rtD a, rtD ((m : Int) : Rat)] := by
    unfold meth rtD
    simp
  rw [e2]
  refine runS_rt ?_
  show evalS (Φ (L + 1)) i_r_over [.val (rtD a), .val (rtD ((m : Int) : Rat))] = some (.rt (rtD (a / ((m : Int) : Rat))))
  have run : evalS (Φ (L + 1)) i_r_over [.val (rtD a), .val (rtD ((m : Int) : Rat))] = (Φ (L + 1) .ratio [D.int a.num, D.int ((a.den : Int) * ((m : Nat) : Int))]).map .rt := by
    have one_s : small 1 = true := by decide +kernel
    simp [i_r_over, evalS, evalE, bival, rtD, ha.n, ha.d, sb, one_s]
  rw [run, q]
  rfl
theorem r_is_zero_val (L : Nat) {a : Rat} : Φ (L + 1) .r_is_zero [rtD a] = some (.bl (decide (a = 0))) := by
  rw [Φ_succ]
  show meth 1 0 (Φ L) i_r_is_zero n_r_is_zero [rtD a] = _
  have e2 : meth 1 0 (Φ L) i_r_is_zero n_r_is_zero [rtD a] = runS (Φ L) i_r_is_zero n_r_is_zero [rtD a] := by
    unfold meth rtD
    simp
  rw [e2]
  refine runS_rt ?_
  show evalS (Φ L) i_r_is_zero [.val (rtD a)] = some (.rt (.bl (decide (a = 0))))
  have e3 : decide (a = 0) = decide (a.num = 0) := by rw [decide_eq_decide]; exact Rat.num_eq_zero.symm
  rw [e3]
  simp [i_r_is_zero, evalS, evalE, bival, rtD, eqD]
theorem zero_val (L : Nat) : Φ (L + 2) .zero [] = some (rtD 0) := by
  have q := ratio_int L (n := 0) (by decide +kernel)
  rw [Φ_succ]
  show plain 0 (Φ (L + 1)) i_zero n_zero [] = _
  unfold plain
  rw [if_pos (by rfl)]
  refine runS_rt ?_
  show evalS (Φ (L + 1)) i_zero [] = some (.rt (rtD 0))
  have run : evalS (Φ (L + 1)) i_zero [] = (Φ (L + 1) .ratio [D.int 0, D.int 1]).map .rt := by
    simp [i_zero, evalS, evalE]
  rw [run, q]
  rfl
end FB

set_option Elab.async false
set_option linter.all false
set_option maxRecDepth 100000
set_option maxHeartbeats 1000000
/-! FBq2: how large the rationals grow. -/
namespace FB
open PySem L2
/-- q = N / 24^k, N not above 24^(2 k) -/
def Ok (k : Nat) (q : Rat) : Prop := ∃ N : Int, q = mkRat N (24 ^ k) ∧ N.natAbs ≤ 24 ^ (2 * k)
theorem p24 (k : Nat) : 0 < 24 ^ k := Nat.pow_pos (by decide)
theorem Ok.mono {k l : Nat} {q : Rat} (h : Ok k q) (hl : k ≤ l) : Ok l q := by
  obtain ⟨N, e, b⟩ := h
  refine ⟨N * ((24 ^ (l - k) : Nat) : Int), ?_, ?_⟩
  · rw [e]
    have : 24 ^ l = 24 ^ k * 24 ^ (l - k) := by rw [← Nat.pow_add]; congr 1; omega
    rw [this, Rat.mkRat_mul_right (Nat.ne_of_gt (p24 _))]
  · rw [Int.natAbs_mul, Int.natAbs_natCast]
    refine Nat.le_trans (Nat.mul_le_mul_right _ b) ?_
    rw [← Nat.pow_add]
    exact Nat.pow_le_pow_right (by decide) (by omega)
theorem Ok.add {k : Nat} {a b : Rat} (ha : Ok k a) (hb : Ok k b) : Ok (k + 1) (a + b) := by
  obtain ⟨N, e, u⟩ := ha
  obtain ⟨M, f, v⟩ := hb
  refine ⟨(N + M) * 24, ?_, ?_⟩
  · rw [e, f]
    have h1 : mkRat N (24 ^ k) + mkRat M (24 ^ k) = mkRat (N + M) (24 ^ k) := by
      have z := Nat.ne_of_gt (p24 k)
      rw [Rat.mkRat_add_mkRat _ _ z z, ← Int.add_mul, Rat.mkRat_mul_right z]
    rw [h1]
    have h2 : mkRat ((N + M) * 24) (24 ^ (k + 1)) = mkRat (N + M) (24 ^ k) := by
      rw [Nat.pow_succ]
      exact Rat.mkRat_mul_right (a := 24) (by decide)
    rw [h2]
  · rw [Int.natAbs_mul]
    have h1 : (N + M).natAbs ≤ 24 ^ (2 * k) + 24 ^ (2 * k) := Nat.le_trans (Int.natAbs_add_le N M) (Nat.add_le_add u v)
    have h2 : 24 ^ (2 * (k + 1)) = 24 ^ (2 * k) * 576 := by rw [show 2 * (k + 1) = 2 * k + 2 by omega, Nat.pow_add]
    rw [h2]
    show (N + M).natAbs * 24 ≤ _
    generalize 24 ^ (2 * k) = B at h1 ⊢
    omega
theorem Ok.neg {k : Nat} {a : Rat} (ha : Ok k a) : Ok k (-a) := by
  obtain ⟨N, e, u⟩ := ha
  exact ⟨-N, by rw [e, Rat.neg_mkRat], by rw [Int.natAbs_neg]; exact u⟩
theorem Ok.sub {k : Nat} {a b : Rat} (ha : Ok k a) (hb : Ok k b) : Ok (k + 1) (a - b) := by
  rw [Rat.sub_eq_add_neg]
  exact ha.add hb.neg
theorem Ok.mul {k l : Nat} {a b : Rat} (ha : Ok k a) (hb : Ok l b) : Ok (k + l) (a * b) := by
  obtain ⟨N, e, u⟩ := ha
  obtain ⟨M, f, v⟩ := hb
  refine ⟨N * M, by rw [e, f, Rat.mkRat_mul_mkRat, Nat.pow_add], ?_⟩
  rw [Int.natAbs_mul]
  refine Nat.le_trans (Nat.mul_le_mul u v) ?_
  rw [← Nat.pow_add]
  exact Nat.pow_le_pow_right (by decide) (by omega)
theorem Ok.int {t : Int} (h : t.natAbs ≤ 24) : Ok 1 (t : Rat) := by
  refine ⟨t * 24, ?_, ?_⟩
  · have h2 : mkRat (t * 24) (24 ^ 1) = mkRat t 1 := Rat.mkRat_mul_right (a := 24) (d := 1) (by decide)
    rw [h2]
    have := Rat.mkRat_self (t : Rat)
    rw [Rat.num_intCast, Rat.den_intCast] at this
    exact this.symm
  · rw [Int.natAbs_mul]
    show t.natAbs * 24 ≤ 576
    omega
theorem Ok.zero (k : Nat) : Ok k 0 := ⟨0, by rw [Rat.zero_mkRat], Nat.zero_le _⟩
theorem Ok.div {k : Nat} {a : Rat} (ha : Ok k a) {t : Nat} (h1 : 0 < t) (h2 : t ∣ 24) : Ok (k + 1) (a / ((t : Int) : Rat)) := by
  obtain ⟨c, hc⟩ := h2
  obtain ⟨N, e, u⟩ := ha
  have c0 : 0 < c := Nat.pos_of_ne_zero fun z => by subst z; omega
  have hc24 : c ≤ 24 := by rw [hc]; exact Nat.le_mul_of_pos_left c h1
  refine ⟨N * (c : Int), ?_, ?_⟩
  · have cc : ((t : Nat) : Rat) = ((t : Int) : Rat) := rfl
    have o : ((1 : Int) : Rat) = 1 := rfl
    have h3 : a / ((t : Int) : Rat) = mkRat N (24 ^ k) * mkRat 1 t := by
      rw [e, Rat.div_def, Rat.mkRat_eq_div 1 t, Rat.div_def, o, Rat.one_mul, cc]
    rw [h3, Rat.mkRat_mul_mkRat, Int.mul_one, Nat.pow_succ, hc, ← Nat.mul_assoc, Rat.mkRat_mul_right (Nat.ne_of_gt c0)]
  · rw [Int.natAbs_mul, Int.natAbs_natCast]
    refine Nat.le_trans (Nat.mul_le_mul u hc24) ?_
    rw [show 2 * (k + 1) = 2 * k + 2 by omega, Nat.pow_add]
    exact Nat.mul_le_mul_left _ (by decide)
theorem Ok.sm {k : Nat} {q : Rat} (h : Ok k q) (hk : k ≤ 200) : Sm q := by
  obtain ⟨N, e, u⟩ := h
  have b1 : 24 ^ (2 * k) ≤ 2 ^ 1990 := Nat.le_trans (Nat.pow_le_pow_right (by decide) (show 2 * k ≤ 400 by omega)) (by decide +kernel)
  have b2 : 24 ^ k ≤ 2 ^ 1990 := Nat.le_trans (Nat.pow_le_pow_right (by decide) (show k ≤ 400 by omega)) (by decide +kernel)
  have z := Nat.ne_of_gt (p24 k)
  subst e
  refine ⟨?_, ?_⟩
  · rw [Rat.num_mkRat, if_neg z]
    refine Nat.le_trans ?_ (Nat.le_trans u b1)
    exact Int.natAbs_ediv_le_natAbs _ _
  · rw [Rat.den_mkRat, if_neg z]
    exact Nat.le_trans (Nat.div_le_self _ _) b2

/-! ### loops -/
theorem forGo_range {body : En → Option Fl} {i : Nat} (P : Nat → En → Prop) {n : Nat} (step : ∀ k env, k < n → P k env → ∃ env', body (env.set i (.val (.int (0 + (k : Int))))) = some (.nx env') ∧ P (k + 1) env') :
    ∀ m k env, k + m = n → P k env → ∃ env', forGo body (.nm i) ((List.range' k m).map fun (x : Nat) => D.int (0 + (x : Int))) env = some (.nx env') ∧ P n env' := by
  intro m
  induction m with
  | zero =>
    intro k env hk hp
    have : k = n := by omega
    subst this
    exact ⟨env, rfl, hp⟩
  | succ m ih =>
    intro k env hk hp
    obtain ⟨e1, h1, h2⟩ := step k env (by omega) hp
    obtain ⟨e2, h3, h4⟩ := ih (k + 1) e1 (by omega) h2
    refine ⟨e2, ?_, h4⟩
    rw [List.range'_succ, List.map_cons]
    show (match body (env.set i (.val (.int (0 + (k : Int))))) with
      | some (.nx e2) => forGo body (.nm i) _ e2
      | some (.rt d) => some (.rt d)
      | none => none) = _
    rw [h1]
    exact h3
theorem forGo_rng {body : En → Option Fl} {i : Nat} (P : Nat → En → Prop) {n : Nat} (step : ∀ k env, k < n → P k env → ∃ env', body (env.set i (.val (.int (0 + (k : Int))))) = some (.nx env') ∧ P (k + 1) env') {env : En} (h : P 0 env) :
    ∃ env', forGo body (.nm i) ((List.range n).map fun (x : Nat) => D.int (0 + (x : Int))) env = some (.nx env') ∧ P n env' := by
  rw [List.range_eq_range']
  exact forGo_range P step n 0 env (by omega) h
theorem forGo_list {body : En → Option Fl} {tg : Tg} (P : Nat → En → Prop) {l : List D} (step : ∀ k d env, l[k]? = some d → P k env → ∃ e1 env', tgSet tg d env = some e1 ∧ body e1 = some (.nx env') ∧ P (k + 1) env') :
    ∀ (r : List D) k env, k + r.length = l.length → l.drop k = r → P k env → ∃ env', forGo body tg r env = some (.nx env') ∧ P l.length env'
  | [], k, env, hk, _, hp => by
    have : k = l.length := by simpa using hk
    subst this
    exact ⟨env, rfl, hp⟩
  | d :: r, k, env, hk, hd, hp => by
    have g : l[k]? = some d := by
      have := congrArg (fun x => x[0]?) hd
      simpa using this
    obtain ⟨e1, e2, h1, h2, h3⟩ := step k d env g hp
    have hd' : l.drop (k + 1) = r := by
      rw [← List.drop_drop, hd]; rfl
    obtain ⟨e3, h4, h5⟩ := forGo_list P step r (k + 1) e2 (by simp at hk; omega) hd' h3
    refine ⟨e3, ?_, h5⟩
    unfold forGo
    rw [h1]
    simp only
    rw [h2]
    exact h4
end FB

set_option Elab.async false
set_option linter.all false
set_option maxRecDepth 100000
set_option maxHeartbeats 1000000
/-! FBv: equality of data; the kernel's tables. -/
namespace FB
open PySem L2
mutual
def beqD : D → D → Bool
  | .non, .non => true
  | .bl a, .bl b => a == b
  | .int a, .int b => decide (a = b)
  | .str a, .str b => decide (a = b)
  | .ktup, .ktup => true
  | .tup a, .tup b => beqL a b
  | .ptup a, .ptup b => beqL a b
  | .lst a, .lst b => beqL a b
  | .ins c a, .ins d b => decide (c = d) && beqL a b
  | _, _ => false
def beqL : List D → List D → Bool
  | [], [] => true
  | a :: r, b :: s => beqD a b && beqL r s
  | _, _ => false
end
mutual
theorem beqD_eq : ∀ (a b : D), beqD a b = true → a = b
  | .non, b, h => by cases b <;> simp_all [beqD]
  | .bl a, b, h => by cases b <;> simp_all [beqD]
  | .int a, b, h => by cases b <;> simp_all [beqD]
  | .str a, b, h => by cases b <;> simp_all [beqD]
  | .ktup, b, h => by cases b <;> simp_all [beqD]
  | .tup a, b, h => by
    cases b <;> simp [beqD] at h
    rw [beqL_eq _ _ h]
  | .ptup a, b, h => by
    cases b <;> simp [beqD] at h
    rw [beqL_eq _ _ h]
  | .lst a, b, h => by
    cases b <;> simp [beqD] at h
    rw [beqL_eq _ _ h]
  | .ins c a, b, h => by
    cases b <;> simp [beqD] at h
    rw [beqL_eq _ _ h.2, h.1]
theorem beqL_eq : ∀ (a b : List D), beqL a b = true → a = b
  | [], b, h => by cases b <;> simp_all [beqL]
  | x :: r, b, h => by
    cases b <;> simp [beqL] at h
    rw [beqD_eq _ _ h.1, beqL_eq _ _ h.2]
end
/-- f's value at level 30 is d -/
noncomputable def tb (f : Fn) (ds : List D) (d : D) : Bool := match Φ 30 f ds with
  | some x => beqD x d
  | none => false
theorem tb_eq {f : Fn} {ds : List D} {d : D} (h : tb f ds d = true) {L : Nat} (hL : 30 ≤ L) : Φ L f ds = some d := by
  unfold tb at h
  split at h
  · rename_i x e
    rw [← beqD_eq _ _ h]
    exact Φ_le hL _ _ _ e
  · cases h
def pD (p : List Int) : D := .tup (p.map .int)
/-- the partitions of 0, .., 4 -/
def PT : Nat → List (List Int)
  | 0 => [[]]
  | 1 => [[1]]
  | 2 => [[2], [1, 1]]
  | 3 => [[3], [2, 1], [1, 1, 1]]
  | 4 => [[4], [3, 1], [2, 2], [2, 1, 1], [1, 1, 1, 1]]
  | _ => []
def P12 : List (List Int) := PT 0 ++ PT 1 ++ PT 2 ++ PT 3 ++ PT 4
theorem parts_tb : (List.range 5).all (fun n => tb .partitions [.int n] (.ptup ((PT n).map pD))) = true := by decide +kernel
theorem parts_val {n : Nat} (hn : n ≤ 4) {L : Nat} (hL : 30 ≤ L) : Φ L .partitions [.int n] = some (.ptup ((PT n).map pD)) :=
  tb_eq (List.all_eq_true.mp parts_tb n (List.mem_range.mpr (by omega))) hL
/-- the greater degrees: partitions none of which is among the twelve -/
noncomputable def bigP (n : Nat) : Bool := match Φ 30 .partitions [.int n] with
  | some (.ptup l) => l.all (fun d => match d with | .tup k => (match ints? k with | some k => !(P12.contains k) | none => false) | _ => false) && l.length.ble 100
  | _ => false
theorem bigP_tb : ([5, 6, 7, 8].all bigP) = true := by decide +kernel
theorem isp_tb : (P12.all fun p => tb .is_partition [pD p] (.bl true)) = true := by decide +kernel
theorem chk_tb : (P12.all fun p => tb .check_part [pD p] .non) = true := by decide +kernel
theorem size_tb : (P12.all fun p => tb .size [pD p] (.int p.sum)) = true := by decide +kernel
end FB

set_option Elab.async false
set_option linter.all false
set_option maxRecDepth 100000
set_option maxHeartbeats 1000000
/-! FBx: Symmetric's terms: sums of like parts. -/
namespace FB
open PySem L2
abbrev TM := List Int × Rat
def tmD (t : TM) : D := .tup [pD t.1, rtD t.2]
def coef : List TM → List Int → Rat
  | [], _ => 0
  | t :: r, p => (if t.1 = p then t.2 else 0) + coef r p
def has (ts : List TM) (p : List Int) : Bool := ts.any fun t => decide (t.1 = p)
theorem coef_app (a b : List TM) (p : List Int) : coef (a ++ b) p = coef a p + coef b p := by
  induction a with
  | nil => show coef b p = 0 + coef b p; rw [Rat.zero_add]
  | cons t r ih => show _ + coef (r ++ b) p = _ + coef r p + _; rw [ih, Rat.add_assoc]
theorem coef_snoc (a : List TM) (t : TM) (p : List Int) : coef (a ++ [t]) p = coef a p + (if t.1 = p then t.2 else 0) := by
  rw [coef_app]; show _ + (_ + 0) = _; rw [Rat.add_zero]
theorem coef_none {ts : List TM} {p : List Int} (h : has ts p = false) : coef ts p = 0 := by
  induction ts with
  | nil => rfl
  | cons t r ih =>
    simp only [has, List.any_cons, Bool.or_eq_false_iff, decide_eq_false_iff_not] at h
    show (if t.1 = p then t.2 else 0) + coef r p = 0
    rw [if_neg h.1, ih h.2, Rat.add_zero]
theorem coef_ok {k : Nat} {p : List Int} : ∀ {ts : List TM}, (∀ t ∈ ts, Ok k t.2) → Ok (k + ts.length) (coef ts p)
  | [], _ => Ok.zero _
  | t :: r, h => by
    have h1 : Ok (k + r.length) (if t.1 = p then t.2 else 0) := by
      split
      · exact (h t (List.mem_cons_self ..)).mono (by omega)
      · exact Ok.zero _
    exact h1.add (coef_ok fun x hx => h x (List.mem_cons_of_mem _ hx))
theorem look_map {kvs : List (List Int × D)} {k p : List Int} {v : D} : lookK (kvs.map fun kv => if kv.1 = k then (kv.1, v) else kv) p = if p = k then (if kvs.any (fun kv => decide (kv.1 = k)) then some v else none) else lookK kvs p := by
  induction kvs with
  | nil => unfold lookK; simp
  | cons t r ih =>
    unfold lookK at ih ⊢
    by_cases h1 : t.1 = k
    · by_cases h2 : p = k
      · subst h2; simp [h1]
      · have h3 : ¬ (k = p) := fun e => h2 e.symm
        simp [h1, h2, h3] at ih ⊢
        exact ih
    · by_cases h2 : p = k
      · subst h2
        simp [h1] at ih
        simp only [List.map_cons, if_neg h1, List.any_cons, decide_eq_false h1, Bool.false_or, List.find?_cons]
        simp only [List.find?_map, ↓reduceIte]
        simpa using ih
      · by_cases h3 : t.1 = p
        · simp [h1, h2, h3]
        · simp [h1, h2, h3] at ih ⊢
          exact ih
theorem look_app {kvs : List (List Int × D)} {k p : List Int} {v : D} (hk : kvs.any (fun kv => decide (kv.1 = k)) = false) : lookK (kvs ++ [(k, v)]) p = if p = k then some v else lookK kvs p := by
  unfold lookK
  rw [List.find?_append]
  by_cases h : p = k
  · subst h
    have : kvs.find? (fun kv => decide (kv.1 = p)) = none := by
      rw [List.find?_eq_none]
      intro x hx
      have := List.any_eq_false.mp hk x hx
      simpa using this
    simp [this]
  · have h3 : ¬ (k = p) := fun e => h e.symm
    simp [h, h3]
theorem look_put {kvs : List (List Int × D)} {k p : List Int} {v : D} : lookK (putD kvs k v) p = if p = k then some v else lookK kvs p := by
  unfold putD
  split
  · rename_i h
    rw [look_map, h]; rfl
  · rename_i h
    rw [look_app (by rw [Bool.not_eq_true] at h; exact h)]
theorem put_len {kvs : List (List Int × D)} {k : List Int} {v : D} : (putD kvs k v).length ≤ kvs.length + 1 := by
  unfold putD
  split <;> simp
/-- a comprehension keeps and maps -/
theorem lcGo_fm {α : Type} {fT fE : En → Option D} {tg : Tg} {env : En} (dec : α → D) (t : α → Bool) (g : α → D) : ∀ (l : List α), (∀ x ∈ l, ∃ e1, tgSet tg (dec x) env = some e1 ∧ fT e1 = some (.bl (t x)) ∧ (t x = true → fE e1 = some (g x))) → lcGo fT fE tg env (l.map dec) = some ((l.filter t).map g)
  | [], _ => rfl
  | x :: r, h => by
    obtain ⟨e1, h1, h2, h3⟩ := h x (List.mem_cons_self ..)
    have ih := lcGo_fm dec t g r fun y hy => h y (List.mem_cons_of_mem _ hy)
    rw [List.map_cons]
    unfold lcGo
    rw [h1]
    simp only
    rw [h2]
    cases ht : t x with
    | false =>
      simp only
      rw [ih, List.filter_cons_of_neg (by rw [ht]; decide)]
    | true =>
      simp only
      rw [h3 ht]
      simp only
      rw [ih, List.filter_cons_of_pos ht]
      rfl
/-- what Symmetric keeps -/
def nfT (ts : List TM) : List TM := (P12.filter fun p => has ts p && !decide (coef ts p = 0)).map fun p => (p, coef ts p)
end FB

set_option Elab.async false
set_option linter.all false
set_option maxRecDepth 100000
set_option maxHeartbeats 1000000
/-! FBx2: added_parts. -/
namespace FB
open PySem L2
/-- the table after the pairs ts -/
def Tbl (kvs : List (List Int × D)) (ts : List TM) : Prop := (∀ p, lookK kvs p = if has ts p then some (rtD (coef ts p)) else none) ∧ kvs.length ≤ ts.length
theorem Tbl.zero : Tbl [] [] := ⟨fun _ => rfl, Nat.le_refl _⟩
theorem has_snoc (ts : List TM) (t : TM) (p : List Int) : has (ts ++ [t]) p = (has ts p || decide (t.1 = p)) := by
  unfold has
  rw [List.any_append]
  simp
theorem Tbl.step {kvs : List (List Int × D)} {ts : List TM} (h : Tbl kvs ts) (t : TM) {v : D} (hv : v = rtD (coef (ts ++ [t]) t.1)) : Tbl (putD kvs t.1 v) (ts ++ [t]) := by
  refine ⟨fun p => ?_, ?_⟩
  · rw [look_put, has_snoc]
    by_cases e : p = t.1
    · subst e; simp [hv]
    · have e' : ¬ (t.1 = p) := fun x => e x.symm
      rw [if_neg e, h.1 p, coef_snoc, if_neg e', Rat.add_zero]
      simp [e']
  · have := h.2
    have := put_len (kvs := kvs) (k := t.1) (v := v)
    simp
    omega
/-- the first loop of added_parts -/
theorem ap_loop (L : Nat) {k : Nat} {ts : List TM} (hok : ∀ t ∈ ts, Ok k t.2) (hk : k + ts.length ≤ 190) {P : D} {s2 s3 s4 s5 : Sl} :
    ∃ kvs s4' s5', forGo (evalS (Φ (L + 2)) (.ite (.din false (.var 4) 1) (.setD 1 (.var 4) (.call .r_add (.cons (.dget 1 (.var 4)) (.cons (.var 5) .nil)))) (.setD 1 (.var 4) (.var 5)))) (.pr 4 5) (ts.map tmD) [.val P, .dct [] false, s2, s3, s4, s5] = some (.nx [.val P, .dct kvs false, s2, s3, s4', s5']) ∧ Tbl kvs ts := by
  obtain ⟨env', h1, kvs, a, b, h2, h3⟩ := forGo_list (l := ts.map tmD) (tg := .pr 4 5) (body := evalS (Φ (L + 2)) (.ite (.din false (.var 4) 1) (.setD 1 (.var 4) (.call .r_add (.cons (.dget 1 (.var 4)) (.cons (.var 5) .nil)))) (.setD 1 (.var 4) (.var 5))))
    (fun n env => ∃ kvs s4' s5', env = [.val P, .dct kvs false, s2, s3, s4', s5'] ∧ Tbl kvs (ts.take n)) (by
      rintro n d env hd ⟨kvs, a, b, rfl, hT⟩
      rw [List.getElem?_map] at hd
      rcases ht : ts[n]? with _ | t
      · rw [ht] at hd; cases hd
      rw [ht] at hd
      cases hd
      have hn : n < ts.length := (List.getElem?_eq_some_iff.mp ht).1
      have tk : ts.take (n + 1) = ts.take n ++ [t] := by
        rw [List.take_succ, ht]; rfl
      have hl : (kvs.length).ble 10000 = true := Nat.ble_eq_true_of_le (by have := hT.2; rw [List.length_take] at this; omega)
      have hmem : t ∈ ts := List.mem_of_getElem? ht
      have okc : Ok (k + ts.length) (coef (ts.take n) t.1) := (coef_ok fun x hx => hok x (List.mem_of_mem_take hx)).mono (by rw [List.length_take]; omega)
      refine ⟨[.val P, .dct kvs false, s2, s3, .val (pD t.1), .val (rtD t.2)], [.val P, .dct (putD kvs t.1 (rtD (coef (ts.take n ++ [t]) t.1))) false, s2, s3, .val (pD t.1), .val (rtD t.2)], rfl, ?_, ?_⟩
      · rw [coef_snoc, if_pos rfl]
        have e1 := hT.1 t.1
        cases hh : has (ts.take n) t.1 with
        | true =>
          rw [hh] at e1
          have add := r_add_val L (okc.sm (by omega)) ((hok t hmem).sm (by omega))
          simp [evalS, evalE, pD, ints_map, e1, add, hl]
        | false =>
          rw [hh] at e1
          rw [coef_none hh, Rat.zero_add]
          simp [evalS, evalE, pD, ints_map, e1, hl]
      · rw [tk]
        exact ⟨_, _, _, rfl, hT.step t rfl⟩) (ts.map tmD) 0 [.val P, .dct [] false, s2, s3, s4, s5] (by simp) rfl ⟨[], s4, s5, rfl, Tbl.zero⟩
  refine ⟨kvs, a, b, by rw [h1, h2], ?_⟩
  rw [List.length_map, List.take_length] at h3
  exact h3
end FB

set_option Elab.async false
set_option linter.all false
set_option maxRecDepth 100000
set_option maxHeartbeats 1000000
/-! FBx3: added_parts, the second loop. -/
namespace FB
open PySem L2
theorem parts_any {i : Nat} (hi : i < 9) {L : Nat} (hL : 30 ≤ L) : ∃ ls : List (List Int), Φ L .partitions [.int i] = some (.ptup (ls.map pD)) ∧ ls.length ≤ 100 ∧ (∀ p ∈ ls, p ∈ P12 → p ∈ PT i) ∧ (i ≤ 4 → ls = PT i) := by
  by_cases h4 : i ≤ 4
  · exact ⟨PT i, parts_val h4 hL, by match i, h4 with | 0, _ | 1, _ | 2, _ | 3, _ | 4, _ => decide, fun p h _ => h, fun _ => rfl⟩
  · have hb : bigP i = true := List.all_eq_true.mp bigP_tb i (by
      have : i = 5 ∨ i = 6 ∨ i = 7 ∨ i = 8 := by omega
      rcases this with rfl | rfl | rfl | rfl <;> decide)
    unfold bigP at hb
    split at hb
    · rename_i l e
      rw [Bool.and_eq_true] at hb
      have key : ∀ l : List D, (l.all (fun d => match d with | .tup k => (match ints? k with | some k => !(P12.contains k) | none => false) | _ => false)) = true → ∃ ls : List (List Int), l = ls.map pD ∧ ∀ p ∈ ls, p ∉ P12 := by
        intro l
        induction l with
        | nil => exact fun _ => ⟨[], rfl, fun _ h => nomatch h⟩
        | cons d r ih =>
          intro h
          rw [List.all_cons, Bool.and_eq_true] at h
          obtain ⟨ls, h1, h2⟩ := ih h.2
          have h3 := h.1
          split at h3
          · rename_i k
            split at h3
            · rename_i k' hk
              refine ⟨k' :: ls, ?_, ?_⟩
              · rw [List.map_cons, h1]
                unfold pD
                rw [ints_eq hk]
              · intro p hp
                rcases List.mem_cons.mp hp with rfl | hp
                · simpa using h3
                · exact h2 p hp
            · cases h3
          · cases h3
      obtain ⟨ls, h1, h2⟩ := key l hb.1
      refine ⟨ls, ?_, ?_, fun p hp h => absurd h (h2 p hp), fun h => absurd h h4⟩
      · rw [← h1]
        exact Φ_le hL _ _ _ e
      · have := Nat.le_of_ble_eq_true hb.2
        rw [h1, List.length_map] at this
        exact this
    · cases hb
theorem seq_nx {Φ : Fn → List D → Option D} {a b : IS} {env e : En} {r : Option Fl} (h : evalS Φ a env = some (.nx e)) (h2 : evalS Φ b e = r) : evalS Φ (.seq a b) env = r := by
  show (match evalS Φ a env with
    | some (.nx e) => evalS Φ b e
    | some (.rt d) => some (.rt d)
    | none => none) = r
  rw [h]
  exact h2
theorem for_val {Φ : Fn → List D → Option D} {k : Nat} {arg : IE} {tg : Tg} {body : IS} {env : En} {x : D} {ds : List D} (h : evalE Φ arg env = some x) (hw : walked k x = some ds) (hk : k ≠ 4) : evalS Φ (.forE k arg tg body) env = forGo (evalS Φ body) tg ds env := by
  unfold evalS
  split
  · exact absurd rfl hk
  · rw [h]
    simp only
    rw [hw]
def kp (ts : List TM) (p : List Int) : Bool := has ts p && !decide (coef ts p = 0)
def apB : IS := (.ext 2 (.lc 0 (.call .partitions (.cons (.var 3) .nil)) (.nm 4) (.and (.din false (.var 4) 1) (.not (.call .r_is_zero (.cons (.dget 1 (.var 4)) .nil)))) (.bi .tupD (.cons (.var 4) (.cons (.dget 1 (.var 4)) .nil))) [4]))
def cum (n : Nat) : List (List Int) := (List.range n).flatMap PT
theorem ap_loop2 (L : Nat) (hL : 31 ≤ L) {ts : List TM} (hin : ∀ t ∈ ts, t.1 ∈ P12) {kvs : List (List Int × D)} (hT : Tbl kvs ts) {P : D} {s3 s4 s5 : Sl} :
    ∃ s3' s4', forGo (evalS (Φ L) apB) (.nm 3) ((List.range 9).map fun (x : Nat) => D.int (0 + (x : Int))) [.val P, .dct kvs false, .lst [], s3, s4, s5] = some (.nx [.val P, .dct kvs false, .lst ((nfT ts).map tmD), s3', s4', s5]) := by
  obtain ⟨env', h1, a, b, h2⟩ := forGo_rng (i := 3) (body := evalS (Φ L) apB) (n := 9)
    (fun n env => ∃ s3' s4', env = [.val P, .dct kvs false, .lst (((cum n).filter (kp ts)).map fun p => tmD (p, coef ts p)), s3', s4', s5]) (by
      rintro n env hn ⟨a, b, rfl⟩
      obtain ⟨ls, p1, p2, p3, p4⟩ := parts_any hn (show 30 ≤ L by omega)
      have fl : ls.filter (kp ts) = (PT n).filter (kp ts) := by
        by_cases h4 : n ≤ 4
        · rw [p4 h4]
        · have e1 : PT n = [] := by
            match n, h4 with
            | 0, h | 1, h | 2, h | 3, h | 4, h => exact absurd (by decide) h
            | n + 5, _ => rfl
          rw [e1]
          refine List.filter_eq_nil_iff.mpr fun p hp hk => ?_
          unfold kp at hk
          rw [Bool.and_eq_true] at hk
          obtain ⟨t, ht, e⟩ := List.any_eq_true.mp hk.1
          have := p3 p hp (by rw [← of_decide_eq_true e]; exact hin t ht)
          rw [e1] at this
          cases this
      have lc := lcGo_fm (fT := evalE (Φ L) (.and (.din false (.var 4) 1) (.not (.call .r_is_zero (.cons (.dget 1 (.var 4)) .nil))))) (fE := evalE (Φ L) (.bi .tupD (.cons (.var 4) (.cons (.dget 1 (.var 4)) .nil)))) (tg := .nm 4)
        (env := [.val P, .dct kvs false, .lst (((cum n).filter (kp ts)).map fun p => tmD (p, coef ts p)), .val (.int (0 + (n : Int))), .non, s5])
        pD (kp ts) (fun p => tmD (p, coef ts p)) ls (by
          intro p _
          refine ⟨[.val P, .dct kvs false, .lst (((cum n).filter (kp ts)).map fun p => tmD (p, coef ts p)), .val (.int (0 + (n : Int))), .val (pD p), s5], rfl, ?_, ?_⟩
          · have e1 := hT.1 p
            cases hh : has ts p with
            | false =>
              rw [hh] at e1
              simp [evalE, pD, ints_map, e1, kp, hh]
            | true =>
              rw [hh] at e1
              obtain ⟨L', rfl⟩ : ∃ L', L = L' + 1 := ⟨L - 1, by omega⟩
              have z := r_is_zero_val L' (a := coef ts p)
              simp [evalE, pD, ints_map, e1, kp, hh, z]
          · intro hk
            have e1 := hT.1 p
            unfold kp at hk
            rw [Bool.and_eq_true] at hk
            rw [hk.1] at e1
            simp [evalE, pD, ints_map, e1, bival, tmD])
      have ll : (List.map pD ls).length.ble 10000 = true := Nat.ble_eq_true_of_le (by rw [List.length_map]; omega)
      have cl : ((cum n).filter (kp ts)).length ≤ 100 := by
        refine Nat.le_trans (List.length_filter_le _ _) ?_
        match n, hn with
        | 0, _ | 1, _ | 2, _ | 3, _ | 4, _ | 5, _ | 6, _ | 7, _ | 8, _ => decide
      have fl2 : ((PT n).filter (kp ts)).length ≤ 100 := by rw [← fl]; exact Nat.le_trans (List.length_filter_le _ _) p2
      have lx : ((((cum n).filter (kp ts)).map fun p => tmD (p, coef ts p)).length + (((PT n).filter (kp ts)).map fun p => tmD (p, coef ts p)).length).ble 10000 = true := Nat.ble_eq_true_of_le (by rw [List.length_map, List.length_map]; omega)
      have p1' : Φ L .partitions [.int (0 + (n : Int))] = some (.ptup (ls.map pD)) := by rw [Int.zero_add]; exact p1
      rw [fl] at lc
      refine ⟨[.val P, .dct kvs false, .lst (((cum n).filter (kp ts)).map (fun p => tmD (p, coef ts p)) ++ ((PT n).filter (kp ts)).map fun p => tmD (p, coef ts p)), .val (.int (0 + (n : Int))), b, s5], ?_, .val (.int (0 + (n : Int))), b, ?_⟩
      · show evalS (Φ L) apB [.val P, .dct kvs false, .lst (((cum n).filter (kp ts)).map fun p => tmD (p, coef ts p)), .val (.int (0 + (n : Int))), b, s5] = _
        have e : evalE (Φ L) (.lc 0 (.call .partitions (.cons (.var 3) .nil)) (.nm 4) (.and (.din false (.var 4) 1) (.not (.call .r_is_zero (.cons (.dget 1 (.var 4)) .nil)))) (.bi .tupD (.cons (.var 4) (.cons (.dget 1 (.var 4)) .nil))) [4]) [.val P, .dct kvs false, .lst (((cum n).filter (kp ts)).map fun p => tmD (p, coef ts p)), .val (.int (0 + (n : Int))), b, s5] = some (.lst (((PT n).filter (kp ts)).map fun p => tmD (p, coef ts p))) := by
          show (match evalE (Φ L) (.call .partitions (.cons (.var 3) .nil)) [.val P, .dct kvs false, .lst (((cum n).filter (kp ts)).map fun p => tmD (p, coef ts p)), .val (.int (0 + (n : Int))), b, s5] with
            | some x => _
            | none => none) = _
          have e0 : evalE (Φ L) (.call .partitions (.cons (.var 3) .nil)) [.val P, .dct kvs false, .lst (((cum n).filter (kp ts)).map fun p => tmD (p, coef ts p)), .val (.int (0 + (n : Int))), b, s5] = some (.ptup (ls.map pD)) := by
            rw [← p1']; rfl
          rw [e0]
          simp only [walked]
          show (match lcGo _ _ _ [.val P, .dct kvs false, .lst (((cum n).filter (kp ts)).map fun p => tmD (p, coef ts p)), .val (.int (0 + (n : Int))), .non, s5] (ls.map pD) with
            | some ys => if (List.map pD ls).length.ble 10000 = true then some (D.lst ys) else none
            | none => none) = _
          rw [lc]
          simp only
          rw [if_pos ll]
        unfold apB
        unfold evalS
        rw [e]
        simp only [List.getElem?_cons_succ, List.getElem?_cons_zero]
        rw [if_pos lx]
        rfl
      · have : cum (n + 1) = cum n ++ PT n := by
          unfold cum
          rw [List.range_succ, List.flatMap_append]
          simp
        rw [this, List.filter_append, List.map_append]) (env := [.val P, .dct kvs false, .lst [], s3, s4, s5]) ⟨s3, s4, rfl⟩
  refine ⟨a, b, by rw [h1, h2]; unfold nfT; rw [List.map_map]; rfl⟩
theorem added_val (L : Nat) (hL : 33 ≤ L) {k : Nat} {ts : List TM} (hin : ∀ t ∈ ts, t.1 ∈ P12) (hok : ∀ t ∈ ts, Ok k t.2) (hk : k + ts.length ≤ 190) {P : D} (hP : P = .lst (ts.map tmD) ∨ P = .tup (ts.map tmD)) : Φ L .added_parts [P] = some (.tup ((nfT ts).map tmD)) := by
  obtain ⟨L, rfl⟩ : ∃ L', L = L' + 3 := ⟨L - 3, by omega⟩
  obtain ⟨kvs, a, b, h1, h2⟩ := ap_loop L hok hk (P := P) (s2 := .non) (s3 := .non) (s4 := .non) (s5 := .non)
  obtain ⟨c, d, h3⟩ := ap_loop2 (L + 2) (by omega) hin h2 (P := P) (s3 := .non) (s4 := a) (s5 := b)
  rw [Φ_succ]
  show plain 1 (Φ (L + 2)) i_added_parts n_added_parts [P] = _
  unfold plain
  rw [if_pos (by rfl)]
  refine runS_rt ?_
  show evalS (Φ (L + 2)) i_added_parts [.val P, .non, .non, .non, .non, .non] = _
  have hw : walked 0 P = some (ts.map tmD) := by rcases hP with rfl | rfl <;> rfl
  refine seq_nx (e := [.val P, .dct [] false, .non, .non, .non, .non]) rfl ?_
  refine seq_nx (e := [.val P, .dct kvs false, .non, .non, a, b]) ?_ ?_
  · rw [for_val (x := P) rfl hw (by decide)]
    exact h1
  refine seq_nx (e := [.val P, .dct kvs false, .lst [], .non, a, b]) rfl ?_
  refine seq_nx (e := [.val P, .dct kvs false, .lst ((nfT ts).map tmD), c, d, b]) ?_ rfl
  rw [for_val (x := .tup [.int 9]) (ds := (List.range 9).map fun (x : Nat) => D.int (0 + (x : Int))) rfl rfl (by decide)]
  exact h3
end FB

set_option Elab.async false
set_option linter.all false
set_option maxRecDepth 100000
set_option maxHeartbeats 1000000
/-! FBx4: Symmetric. -/
namespace FB
open PySem L2
def B5 : List Str := ["m", "e", "h", "p", "s"]
/-- a Symmetric object -/
def syD (b : Str) (ts : List TM) : D := .ins 1 [.str b, .tup (ts.map tmD)]
theorem b5_len : (B5.all fun b => decide (b.length = 1)) = true := by decide +kernel
theorem b5_in : (B5.all fun b => !(Builtin.Str.occurrences (Str.ofString "mehps") b 0 (Str.ofString "mehps").length 1).isEmpty) = true := by decide +kernel
theorem as_ratio_val (L : Nat) {q : Rat} : Φ (L + 1) .as_ratio [rtD q] = some (rtD q) := by
  rw [Φ_succ]
  show plain 1 (Φ L) i_as_ratio n_as_ratio [rtD q] = _
  unfold plain
  rw [if_pos (by rfl)]
  exact runS_rt rfl
theorem isp_val {p : List Int} (hp : p ∈ P12) {L : Nat} (hL : 30 ≤ L) : Φ L .is_partition [pD p] = some (.bl true) := tb_eq (List.all_eq_true.mp isp_tb p hp) hL
theorem chk_val {p : List Int} (hp : p ∈ P12) {L : Nat} (hL : 30 ≤ L) : Φ L .check_part [pD p] = some .non := tb_eq (List.all_eq_true.mp chk_tb p hp) hL
theorem size_val {p : List Int} (hp : p ∈ P12) {L : Nat} (hL : 30 ≤ L) : Φ L .size [pD p] = some (.int p.sum) := tb_eq (List.all_eq_true.mp size_tb p hp) hL
def syB1 : IS := (.seq (.ite (.or (.not (.bi .isTuple (.cons (.var 4) .nil))) (.or (.bi .ne (.cons (.bi .len (.cons (.var 4) .nil)) (.cons (.cst (.int 2)) .nil))) (.not (.call .is_partition (.cons (.bi .ix (.cons (.var 4) (.cons (.cst (.int 0)) .nil))) .nil))))) .fail .skip) (.app 3 (.bi .tupD (.cons (.bi .ix (.cons (.var 4) (.cons (.cst (.int 0)) .nil))) (.cons (.call .as_ratio (.cons (.bi .ix (.cons (.var 4) (.cons (.cst (.int 1)) .nil))) .nil)) .nil)))))
theorem sy_loop1 (L : Nat) (hL : 30 ≤ L) {ts : List TM} (hin : ∀ t ∈ ts, t.1 ∈ P12) (hk : ts.length ≤ 190) {s0 s1 s2 s4 s5 s6 : Sl} :
    ∃ s4', forGo (evalS (Φ L) syB1) (.nm 4) (ts.map tmD) [s0, s1, s2, .lst [], s4, s5, s6] = some (.nx [s0, s1, s2, .lst (ts.map tmD), s4', s5, s6]) := by
  obtain ⟨env', h1, a, h2⟩ := forGo_list (l := ts.map tmD) (tg := .nm 4) (body := evalS (Φ L) syB1)
    (fun n env => ∃ s4', env = [s0, s1, s2, .lst ((ts.take n).map tmD), s4', s5, s6]) (by
      rintro n d env hd ⟨a, rfl⟩
      rw [List.getElem?_map] at hd
      rcases ht : ts[n]? with _ | t
      · rw [ht] at hd; cases hd
      rw [ht] at hd
      cases hd
      have hmem : t ∈ ts := List.mem_of_getElem? ht
      have tk : ts.take (n + 1) = ts.take n ++ [t] := by
        rw [List.take_succ, ht]; rfl
      refine ⟨[s0, s1, s2, .lst ((ts.take n).map tmD), .val (tmD t), s5, s6], [s0, s1, s2, .lst ((ts.take n).map tmD ++ [tmD t]), .val (tmD t), s5, s6], rfl, ?_, ⟨.val (tmD t), by rw [tk, List.map_append]; rfl⟩⟩
      have e1 := isp_val (hin t hmem) hL
      obtain ⟨L', rfl⟩ : ∃ L', L = L' + 1 := ⟨L - 1, by omega⟩
      have e2 := as_ratio_val L' (q := t.2)
      have hl : ((ts.take n).map tmD).length.ble 10000 = true := Nat.ble_eq_true_of_le (by rw [List.length_map, List.length_take]; omega)
      simp only [List.length_map] at hl
      have at0 : atI [pD t.1, rtD t.2] 0 = some (pD t.1) := rfl
      have at1 : atI [pD t.1, rtD t.2] 1 = some (rtD t.2) := rfl
      simp [syB1, evalS, evalE, bival, tmD, items?, eqD, at0, at1, e1, e2]
      omega) (ts.map tmD) 0 [s0, s1, s2, .lst [], s4, s5, s6] (by simp) rfl ⟨s4, rfl⟩
  rw [List.length_map, List.take_length] at h2
  exact ⟨a, by rw [h1, h2]⟩
theorem sy_loop2 (L : Nat) (hL : 30 ≤ L) {ts : List TM} (hin : ∀ t ∈ ts, t.1 ∈ P12) {s0 s1 s2 s3 s4 s5 s6 : Sl} :
    ∃ s5' s6', forGo (evalS (Φ L) (.exp (.call .check_part (.cons (.var 5) .nil)))) (.pr 5 6) (ts.map tmD) [s0, s1, s2, s3, s4, s5, s6] = some (.nx [s0, s1, s2, s3, s4, s5', s6']) := by
  obtain ⟨env', h1, a, b, h2⟩ := forGo_list (l := ts.map tmD) (tg := .pr 5 6) (body := evalS (Φ L) (.exp (.call .check_part (.cons (.var 5) .nil))))
    (fun n env => ∃ s5' s6', env = [s0, s1, s2, s3, s4, s5', s6']) (by
      rintro n d env hd ⟨a, b, rfl⟩
      rw [List.getElem?_map] at hd
      rcases ht : ts[n]? with _ | t
      · rw [ht] at hd; cases hd
      rw [ht] at hd
      cases hd
      have e1 := chk_val (hin t (List.mem_of_getElem? ht)) hL
      refine ⟨[s0, s1, s2, s3, s4, .val (pD t.1), .val (rtD t.2)], [s0, s1, s2, s3, s4, .val (pD t.1), .val (rtD t.2)], rfl, ?_, _, _, rfl⟩
      simp [evalS, evalE, e1]) (ts.map tmD) 0 [s0, s1, s2, s3, s4, s5, s6] (by simp) rfl ⟨s5, s6, rfl⟩
  exact ⟨a, b, by rw [h1, h2]⟩
theorem sym_val (L : Nat) (hL : 34 ≤ L) {b : Str} (hb : b ∈ B5) {k : Nat} {ts : List TM} (hin : ∀ t ∈ ts, t.1 ∈ P12) (hok : ∀ t ∈ ts, Ok k t.2) (hk : k + ts.length ≤ 190) {P : D} (hP : P = .lst (ts.map tmD) ∨ P = .tup (ts.map tmD)) : Φ L .symmetric [.str b, P] = some (syD b (nfT ts)) := by
  obtain ⟨L, rfl⟩ : ∃ L', L = L' + 1 := ⟨L - 1, by omega⟩
  obtain ⟨a, h1⟩ := sy_loop1 L (by omega) hin (by omega) (s0 := .ins 1 []) (s1 := .val (.str b)) (s2 := .val P) (s4 := .non) (s5 := .non) (s6 := .non)
  obtain ⟨c, d, h2⟩ := sy_loop2 L (by omega) hin (s0 := .ins 1 []) (s1 := .val (.str b)) (s2 := .val P) (s3 := .val (.lst (ts.map tmD))) (s4 := a) (s5 := .non) (s6 := .non)
  have h3 := added_val L (by omega) hin hok hk (P := .lst (ts.map tmD)) (.inl rfl)
  have l1 : b.length = 1 := of_decide_eq_true (List.all_eq_true.mp b5_len b hb)
  have l2 := List.all_eq_true.mp b5_in b hb
  have hw : walked 0 P = some (ts.map tmD) := by rcases hP with rfl | rfl <;> rfl
  have hs : bival .isSeq [P] = some (.bl true) := by rcases hP with rfl | rfl <;> rfl
  rw [Φ_succ]
  show init 3 1 (Φ L) i_symmetric n_symmetric [.str b, P] = _
  unfold init
  rw [if_pos (by rfl)]
  unfold runI
  have run : evalS (Φ L) i_symmetric (Sl.ins 1 [] :: (([.str b, P] : List D).map Sl.val ++ List.replicate (n_symmetric.length - (([.str b, P] : List D).length + 1)) Sl.non)) = some (.nx [.ins 1 [.str b, .tup ((nfT ts).map tmD)], .val (.str b), .val P, .val (.lst (ts.map tmD)), a, c, d]) := by
    show evalS (Φ L) i_symmetric [.ins 1 [], .val (.str b), .val P, .non, .non, .non, .non] = _
    refine seq_nx (e := [.ins 1 [], .val (.str b), .val P, .non, .non, .non, .non]) ?_ ?_
    · have ll : (b.length.ble 10000) = true := by rw [l1]; rfl
      rw [Bool.not_eq_true'] at l2
      rcases hP with rfl | rfl <;> simp [evalS, evalE, bival, eqD, l1, l2]
    refine seq_nx (e := [.ins 1 [], .val (.str b), .val P, .lst [], .non, .non, .non]) rfl ?_
    refine seq_nx (e := [.ins 1 [], .val (.str b), .val P, .lst (ts.map tmD), a, .non, .non]) ?_ ?_
    · rw [for_val (x := P) rfl hw (by decide)]
      exact h1
    refine seq_nx (e := [.ins 1 [], .val (.str b), .val P, .val (.lst (ts.map tmD)), a, c, d]) ?_ ?_
    · refine seq_nx (e := [.ins 1 [], .val (.str b), .val P, .val (.lst (ts.map tmD)), a, .non, .non]) rfl ?_
      rw [for_val (x := .lst (ts.map tmD)) rfl rfl (by decide)]
      exact h2
    refine seq_nx (e := [.ins 1 [.str b], .val (.str b), .val P, .val (.lst (ts.map tmD)), a, c, d]) rfl ?_
    have e3 : evalE (Φ L) (.call .added_parts (.cons (.var 3) .nil)) [.ins 1 [.str b], .val (.str b), .val P, .val (.lst (ts.map tmD)), a, c, d] = some (.tup ((nfT ts).map tmD)) := h3
    unfold evalS
    rw [e3]
    rfl
  rw [run]
  rfl
end FB

set_option Elab.async false
set_option linter.all false
set_option maxRecDepth 100000
set_option maxHeartbeats 1000000
/-! FBx5: Symmetric's small methods. -/
namespace FB
open PySem L2
/-- the multiple of p -/
def fstT : List TM → List Int → Rat
  | [], _ => 0
  | t :: r, p => if t.1 = p then t.2 else fstT r p
theorem mult_loop (L : Nat) {p : List Int} {s0 : Sl} : ∀ (ts : List TM) {s2 s3 : Sl}, (∃ s2' s3', forGo (evalS (Φ L) (.ite (.bi .eq (.cons (.var 2) (.cons (.var 1) .nil))) (.ret (.var 3)) .skip)) (.pr 2 3) (ts.map tmD) [s0, .val (pD p), s2, s3] = some (.nx [s0, .val (pD p), s2', s3']) ∧ fstT ts p = 0) ∨ forGo (evalS (Φ L) (.ite (.bi .eq (.cons (.var 2) (.cons (.var 1) .nil))) (.ret (.var 3)) .skip)) (.pr 2 3) (ts.map tmD) [s0, .val (pD p), s2, s3] = some (.rt (rtD (fstT ts p)))
  | [], s2, s3 => .inl ⟨s2, s3, rfl, rfl⟩
  | t :: r, s2, s3 => by
    rw [List.map_cons]
    unfold forGo
    have e1 : tgSet (.pr 2 3) (tmD t) [s0, .val (pD p), s2, s3] = some [s0, .val (pD p), .val (pD t.1), .val (rtD t.2)] := rfl
    rw [e1]
    simp only
    by_cases h : t.1 = p
    · refine .inr ?_
      have e2 : evalS (Φ L) (.ite (.bi .eq (.cons (.var 2) (.cons (.var 1) .nil))) (.ret (.var 3)) .skip) [s0, .val (pD p), .val (pD t.1), .val (rtD t.2)] = some (.rt (rtD t.2)) := by
        simp [evalS, evalE, bival, eqD, pD, ints_map, h]
      rw [e2]
      unfold fstT
      rw [if_pos h]
    · have e2 : evalS (Φ L) (.ite (.bi .eq (.cons (.var 2) (.cons (.var 1) .nil))) (.ret (.var 3)) .skip) [s0, .val (pD p), .val (pD t.1), .val (rtD t.2)] = some (.nx [s0, .val (pD p), .val (pD t.1), .val (rtD t.2)]) := by
        simp [evalS, evalE, bival, eqD, pD, ints_map, h]
      rw [e2]
      unfold fstT
      rw [if_neg h]
      exact mult_loop L r
theorem mult_val (L : Nat) {b : Str} {ts : List TM} {p : List Int} : Φ (L + 3) .s_multiple [syD b ts, pD p] = some (rtD (fstT ts p)) := by
  rw [Φ_succ]
  have e2 : body (Φ (L + 2)) .s_multiple [syD b ts, pD p] = runS (Φ (L + 2)) i_s_multiple n_s_multiple [syD b ts, pD p] := by
    show meth 2 1 (Φ (L + 2)) i_s_multiple n_s_multiple [syD b ts, pD p] = _
    unfold meth syD
    simp
  rw [e2]
  refine runS_rt ?_
  show evalS (Φ (L + 2)) i_s_multiple [.val (syD b ts), .val (pD p), .non, .non] = _
  have fe : evalS (Φ (L + 2)) (.forE 0 (.fld 1 1 (.var 0)) (.pr 2 3) (.ite (.bi .eq (.cons (.var 2) (.cons (.var 1) .nil))) (.ret (.var 3)) .skip)) [.val (syD b ts), .val (pD p), .non, .non] = forGo (evalS (Φ (L + 2)) (.ite (.bi .eq (.cons (.var 2) (.cons (.var 1) .nil))) (.ret (.var 3)) .skip)) (.pr 2 3) (ts.map tmD) [.val (syD b ts), .val (pD p), .non, .non] := for_val (x := .tup (ts.map tmD)) rfl rfl (by decide)
  rcases mult_loop (L + 2) (p := p) (s0 := .val (syD b ts)) ts (s2 := .non) (s3 := .non) with ⟨a, c, h1, h2⟩ | h1
  · refine seq_nx (e := [.val (syD b ts), .val (pD p), a, c]) (by rw [fe]; exact h1) ?_
    have z := zero_val L
    rw [h2]
    simp [evalS, evalE, z]
  · unfold i_s_multiple
    unfold evalS
    rw [fe, h1]
/-- the degree -/
def dg : List TM → Int
  | [] => -1
  | t :: r => if dg r > t.1.sum then dg r else t.1.sum
theorem dg_maxI : ∀ (ts : List TM), maxI ((ts.map fun t => t.1.sum) ++ [-1]) = some (dg ts)
  | [] => rfl
  | [t] => rfl
  | t :: u :: r => by
    have ih := dg_maxI (u :: r)
    show (maxI (((u :: r).map fun t => t.1.sum) ++ [-1])).map _ = _
    rw [ih]
    rfl
theorem dg_ge {ts : List TM} : ∀ t ∈ ts, t.1.sum ≤ dg ts := by
  induction ts with
  | nil => exact fun _ h => nomatch h
  | cons u r ih =>
    intro t ht
    unfold dg
    rcases List.mem_cons.mp ht with rfl | ht
    · split <;> omega
    · have := ih t ht
      split <;> omega
theorem dg_le {ts : List TM} {m : Int} (hm : -1 ≤ m) (h : ∀ t ∈ ts, t.1.sum ≤ m) : dg ts ≤ m := by
  induction ts with
  | nil => exact hm
  | cons u r ih =>
    have h1 := h u (List.mem_cons_self ..)
    have h2 := ih fun t ht => h t (List.mem_cons_of_mem _ ht)
    unfold dg
    split <;> omega
theorem degree_val (L : Nat) (hL : 31 ≤ L) {b : Str} {ts : List TM} (hin : ∀ t ∈ ts, t.1 ∈ P12) (hk : ts.length ≤ 190) : Φ L .s_degree [syD b ts] = some (.int (dg ts)) := by
  obtain ⟨L, rfl⟩ : ∃ L', L = L' + 1 := ⟨L - 1, by omega⟩
  rw [Φ_succ]
  have e2 : body (Φ L) .s_degree [syD b ts] = runS (Φ L) i_s_degree n_s_degree [syD b ts] := by
    show meth 1 1 (Φ L) i_s_degree n_s_degree [syD b ts] = _
    unfold meth syD
    simp
  rw [e2]
  refine runS_rt ?_
  show evalS (Φ L) i_s_degree [.val (syD b ts), .non, .non] = _
  have lc := lcGo_fm (fT := evalE (Φ L) (.cst (.bl true))) (fE := evalE (Φ L) (.call .size (.cons (.var 1) .nil))) (tg := .pr 1 2) (env := [.val (syD b ts), .non, .non]) tmD (fun _ => true) (fun t => .int t.1.sum) ts (by
    intro t ht
    refine ⟨[.val (syD b ts), .val (pD t.1), .val (rtD t.2)], rfl, rfl, fun _ => ?_⟩
    have := size_val (hin t ht) (L := L) (by omega)
    simp [evalE, this])
  rw [List.filter_eq_self.mpr (fun _ _ => rfl)] at lc
  have hl : (List.map tmD ts).length.ble 10000 = true := Nat.ble_eq_true_of_le (by rw [List.length_map]; omega)
  have el : evalE (Φ L) (.lc 0 (.fld 1 1 (.var 0)) (.pr 1 2) (.cst (.bl true)) (.call .size (.cons (.var 1) .nil)) [1, 2]) [.val (syD b ts), .non, .non] = some (.lst (ts.map fun t => .int t.1.sum)) := by
    show (match lcGo _ _ _ [.val (syD b ts), .non, .non] (ts.map tmD) with
      | some ys => if (List.map tmD ts).length.ble 10000 = true then some (D.lst ys) else none
      | none => none) = _
    rw [lc]
    simp only
    rw [if_pos hl]
  have hm : ints? ((ts.map fun t => D.int t.1.sum) ++ [D.int (-1)]) = some ((ts.map fun t => t.1.sum) ++ [-1]) := by
    rw [← ints_map ((ts.map fun t => t.1.sum) ++ [-1]), List.map_append, List.map_map]
    rfl
  have hl2 : ((ts.map fun t => D.int t.1.sum).length + 1).ble 10000 = true := Nat.ble_eq_true_of_le (by rw [List.length_map]; omega)
  unfold i_s_degree evalS
  have e3 : evalE (Φ L) (.bi .add (.cons (.lc 0 (.fld 1 1 (.var 0)) (.pr 1 2) (.cst (.bl true)) (.call .size (.cons (.var 1) .nil)) [1, 2]) (.cons (.bi .lstD (.cons (.bi .neg (.cons (.cst (.int 1)) .nil)) .nil)) .nil))) [.val (syD b ts), .non, .non] = some (.lst ((ts.map fun t => D.int t.1.sum) ++ [D.int (-1)])) := by
    rw [evalE, evalE, el]
    show (if ((ts.map fun t => D.int t.1.sum).length + 1).ble 10000 = true then some _ else none) = _
    rw [if_pos hl2]
  rw [evalE, evalE, e3]
  show (Option.map Fl.rt ((ints? _).bind fun is => (maxI is).map D.int)) = _
  rw [hm]
  show (Option.map Fl.rt ((maxI _).map D.int)) = _
  rw [dg_maxI]
  rfl
theorem is_zero_val (L : Nat) {b : Str} {ts : List TM} : Φ (L + 1) .s_is_zero [syD b ts] = some (.bl (ts.isEmpty)) := by
  rw [Φ_succ]
  have e2 : body (Φ L) .s_is_zero [syD b ts] = runS (Φ L) i_s_is_zero n_s_is_zero [syD b ts] := by
    show meth 1 1 (Φ L) i_s_is_zero n_s_is_zero [syD b ts] = _
    unfold meth syD
    simp
  rw [e2]
  refine runS_rt ?_
  show evalS (Φ L) i_s_is_zero [.val (syD b ts)] = _
  cases ts <;> simp [i_s_is_zero, evalS, evalE, bival, syD, items?, eqD]
  omega
theorem part_of_val (L : Nat) (hL : 35 ≤ L) {b : Str} (hb : b ∈ B5) {k : Nat} {ts : List TM} (hin : ∀ t ∈ ts, t.1 ∈ P12) (hok : ∀ t ∈ ts, Ok k t.2) (hk : k + ts.length ≤ 190) (d : Int) : Φ L .s_part_of [syD b ts, .int d] = some (syD b (nfT (ts.filter fun t => decide (t.1.sum = d)))) := by
  obtain ⟨L, rfl⟩ : ∃ L', L = L' + 1 := ⟨L - 1, by omega⟩
  rw [Φ_succ]
  have e2 : body (Φ L) .s_part_of [syD b ts, .int d] = runS (Φ L) i_s_part_of n_s_part_of [syD b ts, .int d] := by
    show meth 2 1 (Φ L) i_s_part_of n_s_part_of [syD b ts, .int d] = _
    unfold meth syD
    simp
  rw [e2]
  refine runS_rt ?_
  show evalS (Φ L) i_s_part_of [.val (syD b ts), .val (.int d), .non, .non] = _
  have lc := lcGo_fm (fT := evalE (Φ L) (.bi .eq (.cons (.call .size (.cons (.var 2) .nil)) (.cons (.var 1) .nil)))) (fE := evalE (Φ L) (.bi .tupD (.cons (.var 2) (.cons (.var 3) .nil)))) (tg := .pr 2 3) (env := [.val (syD b ts), .val (.int d), .non, .non]) tmD (fun t => decide (t.1.sum = d)) tmD ts (by
    intro t ht
    refine ⟨[.val (syD b ts), .val (.int d), .val (pD t.1), .val (rtD t.2)], rfl, ?_, fun _ => rfl⟩
    have := size_val (hin t ht) (L := L) (by omega)
    simp [evalE, this, bival, eqD])
  have hl : (List.map tmD ts).length.ble 10000 = true := Nat.ble_eq_true_of_le (by rw [List.length_map]; omega)
  have el : evalE (Φ L) (.lc 0 (.fld 1 1 (.var 0)) (.pr 2 3) (.bi .eq (.cons (.call .size (.cons (.var 2) .nil)) (.cons (.var 1) .nil))) (.bi .tupD (.cons (.var 2) (.cons (.var 3) .nil))) [2, 3]) [.val (syD b ts), .val (.int d), .non, .non] = some (.lst ((ts.filter fun t => decide (t.1.sum = d)).map tmD)) := by
    show (match lcGo _ _ _ [.val (syD b ts), .val (.int d), .non, .non] (ts.map tmD) with
      | some ys => if (List.map tmD ts).length.ble 10000 = true then some (D.lst ys) else none
      | none => none) = _
    rw [lc]
    simp only
    rw [if_pos hl]
  have lf := List.length_filter_le (fun t : TM => decide (t.1.sum = d)) ts
  have sv := sym_val L (by omega) hb (k := k) (ts := ts.filter fun t => decide (t.1.sum = d)) (fun t ht => hin t (List.mem_filter.mp ht).1) (fun t ht => hok t (List.mem_filter.mp ht).1) (by omega) (.inl rfl)
  unfold i_s_part_of evalS
  rw [evalE, evalE, evalE, el]
  show Option.map Fl.rt (Φ L .symmetric [.str b, .lst _]) = _
  rw [sv]
  rfl
end FB

set_option Elab.async false
set_option linter.all false
set_option maxRecDepth 100000
set_option maxHeartbeats 1000000
/-! FBx6: forward, backward, combined. -/
namespace FB
open PySem L2
def rowD (r : List Rat) : D := .tup (r.map rtD)
def tabD (T : List (List Int)) : D := .tup (T.map fun r => rowD (r.map (fun (t : Int) => (t : Rat))))
def tat (T : List (List Int)) (i j : Nat) : Int := (T.getD i []).getD j 0
def fwdVal (row : List Rat) (T : List (List Int)) (j : Nat) (found : List Rat) : Nat → Rat
  | 0 => row.getD j 0
  | i + 1 => fwdVal row T j found i - found.getD i 0 * (tat T i j : Rat)
def fwdRow (row : List Rat) (T : List (List Int)) : Nat → List Rat
  | 0 => []
  | j + 1 => fwdRow row T j ++ [fwdVal row T j (fwdRow row T j) j / (tat T j j : Rat)]
theorem fwdRow_len (row : List Rat) (T : List (List Int)) : ∀ j, (fwdRow row T j).length = j
  | 0 => rfl
  | j + 1 => by unfold fwdRow; rw [List.length_append, fwdRow_len row T j]; rfl
/-- a table of n rows that the program solves -/
def TabOk (n : Nat) (T : List (List Int)) : Prop := T.length = n ∧ (∀ r ∈ T, r.length = n) ∧ (∀ i j, i < n → j < n → (tat T i j).natAbs ≤ 24)
def DiagOk (n : Nat) (T : List (List Int)) : Prop := ∀ j, j < n → 0 < tat T j j ∧ (tat T j j).toNat ∣ 24
theorem atI_nat {ds : List D} {j : Nat} (h : j < ds.length) : atI ds (j : Int) = some ds[j] := by
  unfold atI ixN
  simp [h]
theorem row_at {r : List Rat} {j : Nat} (h : j < r.length) : atI (r.map rtD) (j : Int) = some (rtD (r.getD j 0)) := by
  rw [atI_nat (by rw [List.length_map]; exact h), List.getElem_map, List.getD_eq_getElem?_getD, List.getElem?_eq_getElem h]
  rfl
theorem tab_at {n : Nat} {T : List (List Int)} (hT : TabOk n T) {i j : Nat} (hi : i < n) (hj : j < n) : ∃ r : List Int, atI (T.map fun r => rowD (r.map (fun (t : Int) => (t : Rat)))) (i : Int) = some (rowD (r.map (fun (t : Int) => (t : Rat)))) ∧ atI ((r.map (fun (t : Int) => (t : Rat))).map rtD) (j : Int) = some (rtD ((tat T i j : Int) : Rat)) := by
  have h1 : i < T.length := by rw [hT.1]; exact hi
  refine ⟨T[i], ?_, ?_⟩
  · rw [atI_nat (by rw [List.length_map]; exact h1), List.getElem_map]
  · have h2 : T[i].length = n := hT.2.1 _ (List.getElem_mem h1)
    rw [row_at (by rw [List.length_map, h2]; exact hj)]
    unfold tat
    rw [List.getD_eq_getElem?_getD, List.getElem?_map, List.getD_eq_getElem?_getD, List.getD_eq_getElem?_getD, List.getElem?_eq_getElem h1]
    simp [List.getElem?_eq_getElem (show j < T[i].length by omega)]
def tl (T : List (List Int)) : List D := T.map fun r => rowD (r.map (fun (t : Int) => (t : Rat)))
theorem tabD_eq (T : List (List Int)) : tabD T = .tup (tl T) := rfl
theorem tl_at {n : Nat} {T : List (List Int)} (hT : TabOk n T) {i j : Nat} (hi : i < n) (hj : j < n) : ∃ rl, atI (tl T) (i : Int) = some (.tup rl) ∧ atI rl (j : Int) = some (rtD ((tat T i j : Int) : Rat)) := by
  obtain ⟨r, h1, h2⟩ := tab_at hT hi hj
  exact ⟨_, h1, h2⟩
/-- the inner loop of forward -/
def fwB : IS := (.asg 4 (.call .r_sub (.cons (.var 4) (.cons (.call .r_mul (.cons (.ixO 2 (.var 5)) (.cons (.bi .ix (.cons (.bi .ix (.cons (.var 1) (.cons (.var 5) .nil))) (.cons (.var 3) .nil))) .nil))) .nil))))
theorem fw_inner (L : Nat) {n : Nat} {T : List (List Int)} (hT : TabOk n T) {row found : List Rat} {j k : Nat} (hj : j < n) (hf : found.length = j) (hrow : Ok k (row.getD j 0)) (hfo : ∀ i, i < j → Ok (k + 3 * i + 1) (found.getD i 0)) (hk : k + 3 * n ≤ 190) {s0 s5 : Sl} :
    ∃ s5', forGo (evalS (Φ (L + 2)) fwB) (.nm 5) ((List.range j).map fun (x : Nat) => D.int (0 + (x : Int))) [s0, .val (tabD T), .lst (found.map rtD), .val (.int (j : Int)), .val (rtD (row.getD j 0)), s5] = some (.nx [s0, .val (tabD T), .lst (found.map rtD), .val (.int (j : Int)), .val (rtD (fwdVal row T j found j)), s5']) ∧ Ok (k + 3 * j) (fwdVal row T j found j) := by
  obtain ⟨env', h1, a, h2, h3⟩ := forGo_rng (i := 5) (body := evalS (Φ (L + 2)) fwB) (n := j)
    (fun i env => ∃ s5', env = [s0, .val (tabD T), .lst (found.map rtD), .val (.int (j : Int)), .val (rtD (fwdVal row T j found i)), s5'] ∧ Ok (k + 3 * i) (fwdVal row T j found i)) (by
      rintro i env hi ⟨a, rfl, ho⟩
      obtain ⟨rl, e1, e2⟩ := tl_at hT (show i < n by omega) hj
      have e3 := row_at (r := found) (j := i) (by omega)
      have oT : Ok 1 ((tat T i j : Int) : Rat) := Ok.int (hT.2.2 i j (by omega) hj)
      have o1 := (hfo i hi)
      have o2 := o1.mul oT
      have m := r_mul_val L (o1.sm (by omega)) (oT.sm (by omega))
      have sb := r_sub_val L (ho.sm (by omega)) (o2.sm (by omega))
      refine ⟨[s0, .val (tabD T), .lst (found.map rtD), .val (.int (j : Int)), .val (rtD (fwdVal row T j found (i + 1))), .val (.int (0 + (i : Int)))], ?_, ⟨_, rfl, ?_⟩⟩
      · rw [Int.zero_add]
        rw [tabD_eq]
        simp [-List.getD_eq_getElem?_getD, fwB, evalS, evalE, bival, e1, e2, e3, m, sb, fwdVal]
      · exact (ho.mono (by omega)).sub (o2.mono (show k + 3 * i + 1 + 1 ≤ k + 3 * i + 2 by omega)) |>.mono (by omega)) (env := [s0, .val (tabD T), .lst (found.map rtD), .val (.int (j : Int)), .val (rtD (row.getD j 0)), s5]) ⟨s5, rfl, hrow⟩
  exact ⟨a, by rw [h1, h2], h3⟩
end FB

set_option Elab.async false
set_option linter.all false
set_option maxRecDepth 100000
set_option maxHeartbeats 1000000
/-! FBx7: forward. -/
namespace FB
open PySem L2
def fwB2 : IS := (.seq (.asg 4 (.bi .ix (.cons (.var 0) (.cons (.var 3) .nil)))) (.seq (.forE 1 (.cons (.var 3) .nil) (.nm 5) fwB) (.app 2 (.call .r_over (.cons (.var 4) (.cons (.bi .ix (.cons (.bi .ix (.cons (.var 1) (.cons (.var 3) .nil))) (.cons (.var 3) .nil))) .nil))))))
theorem fwdRow_get {row : List Rat} {T : List (List Int)} {j i : Nat} (h : i < j) : (fwdRow row T j).getD i 0 = (fwdRow row T (i + 1)).getD i 0 := by
  induction j with
  | zero => omega
  | succ j ih =>
    by_cases e : i = j
    · subst e; rfl
    · have hl := fwdRow_len row T j
      have : (fwdRow row T (j + 1)).getD i 0 = (fwdRow row T j).getD i 0 := by
        show (fwdRow row T j ++ [_]).getD i 0 = _
        rw [List.getD_eq_getElem?_getD, List.getElem?_append_left (by omega), List.getD_eq_getElem?_getD]
      rw [this, ih (by omega)]
theorem fw_outer (L : Nat) {n k : Nat} {T : List (List Int)} (hT : TabOk n T) (hD : DiagOk n T) {row : List Rat} (hr : row.length = n) (hrow : ∀ j, j < n → Ok k (row.getD j 0)) (hk : k + 3 * n ≤ 180) (hn : n ≤ 50) {s3 s4 s5 : Sl} :
    ∃ s3' s4' s5', forGo (evalS (Φ (L + 2)) fwB2) (.nm 3) ((List.range n).map fun (x : Nat) => D.int (0 + (x : Int))) [.val (rowD row), .val (tabD T), .lst [], s3, s4, s5] = some (.nx [.val (rowD row), .val (tabD T), .lst ((fwdRow row T n).map rtD), s3', s4', s5']) ∧ (∀ i, i < n → Ok (k + 3 * i + 1) ((fwdRow row T n).getD i 0)) := by
  obtain ⟨env', h1, a, b, c, h2, h3⟩ := forGo_rng (i := 3) (body := evalS (Φ (L + 2)) fwB2) (n := n)
    (fun j env => ∃ s3' s4' s5', env = [.val (rowD row), .val (tabD T), .lst ((fwdRow row T j).map rtD), s3', s4', s5'] ∧ (∀ i, i < j → Ok (k + 3 * i + 1) ((fwdRow row T j).getD i 0))) (by
      rintro j env hj ⟨a, b, c, rfl, ho⟩
      have hl := fwdRow_len row T j
      obtain ⟨c', h1, h2⟩ := fw_inner L hT (row := row) (found := fwdRow row T j) hj hl (hrow j hj) ho (by omega) (s0 := .val (rowD row)) (s5 := c)
      obtain ⟨rl, e1, e2⟩ := tl_at hT hj hj
      obtain ⟨d0, d1⟩ := hD j hj
      have ov := r_over_val L (h2.sm (by omega)) d0 (Nat.le_trans (hT.2.2 j j hj hj) (by decide +kernel))
      have e3 := row_at (r := row) (j := j) (by omega)
      have oq : Ok (k + 3 * j + 1) (fwdVal row T j (fwdRow row T j) j / (tat T j j : Rat)) := by
        have : (tat T j j : Rat) = (((tat T j j).toNat : Int) : Rat) := by rw [Int.toNat_of_nonneg (by omega)]
        rw [this]
        exact h2.div (by omega) d1
      refine ⟨[.val (rowD row), .val (tabD T), .lst ((fwdRow row T (j + 1)).map rtD), .val (.int (j : Int)), .val (rtD (fwdVal row T j (fwdRow row T j) j)), c'], ?_, _, _, _, rfl, ?_⟩
      · rw [Int.zero_add]
        show evalS (Φ (L + 2)) fwB2 [.val (rowD row), .val (tabD T), .lst ((fwdRow row T j).map rtD), .val (.int (j : Int)), b, c] = _
        refine seq_nx (e := [.val (rowD row), .val (tabD T), .lst ((fwdRow row T j).map rtD), .val (.int (j : Int)), .val (rtD (row.getD j 0)), c]) ?_ ?_
        · simp [-List.getD_eq_getElem?_getD, evalS, evalE, bival, rowD, e3]
        refine seq_nx (e := [.val (rowD row), .val (tabD T), .lst ((fwdRow row T j).map rtD), .val (.int (j : Int)), .val (rtD (fwdVal row T j (fwdRow row T j) j)), c']) ?_ ?_
        · have w : walked 1 (.tup [.int (j : Int)]) = some ((List.range j).map fun (x : Nat) => D.int (0 + (x : Int))) := by
            have : okR (j : Int) = true := by
              unfold okR
              rw [Bool.and_eq_true]
              exact ⟨decide_eq_true (by omega), decide_eq_true (by omega)⟩
            simp [walked, this]
          rw [for_val (x := .tup [.int (j : Int)]) rfl w (by decide)]
          exact h1
        · have ll : (fwdRow row T j).length ≤ 10000 := by omega
          rw [tabD_eq]
          simp [evalS, evalE, bival, e1, e2, ov, ll, fwdRow]
      · intro i hi
        by_cases e : i = j
        · subst e
          have : (fwdRow row T (i + 1)).getD i 0 = fwdVal row T i (fwdRow row T i) i / (tat T i i : Rat) := by
            show (fwdRow row T i ++ [_]).getD i 0 = _
            rw [List.getD_eq_getElem?_getD, List.getElem?_append_right (by omega), hl]
            simp
          rw [this]; exact oq
        · rw [fwdRow_get hi, ← fwdRow_get (show i < j by omega)]
          exact ho i (by omega)) (env := [.val (rowD row), .val (tabD T), .lst [], s3, s4, s5]) ⟨s3, s4, s5, rfl, fun i h => absurd h (by omega)⟩
  exact ⟨a, b, c, by rw [h1, h2], h3⟩
theorem forward_val (L : Nat) {n k : Nat} {T : List (List Int)} (hT : TabOk n T) (hD : DiagOk n T) {row : List Rat} (hr : row.length = n) (hrow : ∀ j, j < n → Ok k (row.getD j 0)) (hk : k + 3 * n ≤ 180) (hn : n ≤ 50) :
    Φ (L + 3) .forward [rowD row, tabD T] = some (rowD (fwdRow row T n)) ∧ (∀ i, i < n → Ok (k + 3 * n) ((fwdRow row T n).getD i 0)) := by
  obtain ⟨a, b, c, h1, h2⟩ := fw_outer L hT hD hr hrow hk hn (s3 := .non) (s4 := .non) (s5 := .non)
  refine ⟨?_, fun i hi => (h2 i hi).mono (by omega)⟩
  rw [Φ_succ]
  show plain 2 (Φ (L + 2)) i_forward n_forward [rowD row, tabD T] = _
  unfold plain
  rw [if_pos (by rfl)]
  refine runS_rt ?_
  show evalS (Φ (L + 2)) i_forward [.val (rowD row), .val (tabD T), .non, .non, .non, .non] = _
  refine seq_nx (e := [.val (rowD row), .val (tabD T), .lst [], .non, .non, .non]) rfl ?_
  refine seq_nx (e := [.val (rowD row), .val (tabD T), .lst ((fwdRow row T n).map rtD), a, b, c]) ?_ rfl
  have w : walked 1 (.tup [.int (n : Int)]) = some ((List.range n).map fun (x : Nat) => D.int (0 + (x : Int))) := by
    have : okR (n : Int) = true := by
      unfold okR
      rw [Bool.and_eq_true]
      exact ⟨decide_eq_true (by omega), decide_eq_true (by omega)⟩
    simp [walked, this]
  rw [for_val (x := .tup [.int (n : Int)]) ?_ w (by decide)]
  · exact h1
  · simp [evalE, bival, rowD, items?, hr]
end FB

set_option Elab.async false
set_option linter.all false
set_option maxRecDepth 100000
set_option maxHeartbeats 1000000
/-! FBx8: backward. -/
namespace FB
open PySem L2
/-- a comprehension over range(n) -/
theorem lcGo_rng {fE : En → Option D} {Φ : Fn → List D → Option D} {i : Nat} {env : En} {n : Nat} (g : Nat → D) (h : ∀ x, x < n → fE (env.set i (.val (.int (x : Int)))) = some (g x)) : lcGo (evalE Φ (.cst (.bl true))) fE (.nm i) env ((List.range n).map fun (x : Nat) => D.int (0 + (x : Int))) = some ((List.range n).map g) := by
  have := lcGo_fm (fT := evalE Φ (.cst (.bl true))) (fE := fE) (tg := .nm i) (env := env) (fun (x : Nat) => D.int (0 + (x : Int))) (fun _ => true) g (List.range n) (by
    intro x hx
    refine ⟨env.set i (.val (.int (0 + (x : Int)))), rfl, rfl, fun _ => ?_⟩
    rw [Int.zero_add]
    exact h x (List.mem_range.mp hx))
  rw [List.filter_eq_self.mpr (fun _ _ => rfl)] at this
  exact this
theorem okR_nat {n : Nat} (h : n ≤ 50) : okR (n : Int) = true := by
  unfold okR
  rw [Bool.and_eq_true]
  exact ⟨decide_eq_true (by omega), decide_eq_true (by omega)⟩
theorem lc_abs {Φ : Fn → List D → Option D} {k : Nat} {arg test elt : IE} {tg : Tg} {vs : List Nat} {env : En} {x : D} {ds ys : List D} (hk : k ≠ 4) (ha : evalE Φ arg env = some x) (w : walked k x = some ds) (hg : lcGo (evalE Φ test) (evalE Φ elt) tg (wipeE env vs) ds = some ys) (hl : ds.length.ble 10000 = true) : evalE Φ (.lc k arg tg test elt vs) env = some (.lst ys) := by
  unfold evalE
  split
  · exact absurd rfl hk
  · rw [ha]
    simp only
    rw [w]
    simp only
    rw [hg]
    simp only
    rw [if_pos hl]
theorem lc1_val {Φ : Fn → List D → Option D} {arg elt : IE} {i : Nat} {vs : List Nat} {env : En} {n : Nat} (g : Nat → D) (ha : evalE Φ arg env = some (.tup [.int (n : Int)])) (hn : n ≤ 50) (h : ∀ x, x < n → evalE Φ elt ((wipeE env vs).set i (.val (.int (x : Int)))) = some (g x)) : evalE Φ (.lc 1 arg (.nm i) (.cst (.bl true)) elt vs) env = some (.lst ((List.range n).map g)) := by
  have w : walked 1 (.tup [.int (n : Int)]) = some ((List.range n).map fun (x : Nat) => D.int (0 + (x : Int))) := by
    have := okR_nat hn
    simp [walked, this]
  have hl : (List.map (fun (x : Nat) => D.int (0 + (x : Int))) (List.range n)).length.ble 10000 = true := Nat.ble_eq_true_of_le (by rw [List.length_map, List.length_range]; omega)
  exact lc_abs (by decide) ha w (lcGo_rng g h) hl
def flipT (n : Nat) (T : List (List Int)) : List (List Int) := (List.range n).map fun i => (List.range n).map fun j => tat T (n - 1 - i) (n - 1 - j)
def bwdRow (n : Nat) (row : List Rat) (T : List (List Int)) : List Rat := (fwdRow row.reverse (flipT n T) n).reverse
theorem backward_val (L : Nat) {n k : Nat} {T : List (List Int)} (hT : TabOk n T) (hT' : TabOk n (flipT n T)) (hD : DiagOk n (flipT n T)) {row : List Rat} (hr : row.length = n) (hrow : ∀ j, j < n → Ok k (row.getD j 0)) (hk : k + 3 * n ≤ 180) (hn : n ≤ 50) :
    Φ (L + 4) .backward [rowD row, tabD T] = some (rowD (bwdRow n row T)) ∧ (∀ i, i < n → Ok (k + 3 * n) ((bwdRow n row T).getD i 0)) := by
  have rv : ∀ (l : List Rat) j, l.length = n → j < n → l.reverse.getD j 0 = l.getD (n - 1 - j) 0 := by
    intro l j hl hj
    rw [List.getD_eq_getElem?_getD, List.getD_eq_getElem?_getD, List.getElem?_reverse (by omega), hl]
  obtain ⟨f1, f2⟩ := forward_val L hT' hD (row := row.reverse) (by rw [List.length_reverse]; exact hr) (k := k) (fun j hj => by rw [rv _ _ hr hj]; exact hrow _ (by omega)) hk hn
  have fl := fwdRow_len row.reverse (flipT n T) n
  refine ⟨?_, fun i hi => by unfold bwdRow; rw [rv _ _ fl hi]; exact f2 _ (by omega)⟩
  rw [Φ_succ]
  show plain 2 (Φ (L + 3)) i_backward n_backward [rowD row, tabD T] = _
  unfold plain
  rw [if_pos (by rfl)]
  refine runS_rt ?_
  show evalS (Φ (L + 3)) i_backward [.val (rowD row), .val (tabD T), .non, .non, .non, .non] = _
  refine seq_nx (e := [.val (rowD row), .val (tabD T), .val (.int (n : Int)), .non, .non, .non]) ?_ ?_
  · simp [evalS, evalE, bival, rowD, items?, hr]
  refine seq_nx (e := [.val (rowD row), .val (tabD T), .val (.int (n : Int)), .val (tabD (flipT n T)), .non, .non]) ?_ ?_
  · have inner : ∀ x, x < n → evalE (Φ (L + 3)) (.bi .tupOf (.cons (.lc 1 (.cons (.var 2) .nil) (.nm 5) (.cst (.bl true)) (.bi .ix (.cons (.bi .ix (.cons (.var 1) (.cons (.bi .sub (.cons (.bi .sub (.cons (.var 2) (.cons (.cst (.int 1)) .nil))) (.cons (.var 4) .nil))) .nil))) (.cons (.bi .sub (.cons (.bi .sub (.cons (.var 2) (.cons (.cst (.int 1)) .nil))) (.cons (.var 5) .nil))) .nil))) [5]) .nil)) [.val (rowD row), .val (tabD T), .val (.int (n : Int)), .non, .val (.int (x : Int)), .non] = some (rowD ((List.range n).map fun j => ((tat T (n - 1 - x) (n - 1 - j) : Int) : Rat))) := by
      intro x hx
      have := lc1_val (Φ := Φ (L + 3)) (arg := .cons (.var 2) .nil) (i := 5) (vs := [5]) (elt := .bi .ix (.cons (.bi .ix (.cons (.var 1) (.cons (.bi .sub (.cons (.bi .sub (.cons (.var 2) (.cons (.cst (.int 1)) .nil))) (.cons (.var 4) .nil))) .nil))) (.cons (.bi .sub (.cons (.bi .sub (.cons (.var 2) (.cons (.cst (.int 1)) .nil))) (.cons (.var 5) .nil))) .nil))) (env := [.val (rowD row), .val (tabD T), .val (.int (n : Int)), .non, .val (.int (x : Int)), .non]) (n := n) (fun j => rtD ((tat T (n - 1 - x) (n - 1 - j) : Int) : Rat)) rfl hn (by
        intro j hj
        obtain ⟨rl, e1, e2⟩ := tl_at hT (show n - 1 - x < n by omega) (show n - 1 - j < n by omega)
        have c1 : (n : Int) - 1 - (x : Int) = ((n - 1 - x : Nat) : Int) := by omega
        have c2 : (n : Int) - 1 - (j : Int) = ((n - 1 - j : Nat) : Int) := by omega
        rw [tabD_eq]
        simp [evalE, bival, wipeE, c1, c2, e1, e2])
      rw [evalE, evalE, this]
      unfold rowD
      rw [List.map_map]
      rfl
    have := lc1_val (Φ := Φ (L + 3)) (arg := .cons (.var 2) .nil) (i := 4) (vs := [4]) (env := [.val (rowD row), .val (tabD T), .val (.int (n : Int)), .non, .non, .non]) (n := n) (fun x => rowD ((List.range n).map fun j => ((tat T (n - 1 - x) (n - 1 - j) : Int) : Rat))) rfl hn inner
    show Option.map _ (evalE _ _ _) = _
    rw [evalE, evalE, this]
    unfold tabD flipT
    rw [List.map_map]
    show some _ = some _
    simp only [Function.comp_def, List.map_map]
    rfl
  · have e0 : evalE (Φ (L + 3)) (.bi .rev (.cons (.var 0) .nil)) [.val (rowD row), .val (tabD T), .val (.int (n : Int)), .val (tabD (flipT n T)), .non, .non] = some (rowD row.reverse) := by
      show some (D.tup (row.map rtD).reverse) = some (D.tup (row.reverse.map rtD))
      rw [List.map_reverse]
    have e1 : evalE (Φ (L + 3)) (.call .forward (.cons (.bi .rev (.cons (.var 0) .nil)) (.cons (.var 3) .nil))) [.val (rowD row), .val (tabD T), .val (.int (n : Int)), .val (tabD (flipT n T)), .non, .non] = some (rowD (fwdRow row.reverse (flipT n T) n)) := by
      rw [evalE, evalE, e0]
      exact f1
    unfold evalS
    rw [evalE, evalE, e1]
    show some (Fl.rt (D.tup ((fwdRow row.reverse (flipT n T) n).map rtD).reverse)) = _
    unfold bwdRow rowD
    rw [List.map_reverse]
end FB

set_option Elab.async false
set_option linter.all false
set_option maxRecDepth 100000
set_option maxHeartbeats 1000000
/-! FBx9: combined. -/
namespace FB
open PySem L2
/-- the sum of the first i rows, column j -/
def cmb (row : List Rat) (T : List (List Int)) (j : Nat) : Nat → Rat
  | 0 => 0
  | i + 1 => cmb row T j i + row.getD i 0 * (tat T i j : Rat)
def mixL (n : Nat) (a b : Nat → Rat) (j : Nat) : List D := (List.range n).map fun x => rtD (if x < j then a x else b x)
theorem mixL_len (n : Nat) (a b : Nat → Rat) (j : Nat) : (mixL n a b j).length = n := by unfold mixL; simp
theorem mixL_set {n : Nat} {a b : Nat → Rat} {j : Nat} (hj : j < n) : (mixL n a b j).set j (rtD (a j)) = mixL n a b (j + 1) := by
  unfold mixL
  refine List.ext_getElem (by simp) fun x h1 h2 => ?_
  rw [List.getElem_set]
  simp only [List.getElem_map, List.getElem_range]
  by_cases e : j = x
  · subst e; simp
  · rw [if_neg e]
    by_cases l : x < j
    · rw [if_pos l, if_pos (by omega)]
    · rw [if_neg l, if_neg (by omega)]
theorem mixL_all {n : Nat} {a b : Nat → Rat} : mixL n a b n = mixL n b a 0 := by
  unfold mixL
  refine List.map_congr_left fun x hx => ?_
  rw [if_pos (List.mem_range.mp hx), if_neg (by omega)]
theorem mixL_at {n : Nat} {a b : Nat → Rat} {j : Nat} (hj : j < n) : atI (mixL n a b j) (j : Int) = some (rtD (b j)) := by
  rw [atI_nat (by rw [mixL_len]; exact hj)]
  unfold mixL
  simp
theorem ixN_nat {n j : Nat} (h : j < n) : ixN n (j : Int) = some j := by
  unfold ixN
  simp [h]
def cbB : IS := (.setL 2 (.var 5) (.call .r_add (.cons (.ixO 2 (.var 5)) (.cons (.call .r_mul (.cons (.bi .ix (.cons (.var 0) (.cons (.var 3) .nil))) (.cons (.bi .ix (.cons (.bi .ix (.cons (.var 1) (.cons (.var 3) .nil))) (.cons (.var 5) .nil))) .nil))) .nil))))
theorem cb_inner (L : Nat) {n : Nat} {T : List (List Int)} (hT : TabOk n T) {row : List Rat} {i k : Nat} (hi : i < n) (hr : row.length = n) (hrow : Ok k (row.getD i 0)) (hco : ∀ j, j < n → Ok (k + 1 + i) (cmb row T j i)) (hk : k + 3 * n ≤ 180) {s4 s5 : Sl} :
    ∃ s5', forGo (evalS (Φ (L + 2)) cbB) (.nm 5) ((List.range n).map fun (x : Nat) => D.int (0 + (x : Int))) [.val (rowD row), .val (tabD T), .lst (mixL n (fun j => cmb row T j (i + 1)) (fun j => cmb row T j i) 0), .val (.int (i : Int)), s4, s5] = some (.nx [.val (rowD row), .val (tabD T), .lst (mixL n (fun j => cmb row T j (i + 1)) (fun j => cmb row T j i) n), .val (.int (i : Int)), s4, s5']) := by
  obtain ⟨env', h1, a, h2⟩ := forGo_rng (i := 5) (body := evalS (Φ (L + 2)) cbB) (n := n)
    (fun j env => ∃ s5', env = [.val (rowD row), .val (tabD T), .lst (mixL n (fun j => cmb row T j (i + 1)) (fun j => cmb row T j i) j), .val (.int (i : Int)), s4, s5']) (by
      rintro j env hj ⟨a, rfl⟩
      obtain ⟨rl, e1, e2⟩ := tl_at hT hi hj
      have e3 := row_at (r := row) (j := i) (by omega)
      have e4 := mixL_at (a := fun j => cmb row T j (i + 1)) (b := fun j => cmb row T j i) hj
      have e5 := mixL_set (a := fun j => cmb row T j (i + 1)) (b := fun j => cmb row T j i) hj
      have e6 := mixL_len n (fun j => cmb row T j (i + 1)) (fun j => cmb row T j i) j
      have oT : Ok 1 ((tat T i j : Int) : Rat) := Ok.int (hT.2.2 i j hi hj)
      have m := r_mul_val L (hrow.sm (by omega)) (oT.sm (by omega))
      have ad := r_add_val L ((hco j hj).sm (by omega)) ((hrow.mul oT).sm (by omega))
      refine ⟨[.val (rowD row), .val (tabD T), .lst (mixL n (fun j => cmb row T j (i + 1)) (fun j => cmb row T j i) (j + 1)), .val (.int (i : Int)), s4, .val (.int (j : Int))], ?_, ⟨_, rfl⟩⟩
      rw [Int.zero_add]
      generalize mixL n (fun j => cmb row T j (i + 1)) (fun j => cmb row T j i) j = M0 at *
      have e7 : ixN M0.length (j : Int) = some j := by rw [e6]; exact ixN_nat hj
      rw [tabD_eq]
      simp [-List.getD_eq_getElem?_getD, cbB, evalS, evalE, bival, e1, e2, e3, e4, e7, m, ad, rowD]
      exact e5) (env := [.val (rowD row), .val (tabD T), .lst (mixL n (fun j => cmb row T j (i + 1)) (fun j => cmb row T j i) 0), .val (.int (i : Int)), s4, s5]) ⟨s5, rfl⟩
  exact ⟨a, by rw [h1, h2]⟩
end FB

set_option Elab.async false
set_option linter.all false
set_option maxRecDepth 100000
set_option maxHeartbeats 1000000
/-! FBx10: combined. -/
namespace FB
open PySem L2
theorem walk1 {n : Nat} (hn : n ≤ 50) : walked 1 (.tup [.int (n : Int)]) = some ((List.range n).map fun (x : Nat) => D.int (0 + (x : Int))) := by
  have := okR_nat hn
  simp [walked, this]
theorem cmb_ok {row : List Rat} {T : List (List Int)} {n k : Nat} (hT : TabOk n T) (hrow : ∀ j, j < n → Ok k (row.getD j 0)) {j : Nat} (hj : j < n) : ∀ i, i ≤ n → Ok (k + 1 + i) (cmb row T j i)
  | 0, _ => Ok.zero _
  | i + 1, hi => (cmb_ok hT hrow hj i (by omega)).add (((hrow i (by omega)).mul (Ok.int (hT.2.2 i j (by omega) hj))).mono (by omega))
theorem mixL_same {n : Nat} {a b : Nat → Rat} (h : ∀ j, a j = b j) : mixL n a b 0 = mixL n b b 0 := by
  unfold mixL
  simp
def cbB2 : IS := (.ite (.not (.call .r_is_zero (.cons (.bi .ix (.cons (.var 0) (.cons (.var 3) .nil))) .nil))) (.forE 1 (.cons (.bi .len (.cons (.var 0) .nil)) .nil) (.nm 5) cbB) .skip)
/-- the whole list after i rows -/
def cbL (row : List Rat) (T : List (List Int)) (n i : Nat) : List Rat := (List.range n).map fun j => cmb row T j i
theorem mixL_z (n : Nat) (a : Nat → Rat) (row : List Rat) (T : List (List Int)) (i : Nat) : mixL n a (fun j => cmb row T j i) 0 = (cbL row T n i).map rtD := by
  unfold mixL cbL
  rw [List.map_map]
  simp
theorem cb_outer (L : Nat) {n : Nat} {T : List (List Int)} (hT : TabOk n T) {row : List Rat} {k : Nat} (hr : row.length = n) (hrow : ∀ j, j < n → Ok k (row.getD j 0)) (hk : k + 3 * n ≤ 180) (hn : n ≤ 50) {s3 s4 s5 : Sl} :
    ∃ s3' s5', forGo (evalS (Φ (L + 2)) cbB2) (.nm 3) ((List.range n).map fun (x : Nat) => D.int (0 + (x : Int))) [.val (rowD row), .val (tabD T), .lst ((cbL row T n 0).map rtD), s3, s4, s5] = some (.nx [.val (rowD row), .val (tabD T), .lst ((cbL row T n n).map rtD), s3', s4, s5']) := by
  obtain ⟨env', h1, a, b, h2⟩ := forGo_rng (i := 3) (body := evalS (Φ (L + 2)) cbB2) (n := n)
    (fun i env => ∃ s3' s5', env = [.val (rowD row), .val (tabD T), .lst ((cbL row T n i).map rtD), s3', s4, s5']) (by
      rintro i env hi ⟨a, b, rfl⟩
      have e3 := row_at (r := row) (j := i) (by omega)
      have z := r_is_zero_val (L + 1) (a := row.getD i 0)
      have ec : evalE (Φ (L + 2)) (.not (.call .r_is_zero (.cons (.bi .ix (.cons (.var 0) (.cons (.var 3) .nil))) .nil))) [.val (rowD row), .val (tabD T), .lst ((cbL row T n i).map rtD), .val (.int (i : Int)), s4, b] = some (.bl (!decide (row.getD i 0 = 0))) := by
        simp [-List.getD_eq_getElem?_getD, evalE, bival, rowD, e3, z]
      by_cases h0 : row.getD i 0 = 0
      · refine ⟨[.val (rowD row), .val (tabD T), .lst ((cbL row T n i).map rtD), .val (.int (i : Int)), s4, b], ?_, .val (.int (i : Int)), b, ?_⟩
        · rw [Int.zero_add]
          show evalS (Φ (L + 2)) cbB2 [.val (rowD row), .val (tabD T), .lst ((cbL row T n i).map rtD), .val (.int (i : Int)), s4, b] = _
          unfold cbB2 evalS
          rw [ec, h0]
          rfl
        · have : cbL row T n (i + 1) = cbL row T n i := by
            unfold cbL
            refine List.map_congr_left fun j _ => ?_
            show cmb row T j i + row.getD i 0 * _ = _
            rw [h0, Rat.zero_mul, Rat.add_zero]
          rw [this]
      · obtain ⟨c, h1⟩ := cb_inner L hT hi hr (hrow i hi) (fun j hj => cmb_ok hT hrow hj i (by omega)) hk (s4 := s4) (s5 := b)
        rw [mixL_z, mixL_all, mixL_z] at h1
        refine ⟨[.val (rowD row), .val (tabD T), .lst ((cbL row T n (i + 1)).map rtD), .val (.int (i : Int)), s4, c], ?_, _, _, rfl⟩
        rw [Int.zero_add]
        show evalS (Φ (L + 2)) cbB2 [.val (rowD row), .val (tabD T), .lst ((cbL row T n i).map rtD), .val (.int (i : Int)), s4, b] = _
        unfold cbB2
        rw [evalS, ec, decide_eq_false h0]
        simp only [Bool.not_false]
        rw [for_val (x := .tup [.int (n : Int)]) ?_ (walk1 hn) (by decide)]
        · exact h1
        · simp [evalE, bival, rowD, items?, hr]) (env := [.val (rowD row), .val (tabD T), .lst ((cbL row T n 0).map rtD), s3, s4, s5]) ⟨s3, s5, rfl⟩
  exact ⟨a, b, by rw [h1, h2]⟩
theorem combined_val (L : Nat) {n : Nat} {T : List (List Int)} (hT : TabOk n T) {row : List Rat} {k : Nat} (hr : row.length = n) (hrow : ∀ j, j < n → Ok k (row.getD j 0)) (hk : k + 3 * n ≤ 180) (hn : n ≤ 50) :
    Φ (L + 3) .combined [rowD row, tabD T] = some (rowD (cbL row T n n)) ∧ (∀ j, j < n → Ok (k + 1 + n) ((cbL row T n n).getD j 0)) := by
  obtain ⟨a, b, h1⟩ := cb_outer L hT hr hrow hk hn (s3 := .non) (s4 := .non) (s5 := .non)
  refine ⟨?_, fun j hj => ?_⟩
  · rw [Φ_succ]
    show plain 2 (Φ (L + 2)) i_combined n_combined [rowD row, tabD T] = _
    unfold plain
    rw [if_pos (by rfl)]
    refine runS_rt ?_
    show evalS (Φ (L + 2)) i_combined [.val (rowD row), .val (tabD T), .non, .non, .non, .non] = _
    have z := zero_val L
    have lc := lcGo_fm (fT := evalE (Φ (L + 2)) (.cst (.bl true))) (fE := evalE (Φ (L + 2)) (.call .zero .nil)) (tg := .nm 4) (env := [.val (rowD row), .val (tabD T), .non, .non, .non, .non]) rtD (fun _ => true) (fun _ => rtD 0) row (fun q _ => ⟨_, rfl, rfl, fun _ => z⟩)
    rw [List.filter_eq_self.mpr (fun _ _ => rfl)] at lc
    have e0 : evalE (Φ (L + 2)) (.lc 0 (.var 0) (.nm 4) (.cst (.bl true)) (.call .zero .nil) [4]) [.val (rowD row), .val (tabD T), .non, .non, .non, .non] = some (.lst (row.map fun _ => rtD 0)) :=
      lc_abs (x := rowD row) (by decide) rfl rfl lc (Nat.ble_eq_true_of_le (by rw [List.length_map]; omega))
    have e1 : (row.map fun _ => rtD 0) = (cbL row T n 0).map rtD := by
      unfold cbL
      rw [List.map_map]
      refine List.ext_getElem (by simp [hr]) fun i h1 h2 => ?_
      simp [cmb]
    refine seq_nx (e := [.val (rowD row), .val (tabD T), .lst ((cbL row T n 0).map rtD), .non, .non, .non]) ?_ ?_
    · unfold evalS
      rw [e0, e1]
      rfl
    refine seq_nx (e := [.val (rowD row), .val (tabD T), .lst ((cbL row T n n).map rtD), a, .non, b]) ?_ rfl
    rw [for_val (x := .tup [.int (n : Int)]) ?_ (walk1 hn) (by decide)]
    · exact h1
    · simp [evalE, bival, rowD, items?, hr]
  · have : (cbL row T n n).getD j 0 = cmb row T j n := by
      unfold cbL
      simp [List.getD_eq_getElem?_getD, hj]
    rw [this]
    exact cmb_ok hT hrow hj n (Nat.le_refl _)
end FB

set_option Elab.async false
set_option linter.all false
set_option maxRecDepth 100000
set_option maxHeartbeats 1000000
/-! FBy0: what forward and backward solve; the value of a sum of terms. -/
namespace FB
open PySem L2
def UpT (n : Nat) (T : List (List Int)) : Prop := ∀ i j, i < n → j < n → j < i → tat T i j = 0
theorem fwdVal_cmb (row : List Rat) (T : List (List Int)) (j : Nat) (found : List Rat) : ∀ i, fwdVal row T j found i = row.getD j 0 - cmb found T j i
  | 0 => by unfold fwdVal cmb; grind
  | i + 1 => by unfold fwdVal cmb; rw [fwdVal_cmb row T j found i]; grind
theorem cmb_congr {a b : List Rat} {T : List (List Int)} {j : Nat} : ∀ {i}, (∀ x, x < i → a.getD x 0 = b.getD x 0) → cmb a T j i = cmb b T j i
  | 0, _ => rfl
  | i + 1, h => by unfold cmb; rw [cmb_congr (i := i) fun x hx => h x (by omega), h i (by omega)]
theorem cmb_up {a : List Rat} {n : Nat} {T : List (List Int)} (hU : UpT n T) {j : Nat} (hj : j < n) : ∀ m, j + 1 + m ≤ n → cmb a T j (j + 1 + m) = cmb a T j (j + 1)
  | 0, _ => rfl
  | m + 1, h => by
    show cmb a T j (j + 1 + m) + a.getD (j + 1 + m) 0 * (tat T (j + 1 + m) j : Rat) = _
    rw [cmb_up hU hj m (by omega), hU (j + 1 + m) j (by omega) hj (by omega)]
    grind
theorem fwd_spec {row : List Rat} {n : Nat} {T : List (List Int)} (hU : UpT n T) (hD : ∀ j, j < n → tat T j j ≠ 0) {j : Nat} (hj : j < n) : cmb (fwdRow row T n) T j n = row.getD j 0 := by
  have h1 := cmb_up (a := fwdRow row T n) hU hj (n - (j + 1)) (by omega)
  rw [show j + 1 + (n - (j + 1)) = n by omega] at h1
  rw [h1]
  unfold cmb
  have h2 : cmb (fwdRow row T n) T j j = cmb (fwdRow row T j) T j j := cmb_congr fun x hx => by
    rw [fwdRow_get (show x < n by omega), ← fwdRow_get (show x < j by omega)]
  have hl := fwdRow_len row T j
  have h3 : (fwdRow row T n).getD j 0 = fwdVal row T j (fwdRow row T j) j / (tat T j j : Rat) := by
    rw [fwdRow_get hj]
    show (fwdRow row T j ++ [_]).getD j 0 = _
    rw [List.getD_eq_getElem?_getD, List.getElem?_append_right (by omega), hl]
    simp
  have h4 : (tat T j j : Rat) ≠ 0 := by
    have := hD j hj
    intro h
    exact this (by exact_mod_cast h)
  rw [h2, h3, fwdVal_cmb]
  grind
/-- sums the other way round -/
def sumF (f : Nat → Rat) : Nat → Rat
  | 0 => 0
  | n + 1 => sumF f n + f n
theorem sumF_congr {f g : Nat → Rat} : ∀ {n}, (∀ x, x < n → f x = g x) → sumF f n = sumF g n
  | 0, _ => rfl
  | n + 1, h => by unfold sumF; rw [sumF_congr (n := n) fun x hx => h x (by omega), h n (by omega)]
theorem sumF_shift (f : Nat → Rat) : ∀ n, sumF f (n + 1) = f 0 + sumF (fun x => f (x + 1)) n
  | 0 => by simp [sumF]; grind
  | n + 1 => by rw [sumF, sumF_shift f n, sumF]; grind
theorem sumF_rev (f : Nat → Rat) : ∀ n, sumF (fun x => f (n - 1 - x)) n = sumF f n
  | 0 => rfl
  | n + 1 => by
    rw [sumF_shift, sumF]
    have : sumF (fun x => f (n + 1 - 1 - (x + 1))) n = sumF (fun x => f (n - 1 - x)) n := sumF_congr fun x hx => by congr 1; omega
    rw [this, sumF_rev f n]
    simp
    grind
theorem cmb_sum (row : List Rat) (T : List (List Int)) (j : Nat) : ∀ n, cmb row T j n = sumF (fun i => row.getD i 0 * (tat T i j : Rat)) n
  | 0 => rfl
  | n + 1 => by unfold cmb sumF; rw [cmb_sum row T j n]
theorem flip_at {n : Nat} {T : List (List Int)} {i j : Nat} (hi : i < n) (hj : j < n) : tat (flipT n T) i j = tat T (n - 1 - i) (n - 1 - j) := by
  unfold flipT
  rw [tat, List.getD_eq_getElem?_getD, List.getD_eq_getElem?_getD, List.getElem?_map, List.getElem?_range hi]
  simp [hj]
theorem rev_get {l : List Rat} {n j : Nat} (hl : l.length = n) (hj : j < n) : l.reverse.getD j 0 = l.getD (n - 1 - j) 0 := by
  rw [List.getD_eq_getElem?_getD, List.getD_eq_getElem?_getD, List.getElem?_reverse (by omega), hl]
theorem bwd_spec {row : List Rat} {n : Nat} {T : List (List Int)} (hr : row.length = n) (hU : UpT n (flipT n T)) (hD : ∀ j, j < n → tat (flipT n T) j j ≠ 0) {j : Nat} (hj : j < n) : cmb (bwdRow n row T) T j n = row.getD j 0 := by
  have h1 := fwd_spec (row := row.reverse) hU hD (show n - 1 - j < n by omega)
  rw [rev_get hr (by omega), show n - 1 - (n - 1 - j) = j by omega, cmb_sum] at h1
  rw [cmb_sum, ← h1, ← sumF_rev]
  refine sumF_congr fun x hx => ?_
  unfold bwdRow
  rw [rev_get (fwdRow_len ..) (by omega), flip_at hx (by omega), show n - 1 - (n - 1 - x) = x by omega, show n - 1 - (n - 1 - j) = j by omega]
/-- the value of a sum of terms, v the values of the parts -/
def VS (v : List Int → Rat) : List TM → Rat
  | [] => 0
  | t :: r => t.2 * v t.1 + VS v r
theorem VS_app (v : List Int → Rat) (a b : List TM) : VS v (a ++ b) = VS v a + VS v b := by
  induction a with
  | nil => show VS v b = 0 + VS v b; rw [Rat.zero_add]
  | cons t r ih => show _ + VS v (r ++ b) = (_ + VS v r) + _; rw [ih, Rat.add_assoc]
def VC (v : List Int → Rat) (ts : List TM) : List (List Int) → Rat
  | [] => 0
  | p :: r => coef ts p * v p + VC v ts r
theorem VC_nil (v : List Int → Rat) : ∀ l, VC v [] l = 0
  | [] => rfl
  | p :: r => by unfold VC; rw [VC_nil v r]; show 0 * v p + 0 = 0; grind
theorem VC_cons (v : List Int → Rat) (t : TM) (ts : List TM) : ∀ l : List (List Int), VC v (t :: ts) l = VC v [t] l + VC v ts l
  | [] => by unfold VC; grind
  | p :: r => by
    unfold VC
    rw [VC_cons v t ts r]
    show ((if t.1 = p then t.2 else 0) + coef ts p) * v p + _ = ((if t.1 = p then t.2 else 0) + 0) * v p + _ + _
    grind
theorem VC_no (v : List Int → Rat) (t : TM) : ∀ l : List (List Int), t.1 ∉ l → VC v [t] l = 0
  | [], _ => rfl
  | p :: r, h => by
    unfold VC
    rw [VC_no v t r fun hm => h (List.mem_cons_of_mem _ hm)]
    show ((if t.1 = p then t.2 else 0) + 0) * v p + 0 = 0
    have hne : t.1 ≠ p := fun e => h (by rw [e]; exact List.mem_cons_self ..)
    rw [if_neg hne]
    grind
theorem VC_one (v : List Int → Rat) (t : TM) : ∀ l : List (List Int), l.Nodup → t.1 ∈ l → VC v [t] l = t.2 * v t.1
  | [], _, h => nomatch h
  | p :: r, hn, h => by
    unfold VC
    have hn' := List.nodup_cons.mp hn
    show ((if t.1 = p then t.2 else 0) + 0) * v p + VC v [t] r = _
    by_cases e : t.1 = p
    · rw [if_pos e, VC_no v t r (e ▸ hn'.1), e]; grind
    · rw [if_neg e, VC_one v t r hn'.2 ((List.mem_cons.mp h).resolve_left e)]; grind
theorem P12_nodup : P12.Nodup := by decide
theorem VC_allL (v : List Int → Rat) {l : List (List Int)} (hl : l.Nodup) : ∀ ts : List TM, (∀ t ∈ ts, t.1 ∈ l) → VC v ts l = VS v ts
  | [], _ => VC_nil v _
  | t :: r, h => by
    rw [VC_cons, VC_one v t l hl (h t (List.mem_cons_self ..)), VC_allL v hl r fun x hx => h x (List.mem_cons_of_mem _ hx)]
    rfl
theorem VC_all (v : List Int → Rat) (ts : List TM) (h : ∀ t ∈ ts, t.1 ∈ P12) : VC v ts P12 = VS v ts := VC_allL v P12_nodup ts h
theorem VS_filt (v : List Int → Rat) (ts : List TM) : ∀ l : List (List Int), VS v ((l.filter fun p => has ts p && !decide (coef ts p = 0)).map fun p => (p, coef ts p)) = VC v ts l
  | [] => rfl
  | p :: r => by
    have ih := VS_filt v ts r
    unfold VC
    rw [List.filter_cons]
    by_cases h : (has ts p && !decide (coef ts p = 0)) = true
    · rw [if_pos h, List.map_cons]
      unfold VS
      rw [ih]
    · rw [if_neg h, ih]
      have : coef ts p = 0 := by
        by_cases h2 : has ts p = true
        · rw [h2] at h; simpa using h
        · exact coef_none (by simpa using h2)
      rw [this]; grind
/-- Symmetric keeps the value -/
theorem VS_nf (v : List Int → Rat) {ts : List TM} (h : ∀ t ∈ ts, t.1 ∈ P12) : VS v (nfT ts) = VS v ts := by
  unfold nfT
  rw [VS_filt, VC_all v ts h]
theorem nf_mem {ts : List TM} {t : TM} (h : t ∈ nfT ts) : t.1 ∈ P12 ∧ has ts t.1 = true ∧ t.2 = coef ts t.1 ∧ t.2 ≠ 0 := by
  unfold nfT at h
  obtain ⟨p, hp, rfl⟩ := List.mem_map.mp h
  obtain ⟨h1, h2⟩ := List.mem_filter.mp hp
  simp at h2
  exact ⟨h1, h2.1, rfl, h2.2⟩
theorem nf_in {ts : List TM} {t : TM} (h : t ∈ nfT ts) : t.1 ∈ P12 := (nf_mem h).1
theorem has_mem {ts : List TM} {p : List Int} (h : has ts p = true) : ∃ t ∈ ts, t.1 = p := by
  unfold has at h
  obtain ⟨t, h1, h2⟩ := List.any_eq_true.mp h
  exact ⟨t, h1, of_decide_eq_true h2⟩
theorem nf_len (ts : List TM) : (nfT ts).length ≤ 12 := by
  unfold nfT
  rw [List.length_map]
  exact List.length_filter_le _ _
end FB

set_option Elab.async false
set_option linter.all false
set_option maxRecDepth 100000
set_option maxHeartbeats 1000000
/-! FBy1: the tables of monomial rows (the rows printed by gen_tab.py). -/
namespace FB
open PySem L2
inductive Bs where
  | m | e | h | p | s
  deriving DecidableEq
def Bs.nm : Bs → Str
  | .m => "m" | .e => "e" | .h => "h" | .p => "p" | .s => "s"
theorem bs_in (b : Bs) : b.nm ∈ B5 := by cases b <;> simp [Bs.nm, B5]
def bsL : List Bs := [.m, .e, .h, .p, .s]
theorem bs_all (b : Bs) : b ∈ bsL := by cases b <;> simp [bsL]
theorem nm_eq (a b : Bs) : decide (a.nm = b.nm) = decide (a = b) := by cases a <;> cases b <;> decide +kernel
def MT : Bs → List (List Int × List Int)
  | .m => [([], [1]), ([1], [1]), ([2], [1, 0]), ([1, 1], [0, 1]), ([3], [1, 0, 0]), ([2, 1], [0, 1, 0]), ([1, 1, 1], [0, 0, 1]), ([4], [1, 0, 0, 0, 0]), ([3, 1], [0, 1, 0, 0, 0]), ([2, 2], [0, 0, 1, 0, 0]), ([2, 1, 1], [0, 0, 0, 1, 0]), ([1, 1, 1, 1], [0, 0, 0, 0, 1])]
  | .e => [([], [1]), ([1], [1]), ([2], [0, 1]), ([1, 1], [1, 2]), ([3], [0, 0, 1]), ([2, 1], [0, 1, 3]), ([1, 1, 1], [1, 3, 6]), ([4], [0, 0, 0, 0, 1]), ([3, 1], [0, 0, 0, 1, 4]), ([2, 2], [0, 0, 1, 2, 6]), ([2, 1, 1], [0, 1, 2, 5, 12]), ([1, 1, 1, 1], [1, 4, 6, 12, 24])]
  | .h => [([], [1]), ([1], [1]), ([2], [1, 1]), ([1, 1], [1, 2]), ([3], [1, 1, 1]), ([2, 1], [1, 2, 3]), ([1, 1, 1], [1, 3, 6]), ([4], [1, 1, 1, 1, 1]), ([3, 1], [1, 2, 2, 3, 4]), ([2, 2], [1, 2, 3, 4, 6]), ([2, 1, 1], [1, 3, 4, 7, 12]), ([1, 1, 1, 1], [1, 4, 6, 12, 24])]
  | .p => [([], [1]), ([1], [1]), ([2], [1, 0]), ([1, 1], [1, 2]), ([3], [1, 0, 0]), ([2, 1], [1, 1, 0]), ([1, 1, 1], [1, 3, 6]), ([4], [1, 0, 0, 0, 0]), ([3, 1], [1, 1, 0, 0, 0]), ([2, 2], [1, 0, 2, 0, 0]), ([2, 1, 1], [1, 2, 2, 2, 0]), ([1, 1, 1, 1], [1, 4, 6, 12, 24])]
  | .s => [([], [1]), ([1], [1]), ([2], [1, 1]), ([1, 1], [0, 1]), ([3], [1, 1, 1]), ([2, 1], [0, 1, 2]), ([1, 1, 1], [0, 0, 1]), ([4], [1, 1, 1, 1, 1]), ([3, 1], [0, 1, 1, 2, 3]), ([2, 2], [0, 0, 1, 1, 2]), ([2, 1, 1], [0, 0, 0, 1, 3]), ([1, 1, 1, 1], [0, 0, 0, 0, 1])]
def mrow (b : Bs) (p : List Int) : List Int := (((MT b).find? fun x => decide (x.1 = p)).map (·.2)).getD []
def TB (b : Bs) (n : Nat) : List (List Int) := (PT n).map (mrow b)
def pn (n : Nat) : Nat := (PT n).length
def rI (r : List Int) : List Rat := r.map fun (t : Int) => (t : Rat)
theorem mrow_tb_m : (P12.all fun p => tb .monomial_row [.str Bs.m.nm, pD p] (rowD (rI (mrow .m p)))) = true := by decide +kernel
theorem mrow_tb_e : (P12.all fun p => tb .monomial_row [.str Bs.e.nm, pD p] (rowD (rI (mrow .e p)))) = true := by decide +kernel
theorem mrow_tb_h : (P12.all fun p => tb .monomial_row [.str Bs.h.nm, pD p] (rowD (rI (mrow .h p)))) = true := by decide +kernel
theorem mrow_tb_p : (P12.all fun p => tb .monomial_row [.str Bs.p.nm, pD p] (rowD (rI (mrow .p p)))) = true := by decide +kernel
theorem mrow_tb_s : (P12.all fun p => tb .monomial_row [.str Bs.s.nm, pD p] (rowD (rI (mrow .s p)))) = true := by decide +kernel
theorem mrow_tb (b : Bs) : (P12.all fun p => tb .monomial_row [.str b.nm, pD p] (rowD (rI (mrow b p)))) = true := by
  cases b
  · exact mrow_tb_m
  · exact mrow_tb_e
  · exact mrow_tb_h
  · exact mrow_tb_p
  · exact mrow_tb_s
theorem mrow_val (b : Bs) {p : List Int} (hp : p ∈ P12) {L : Nat} (hL : 30 ≤ L) : Φ L .monomial_row [.str b.nm, pD p] = some (rowD (rI (mrow b p))) :=
  tb_eq (List.all_eq_true.mp (mrow_tb b) p hp) hL
def cj (p : List Int) : List Int := (List.range (p.headD 0).toNat).map fun (j : Nat) => ((p.filter fun x => decide ((j : Int) < x)).length : Int)
theorem turned_tb : (P12.all fun p => tb .turned [pD p] (pD (cj p))) = true := by decide +kernel
theorem turned_val {p : List Int} (hp : p ∈ P12) {L : Nat} (hL : 30 ≤ L) : Φ L .turned [pD p] = some (pD (cj p)) :=
  tb_eq (List.all_eq_true.mp turned_tb p hp) hL
theorem cj_in : (P12.all fun p => P12.contains (cj p)) = true := by decide +kernel
theorem cj_mem {p : List Int} (hp : p ∈ P12) : cj p ∈ P12 := by
  have := List.all_eq_true.mp cj_in p hp
  simpa using this
theorem cj_rev : ((List.range 5).all fun n => decide ((PT n).map cj = (PT n).reverse)) = true := by decide +kernel
theorem check_tb : ((List.range 5).all fun n => bsL.all fun a => bsL.all fun b => tb .check [.int n, .tup [.str a.nm, .str b.nm]] .non) = true := by decide +kernel
theorem check_val {n : Nat} (hn : n ≤ 4) (a b : Bs) {L : Nat} (hL : 30 ≤ L) : Φ L .check [.int n, .tup [.str a.nm, .str b.nm]] = some .non :=
  tb_eq (List.all_eq_true.mp (List.all_eq_true.mp (List.all_eq_true.mp check_tb n (List.mem_range.mpr (by omega))) a (bs_all a)) b (bs_all b)) hL
theorem check0_tb : (bsL.all fun a => tb .check [.int 0, .tup [.str a.nm]] .non) = true := by decide +kernel
theorem check0_val (a : Bs) {L : Nat} (hL : 30 ≤ L) : Φ L .check [.int 0, .tup [.str a.nm]] = some .non :=
  tb_eq (List.all_eq_true.mp check0_tb a (bs_all a)) hL
/-! facts of the tables -/
def chkT (n : Nat) (T : List (List Int)) : Bool := decide (T.length = n) && T.all (fun r => decide (r.length = n)) && (List.range n).all fun i => (List.range n).all fun j => decide ((tat T i j).natAbs ≤ 24)
def chkD (n : Nat) (T : List (List Int)) : Bool := (List.range n).all fun j => decide (0 < tat T j j) && decide (24 % (tat T j j).toNat = 0)
def chkU (n : Nat) (T : List (List Int)) : Bool := (List.range n).all fun i => (List.range n).all fun j => decide (i ≤ j) || decide (tat T i j = 0)
theorem chkT_ok {n : Nat} {T : List (List Int)} (h : chkT n T = true) : TabOk n T := by
  unfold chkT at h
  simp only [Bool.and_eq_true, decide_eq_true_eq, List.all_eq_true, List.mem_range] at h
  exact ⟨h.1.1, h.1.2, fun i j hi hj => h.2 i hi j hj⟩
theorem chkD_ok {n : Nat} {T : List (List Int)} (h : chkD n T = true) : DiagOk n T := by
  unfold chkD at h
  simp only [Bool.and_eq_true, decide_eq_true_eq, List.all_eq_true, List.mem_range] at h
  exact fun j hj => ⟨(h j hj).1, Nat.dvd_of_mod_eq_zero (h j hj).2⟩
theorem chkD_ne {n : Nat} {T : List (List Int)} (h : chkD n T = true) : ∀ j, j < n → tat T j j ≠ 0 := fun j hj => by have := (chkD_ok h j hj).1; omega
theorem chkU_ok {n : Nat} {T : List (List Int)} (h : chkU n T = true) : UpT n T := by
  unfold chkU at h
  simp only [Bool.or_eq_true, decide_eq_true_eq, List.all_eq_true, List.mem_range] at h
  exact fun i j hi hj hl => (h i hi j hj).resolve_left (by omega)
def trT (n : Nat) (T : List (List Int)) : List (List Int) := (List.range n).map fun i => (List.range n).map fun j => tat T j i
def tabP (n : Nat) : Bool := (bsL.all fun b => chkT (pn n) (TB b n)) && (chkT (pn n) (flipT (pn n) (TB .p n)) && chkD (pn n) (flipT (pn n) (TB .p n)) && chkU (pn n) (flipT (pn n) (TB .p n))) &&
  (chkT (pn n) (TB .e n).reverse && chkD (pn n) (TB .e n).reverse && chkU (pn n) (TB .e n).reverse) && (chkD (pn n) (TB .s n) && chkU (pn n) (TB .s n)) &&
  (chkT (pn n) (trT (pn n) (TB .s n)) && chkT (pn n) (flipT (pn n) (trT (pn n) (TB .s n))) && chkD (pn n) (flipT (pn n) (trT (pn n) (TB .s n))) && chkU (pn n) (flipT (pn n) (trT (pn n) (TB .s n)))) && decide (pn n ≤ 5)
theorem tabs : (List.range 5).all tabP = true := by decide +kernel
/-- h's table from s's -/
theorem hs : ((List.range 5).all fun n => (List.range (pn n)).all fun i => (List.range (pn n)).all fun j => decide (tat (TB .h n) i j = ((List.range (pn n)).map fun k => tat (TB .s n) k i * tat (TB .s n) k j).sum)) = true := by decide +kernel
theorem mid : ((List.range 5).all fun n => (List.range (pn n)).all fun i => (List.range (pn n)).all fun j => decide (tat (TB .m n) i j = if i = j then 1 else 0)) = true := by decide +kernel
theorem PT_12 : ((List.range 5).all fun n => (PT n).all fun p => P12.contains p && decide (p.sum = n)) = true := by decide +kernel
theorem pt_mem {n : Nat} (hn : n ≤ 4) {p : List Int} (hp : p ∈ PT n) : p ∈ P12 ∧ p.sum = n := by
  have := List.all_eq_true.mp (List.all_eq_true.mp PT_12 n (List.mem_range.mpr (by omega))) p hp
  simpa using this
end FB

set_option Elab.async false
set_option linter.all false
set_option maxRecDepth 100000
set_option maxHeartbeats 1000000
/-! FBy2: from_monomials. -/
namespace FB
open PySem L2
theorem pt_len5 (n : Nat) : (PT n).length ≤ 5 := by unfold PT; split <;> simp
theorem lc_pt {Φ : Fn → List D → Option D} {a i n : Nat} {elt : IE} {env : En} (g : List Int → D) (ha : evalE Φ (.var a) env = some (.ptup ((PT n).map pD))) (h : ∀ p ∈ PT n, evalE Φ elt ((wipeE env [i]).set i (.val (pD p))) = some (g p)) : evalE Φ (.lc 0 (.var a) (.nm i) (.cst (.bl true)) elt [i]) env = some (.lst ((PT n).map g)) := by
  have lc := lcGo_fm (fT := evalE Φ (.cst (.bl true))) (fE := evalE Φ elt) (tg := .nm i) (env := wipeE env [i]) pD (fun _ => true) g (PT n) (fun p hp => ⟨_, rfl, rfl, fun _ => h p hp⟩)
  rw [List.filter_eq_self.mpr (fun _ _ => rfl)] at lc
  exact lc_abs (x := .ptup ((PT n).map pD)) (by decide) ha rfl lc (Nat.ble_eq_true_of_le (by rw [List.length_map]; have := pt_len5 n; omega))
theorem tups_map : ∀ l : List (List Int), tups? (l.map pD) = some l
  | [] => rfl
  | p :: r => by
    show (match ints? (p.map .int), tups? (r.map pD) with
      | some a, some b => some (a :: b)
      | _, _ => none) = _
    rw [ints_map, tups_map r]
theorem ite_str {Φ : Fn → List D → Option D} {i : Nat} {x y : Str} {a b : IS} {env : En} (h : env[i]? = some (.val (.str x))) : evalS Φ (.ite (.bi .eq (.cons (.var i) (.cons (.cst (.str y)) .nil))) a b) env = if decide (x = y) = true then evalS Φ a env else evalS Φ b env := by
  by_cases e : x = y
  · simp [evalS, evalE, h, bival, eqD, e]
  · simp [evalS, evalE, h, bival, eqD, e]
/-- a branch not taken -/
theorem skip_str {Φ : Fn → List D → Option D} {i : Nat} {x y : Str} {a : IS} {env : En} (h : env[i]? = some (.val (.str x))) (e : decide (x = y) = false) : evalS Φ (.ite (.bi .eq (.cons (.var i) (.cons (.cst (.str y)) .nil))) a .skip) env = some (.nx env) := by
  rw [ite_str h, e]; rfl
theorem take_str {Φ : Fn → List D → Option D} {i : Nat} {x y : Str} {a : IS} {env : En} {d : D} (h : env[i]? = some (.val (.str x))) (e : decide (x = y) = true) (ha : evalS Φ a env = some (.rt d)) : evalS Φ (.ite (.bi .eq (.cons (.var i) (.cons (.cst (.str y)) .nil))) a .skip) env = some (.rt d) := by
  rw [ite_str h, e, if_pos rfl, ha]
theorem seq_rt {Φ : Fn → List D → Option D} {a b : IS} {env : En} {d : D} (h : evalS Φ a env = some (.rt d)) : evalS Φ (.seq a b) env = some (.rt d) := by
  unfold evalS; rw [h]
theorem asg_val {Φ : Fn → List D → Option D} {i : Nat} {e : IE} {env : En} {d : D} (h : evalE Φ e env = some d) : evalS Φ (.asg i e) env = some (.nx (env.set i (.val d))) := by
  unfold evalS; rw [h]; rfl
theorem ret_val {Φ : Fn → List D → Option D} {e : IE} {env : En} {d : D} (h : evalE Φ e env = some d) : evalS Φ (.ret e) env = some (.rt d) := by
  unfold evalS; rw [h]; rfl
theorem bi1_val {Φ : Fn → List D → Option D} {b : Bi} {e : IE} {env : En} {d : D} (h : evalE Φ e env = some d) : evalE Φ (.bi b (.cons e .nil)) env = bival b [d] := by
  rw [evalE, evalE, h, evalE]
theorem bi2_val {Φ : Fn → List D → Option D} {b : Bi} {e f : IE} {env : En} {d c : D} (h : evalE Φ e env = some d) (h2 : evalE Φ f env = some c) : evalE Φ (.bi b (.cons e (.cons f .nil))) env = bival b [d, c] := by
  rw [evalE, evalE, h, evalE, h2, evalE]
theorem call1_val {Φ : Fn → List D → Option D} {b : Fn} {e : IE} {env : En} {d : D} (h : evalE Φ e env = some d) : evalE Φ (.call b (.cons e .nil)) env = Φ b [d] := by
  rw [evalE, evalE, h, evalE]
theorem call2_val {Φ : Fn → List D → Option D} {b : Fn} {e f : IE} {env : En} {d c : D} (h : evalE Φ e env = some d) (h2 : evalE Φ f env = some c) : evalE Φ (.call b (.cons e (.cons f .nil))) env = Φ b [d, c] := by
  rw [evalE, evalE, h, evalE, h2, evalE]
theorem call3_val {Φ : Fn → List D → Option D} {b : Fn} {e f g : IE} {env : En} {d c a : D} (h : evalE Φ e env = some d) (h2 : evalE Φ f env = some c) (h3 : evalE Φ g env = some a) : evalE Φ (.call b (.cons e (.cons f (.cons g .nil)))) env = Φ b [d, c, a] := by
  rw [evalE, evalE, h, evalE, h2, evalE, h3, evalE]
theorem call4_val {Φ : Fn → List D → Option D} {b : Fn} {e f g k : IE} {env : En} {d c a l : D} (h : evalE Φ e env = some d) (h2 : evalE Φ f env = some c) (h3 : evalE Φ g env = some a) (h4 : evalE Φ k env = some l) : evalE Φ (.call b (.cons e (.cons f (.cons g (.cons k .nil))))) env = Φ b [d, c, a, l] := by
  rw [evalE, evalE, h, evalE, h2, evalE, h3, evalE, h4, evalE]
theorem tab_rows (f : List Int → List Int) (l : List (List Int)) : D.tup (l.map fun p => rowD (rI (f p))) = tabD (l.map f) := by
  unfold tabD; rw [List.map_map]; rfl
structure FM (k n : Nat) (b : Bs) (row row' : List Rat) : Prop where
  len : row'.length = pn n
  ok : ∀ j, j < pn n → Ok (k + 6 * pn n) (row'.getD j 0)
  eq : ∀ j, j < pn n → cmb row' (TB b n) j (pn n) = row.getD j 0
def fm0 (row : List Rat) (b : Bs) (n : Nat) : En := [.val (rowD row), .val (.str b.nm), .val (.ptup ((PT n).map pD)), .non, .non, .non, .non, .non, .non, .non]
theorem fm_of {L : Nat} {row : List Rat} {b : Bs} {n : Nat} {d : D} (h : evalS (Φ L) i_from_monomials (fm0 row b n) = some (.rt d)) : Φ (L + 1) .from_monomials [rowD row, .str b.nm, .ptup ((PT n).map pD)] = some d := by
  rw [Φ_succ]
  show plain 3 (Φ L) i_from_monomials n_from_monomials _ = _
  unfold plain
  rw [if_pos (by rfl)]
  exact runS_rt h
theorem tab5 {n : Nat} (hn : n ≤ 4) : tabP n = true := List.all_eq_true.mp tabs n (List.mem_range.mpr (by omega))
theorem sumF_zero {f : Nat → Rat} : ∀ {n}, (∀ x, x < n → f x = 0) → sumF f n = 0
  | 0, _ => rfl
  | n + 1, h => by unfold sumF; rw [sumF_zero (n := n) fun x hx => h x (by omega), h n (by omega)]; grind
theorem sumF_one {f : Nat → Rat} {j : Nat} : ∀ {n}, j < n → (∀ x, x < n → x ≠ j → f x = 0) → sumF f n = f j
  | 0, h, _ => absurd h (by omega)
  | n + 1, h, hz => by
    unfold sumF
    by_cases e : j = n
    · subst e
      rw [sumF_zero fun x hx => hz x (by omega) (by omega)]; grind
    · rw [sumF_one (n := n) (by omega) fun x hx => hz x (by omega), hz n (by omega) (fun q => e q.symm)]; grind
theorem fm_m {n : Nat} (hn : n ≤ 4) {row : List Rat} (hr : row.length = pn n) {k : Nat} (hrow : ∀ j, j < pn n → Ok k (row.getD j 0)) {L : Nat} : Φ (L + 1) .from_monomials [rowD row, .str Bs.m.nm, .ptup ((PT n).map pD)] = some (rowD row) ∧ FM k n .m row row := by
  refine ⟨fm_of ?_, hr, fun j hj => (hrow j hj).mono (by omega), fun j hj => ?_⟩
  · refine seq_rt (take_str rfl ((nm_eq .m .m).trans rfl) rfl)
  · have h := List.all_eq_true.mp mid n (List.mem_range.mpr (by omega))
    simp only [List.all_eq_true, List.mem_range, decide_eq_true_eq] at h
    rw [cmb_sum, sumF_one hj]
    · rw [h j hj j hj, if_pos rfl]; grind
    · intro x hx hne
      rw [h x hx j hj, if_neg hne]; grind
theorem fm_p {n : Nat} (hn : n ≤ 4) {row : List Rat} (hr : row.length = pn n) {k : Nat} (hrow : ∀ j, j < pn n → Ok k (row.getD j 0)) (hk : k ≤ 120) {L : Nat} (hL : 34 ≤ L) : ∃ row', Φ (L + 1) .from_monomials [rowD row, .str Bs.p.nm, .ptup ((PT n).map pD)] = some (rowD row') ∧ FM k n .p row row' := by
  obtain ⟨L, rfl⟩ : ∃ L', L = L' + 4 := ⟨L - 4, by omega⟩
  have h := tab5 hn
  unfold tabP at h
  simp only [Bool.and_eq_true, decide_eq_true_eq] at h
  have hT := List.all_eq_true.mp h.1.1.1.1.1 .p (bs_all _)
  obtain ⟨⟨hF, hD⟩, hU⟩ := h.1.1.1.1.2
  have hp := h.2
  obtain ⟨v1, v2⟩ := backward_val L (chkT_ok hT) (chkT_ok hF) (chkD_ok hD) hr hrow (by omega) (by omega)
  refine ⟨bwdRow (pn n) row (TB .p n), fm_of ?_, by unfold bwdRow; rw [List.length_reverse, fwdRow_len], fun j hj => (v2 j hj).mono (by omega), fun j hj => bwd_spec hr (chkU_ok hU) (chkD_ne hD) hj⟩
  refine seq_nx (skip_str rfl ((nm_eq .p .m).trans rfl)) ?_
  refine seq_rt (take_str rfl ((nm_eq .p .p).trans rfl) (ret_val ?_))
  rw [call2_val (d := rowD row) (c := tabD (TB .p n)) rfl ?_]
  · exact v1
  · rw [bi1_val (lc_pt (n := n) (fun p => rowD (rI (mrow .p p))) rfl ?_)]
    · exact congrArg some (tab_rows (mrow .p) (PT n))
    · intro p hp
      exact (call2_val (d := .str Bs.p.nm) (c := pD p) rfl rfl).trans (mrow_val .p (pt_mem hn hp).1 (L := L + 4) (by omega))
theorem sp_fm {n : Nat} (hn : n ≤ 4) {L : Nat} (hL : 33 ≤ L) {a : D} : Φ L .fillings_table [.ptup ((PT n).map pD)] = some (tabD (TB .s n)) := by
  obtain ⟨L, rfl⟩ : ∃ L', L = L' + 1 := ⟨L - 1, by omega⟩
  rw [Φ_succ]
  show plain 1 (Φ L) i_fillings_table n_fillings_table _ = _
  unfold plain
  rw [if_pos (by rfl)]
  refine runS_rt (ret_val ?_)
  rw [bi1_val (lc_pt (n := n) (fun p => rowD (rI (mrow .s p))) rfl ?_)]
  · exact congrArg some (tab_rows (mrow .s) (PT n))
  · intro p hp
    exact (call2_val (d := .str Bs.s.nm) (c := pD p) rfl rfl).trans (mrow_val .s (pt_mem hn hp).1 (L := L) (by omega))
def fm1 (row : List Rat) (b : Bs) (n : Nat) (T : D) (f : Sl) : En := [.val (rowD row), .val (.str b.nm), .val (.ptup ((PT n).map pD)), .val T, f, .non, .non, .non, .non, .non]
theorem fm_s {n : Nat} (hn : n ≤ 4) {row : List Rat} (hr : row.length = pn n) {k : Nat} (hrow : ∀ j, j < pn n → Ok k (row.getD j 0)) (hk : k ≤ 120) {L : Nat} (hL : 34 ≤ L) : ∃ row', Φ (L + 1) .from_monomials [rowD row, .str Bs.s.nm, .ptup ((PT n).map pD)] = some (rowD row') ∧ FM k n .s row row' := by
  obtain ⟨L, rfl⟩ : ∃ L', L = L' + 4 := ⟨L - 4, by omega⟩
  have h := tab5 hn
  unfold tabP at h
  simp only [Bool.and_eq_true, decide_eq_true_eq] at h
  have hT := List.all_eq_true.mp h.1.1.1.1.1 .s (bs_all _)
  obtain ⟨hD, hU⟩ := h.1.1.2
  have hp := h.2
  obtain ⟨v1, v2⟩ := forward_val (L + 1) (chkT_ok hT) (chkD_ok hD) hr hrow (by omega) (by omega)
  refine ⟨fwdRow row (TB .s n) (pn n), fm_of ?_, by rw [fwdRow_len], fun j hj => (v2 j hj).mono (by omega), fun j hj => fwd_spec (chkU_ok hU) (chkD_ne hD) hj⟩
  refine seq_nx (skip_str rfl ((nm_eq .s .m).trans rfl)) ?_
  refine seq_nx (skip_str rfl ((nm_eq .s .p).trans rfl)) ?_
  refine seq_nx (skip_str rfl ((nm_eq .s .e).trans rfl)) ?_
  refine seq_nx (e := fm1 row .s n (tabD (TB .s n)) .non) (asg_val ((call1_val rfl).trans (sp_fm hn (by omega) (a := .non)))) ?_
  refine seq_nx (e := fm1 row .s n (tabD (TB .s n)) (.val (rowD (fwdRow row (TB .s n) (pn n))))) (asg_val ((call2_val rfl rfl).trans v1)) ?_
  exact seq_rt (take_str rfl ((nm_eq .s .s).trans rfl) rfl)
theorem lenrow {n : Nat} {r : List Rat} (h : r.length = n) : ∀ d, r.getD (n + d) 0 = 0 := fun d => by
  rw [List.getD_eq_getElem?_getD, List.getElem?_eq_none (by omega)]; rfl
theorem idx_tb : ((List.range 5).all fun n => ((List.range (pn n)).all fun i => decide (findL (cj ((PT n).getD i [])) (PT n) 0 = some (pn n - 1 - i))) && (PT n).all fun p => decide ((findL (cj p) (PT n) 0).isSome = true) && decide ((findL (cj p) (PT n) 0).getD 0 < pn n)) = true := by decide +kernel
theorem fm_e {n : Nat} (hn : n ≤ 4) {row : List Rat} (hr : row.length = pn n) {k : Nat} (hrow : ∀ j, j < pn n → Ok k (row.getD j 0)) (hk : k ≤ 120) {L : Nat} (hL : 34 ≤ L) : ∃ row', Φ (L + 1) .from_monomials [rowD row, .str Bs.e.nm, .ptup ((PT n).map pD)] = some (rowD row') ∧ FM k n .e row row' := by
  obtain ⟨L, rfl⟩ : ∃ L', L = L' + 4 := ⟨L - 4, by omega⟩
  have h := tab5 hn
  unfold tabP at h
  simp only [Bool.and_eq_true, decide_eq_true_eq] at h
  obtain ⟨⟨hT, hD⟩, hU⟩ := h.1.1.1.2
  have hp := h.2
  have ix := List.all_eq_true.mp idx_tb n (List.mem_range.mpr (by omega))
  simp only [Bool.and_eq_true, List.all_eq_true, List.mem_range, decide_eq_true_eq] at ix
  obtain ⟨v1, v2⟩ := forward_val (L + 1) (chkT_ok hT) (chkD_ok hD) hr hrow (by omega) (by omega)
  generalize hf : fwdRow row (TB .e n).reverse (pn n) = found at v1 v2
  have fl : found.length = pn n := by rw [← hf, fwdRow_len]
  have tl : (TB .e n).length = pn n := by unfold TB pn; rw [List.length_map]
  have e3 : (PT n).map (fun p => mrow .e (cj p)) = (TB .e n).reverse := by
    have q := List.all_eq_true.mp cj_rev n (List.mem_range.mpr (by omega))
    rw [decide_eq_true_eq] at q
    unfold TB
    rw [← List.map_reverse, ← q, List.map_map]; rfl
  have e4 : (PT n).map (fun p => rtD (found.getD ((findL (cj p) (PT n) 0).getD 0) 0)) = found.reverse.map rtD := by
    refine List.ext_getElem (by rw [List.length_map, List.length_map, List.length_reverse, fl]; rfl) fun i h1 h2 => ?_
    rw [List.length_map] at h1
    rw [List.getElem_map, List.getElem_map, List.getElem_reverse]
    have q := ix.1 i h1
    rw [show (PT n).getD i [] = (PT n)[i] by rw [List.getD_eq_getElem?_getD, List.getElem?_eq_getElem h1]; rfl] at q
    rw [q]
    simp only [Option.getD_some]
    have h3 : pn n - 1 - i < found.length := by rw [fl]; unfold pn; omega
    rw [List.getD_eq_getElem?_getD, List.getElem?_eq_getElem h3]
    simp [fl]
  refine ⟨found.reverse, fm_of ?_, by rw [List.length_reverse, fl], fun j hj => by rw [rev_get fl hj]; exact (v2 _ (by omega)).mono (by omega), fun j hj => ?_⟩
  · refine seq_nx (skip_str rfl ((nm_eq .e .m).trans rfl)) ?_
    refine seq_nx (skip_str rfl ((nm_eq .e .p).trans rfl)) ?_
    refine seq_rt (take_str rfl ((nm_eq .e .e).trans rfl) ?_)
    refine seq_nx (e := fm1 row .e n (tabD (TB .e n).reverse) .non) (asg_val ?_) ?_
    · rw [bi1_val (lc_pt (n := n) (fun p => rowD (rI (mrow .e (cj p)))) rfl ?_)]
      · rw [← e3]
        exact congrArg some (tab_rows (fun p => mrow .e (cj p)) (PT n))
      · intro p hp
        refine (call2_val (d := .str Bs.e.nm) (c := pD (cj p)) rfl ((call1_val rfl).trans (turned_val (pt_mem hn hp).1 (by omega)))).trans ?_
        exact mrow_val .e (cj_mem (pt_mem hn hp).1) (by omega)
    refine seq_nx (e := fm1 row .e n (tabD (TB .e n).reverse) (.val (rowD found))) (asg_val ((call2_val rfl rfl).trans v1)) (ret_val ?_)
    rw [bi1_val (lc_pt (n := n) (fun p => rtD (found.getD ((findL (cj p) (PT n) 0).getD 0) 0)) rfl ?_), e4]
    · rfl
    · intro p hp
      have q := ix.2 p hp
      refine (bi2_val (d := rowD found) (c := .int (((findL (cj p) (PT n) 0).getD 0 : Nat) : Int)) rfl ((bi2_val (d := .ptup ((PT n).map pD)) (c := pD (cj p)) rfl ((call1_val rfl).trans (turned_val (pt_mem hn hp).1 (by omega)))).trans ?_)).trans ?_
      · show (ints? ((cj p).map .int)).bind _ = _
        rw [ints_map]
        show (tups? ((PT n).map pD)).bind _ = _
        rw [tups_map]
        show (findL (cj p) (PT n) 0).map _ = _
        obtain ⟨x, hx⟩ := Option.isSome_iff_exists.mp q.1
        rw [hx]; rfl
      · show atI (found.map rtD) _ = _
        rw [row_at (by rw [fl]; exact q.2)]
  · have q := fwd_spec (row := row) (chkU_ok hU) (chkD_ne hD) hj
    rw [hf, cmb_sum] at q
    rw [cmb_sum, ← q, ← sumF_rev]
    refine sumF_congr fun x hx => ?_
    rw [rev_get fl (by omega), show pn n - 1 - (pn n - 1 - x) = x by omega]
    have e9 : tat (TB .e n).reverse x j = tat (TB .e n) (pn n - 1 - x) j := by
      unfold tat
      rw [List.getD_eq_getElem?_getD (l := (TB .e n).reverse), List.getD_eq_getElem?_getD (l := TB .e n), List.getElem?_reverse (by omega), tl]
    rw [e9]
theorem sumF_add (f g : Nat → Rat) : ∀ n, sumF (fun x => f x + g x) n = sumF f n + sumF g n
  | 0 => by unfold sumF; grind
  | n + 1 => by unfold sumF; rw [sumF_add f g n]; grind
theorem sumF_mul (f : Nat → Rat) (c : Rat) : ∀ n, sumF (fun x => f x * c) n = sumF f n * c
  | 0 => by unfold sumF; grind
  | n + 1 => by unfold sumF; rw [sumF_mul f c n]; grind
theorem sumF_swap (f : Nat → Nat → Rat) (m : Nat) : ∀ n, sumF (fun x => sumF (fun y => f x y) m) n = sumF (fun y => sumF (fun x => f x y) n) m
  | 0 => by
    show (0 : Rat) = _
    exact (sumF_zero fun x _ => rfl).symm
  | n + 1 => by
    show sumF (fun x => sumF (fun y => f x y) m) n + sumF (fun y => f n y) m = sumF (fun y => sumF (fun x => f x y) n + f n y) m
    rw [sumF_swap f m n, sumF_add]
theorem castsum (g : Nat → Int) : ∀ n, (((List.range n).map g).sum : Int) = ((((List.range n).map g).sum : Int)) → ((((List.range n).map g).sum : Int) : Rat) = sumF (fun x => (g x : Rat)) n
  | 0, _ => rfl
  | n + 1, _ => by
    rw [List.range_succ, List.map_append, List.sum_append]
    unfold sumF
    rw [← castsum g n rfl]
    simp
theorem fm_h {n : Nat} (hn : n ≤ 4) {row : List Rat} (hr : row.length = pn n) {k : Nat} (hrow : ∀ j, j < pn n → Ok k (row.getD j 0)) (hk : k ≤ 120) {L : Nat} (hL : 34 ≤ L) : ∃ row', Φ (L + 1) .from_monomials [rowD row, .str Bs.h.nm, .ptup ((PT n).map pD)] = some (rowD row') ∧ FM k n .h row row' := by
  obtain ⟨L, rfl⟩ : ∃ L', L = L' + 4 := ⟨L - 4, by omega⟩
  have h := tab5 hn
  unfold tabP at h
  simp only [Bool.and_eq_true, decide_eq_true_eq] at h
  have hT := List.all_eq_true.mp h.1.1.1.1.1 .s (bs_all _)
  obtain ⟨hD, hU⟩ := h.1.1.2
  obtain ⟨⟨⟨hT2, hF2⟩, hD2⟩, hU2⟩ := h.1.2
  have hp := h.2
  obtain ⟨v1, v2⟩ := forward_val (L + 1) (chkT_ok hT) (chkD_ok hD) hr hrow (by omega) (by omega)
  have s1 := fun j hj => fwd_spec (row := row) (chkU_ok hU) (chkD_ne hD) (j := j) hj
  have fl := fwdRow_len row (TB .s n) (pn n)
  generalize hf : fwdRow row (TB .s n) (pn n) = found at v1 v2 s1 fl
  obtain ⟨w1, w2⟩ := backward_val L (chkT_ok hT2) (chkT_ok hF2) (chkD_ok hD2) fl v2 (by omega) (by omega)
  have s2 := fun j hj => bwd_spec (row := found) fl (chkU_ok hU2) (chkD_ne hD2) (j := j) hj
  refine ⟨bwdRow (pn n) found (trT (pn n) (TB .s n)), fm_of ?_, by unfold bwdRow; rw [List.length_reverse, fwdRow_len], fun j hj => (w2 j hj).mono (by omega), fun j hj => ?_⟩
  · refine seq_nx (skip_str rfl ((nm_eq .h .m).trans rfl)) ?_
    refine seq_nx (skip_str rfl ((nm_eq .h .p).trans rfl)) ?_
    refine seq_nx (skip_str rfl ((nm_eq .h .e).trans rfl)) ?_
    refine seq_nx (e := fm1 row .h n (tabD (TB .s n)) .non) (asg_val ((call1_val rfl).trans (sp_fm hn (by omega) (a := .non)))) ?_
    refine seq_nx (e := fm1 row .h n (tabD (TB .s n)) (.val (rowD found))) (asg_val ((call2_val rfl rfl).trans v1)) ?_
    refine seq_nx (skip_str rfl ((nm_eq .h .s).trans rfl)) ?_
    refine seq_nx (e := [.val (rowD row), .val (.str Bs.h.nm), .val (.ptup ((PT n).map pD)), .val (tabD (TB .s n)), .val (rowD found), .val (.int (pn n : Int)), .non, .non, .non, .non]) (asg_val ?_) ?_
    · refine (bi1_val (d := .ptup ((PT n).map pD)) rfl).trans ?_
      show some (D.int ((PT n).map pD).length) = _
      rw [List.length_map]; rfl
    refine seq_nx (e := [.val (rowD row), .val (.str Bs.h.nm), .val (.ptup ((PT n).map pD)), .val (tabD (TB .s n)), .val (rowD found), .val (.int (pn n : Int)), .val (tabD (trT (pn n) (TB .s n))), .non, .non, .non]) (asg_val ?_) ?_
    · refine (bi1_val (lc1_val (n := pn n) (fun i => rowD (rI ((List.range (pn n)).map fun j => tat (TB .s n) j i))) rfl (by omega) ?_)).trans ?_
      · intro i hi
        refine (bi1_val (lc1_val (n := pn n) (fun j => rtD ((tat (TB .s n) j i : Int) : Rat)) rfl (by omega) ?_)).trans ?_
        · intro j hj
          obtain ⟨rl, e1, e2⟩ := tl_at (chkT_ok hT) hj hi
          refine (bi2_val (d := .tup rl) (c := .int (i : Int)) ((bi2_val (d := tabD (TB .s n)) (c := .int (j : Int)) rfl rfl).trans ?_) rfl).trans ?_
          · rw [tabD_eq]; exact e1
          · exact e2
        · show some (D.tup _) = _
          unfold rowD rI
          rw [List.map_map, List.map_map]; rfl
      · show some (D.tup _) = _
        unfold tabD trT
        rw [List.map_map]; rfl
    · exact ret_val ((call2_val rfl rfl).trans w1)
  · have hh := List.all_eq_true.mp hs n (List.mem_range.mpr (by omega))
    simp only [List.all_eq_true, List.mem_range, decide_eq_true_eq] at hh
    rw [← s1 j hj, cmb_sum, cmb_sum]
    have a1 : sumF (fun i => (bwdRow (pn n) found (trT (pn n) (TB .s n))).getD i 0 * (tat (TB .h n) i j : Rat)) (pn n) = sumF (fun i => sumF (fun k => (bwdRow (pn n) found (trT (pn n) (TB .s n))).getD i 0 * (tat (TB .s n) k i : Rat) * (tat (TB .s n) k j : Rat)) (pn n)) (pn n) := sumF_congr fun i hi => by
      rw [hh i hi j hj, castsum _ _ rfl]
      rw [Rat.mul_comm, ← sumF_mul]
      refine sumF_congr fun k _ => ?_
      simp only [Rat.intCast_mul]
      grind
    rw [a1, sumF_swap]
    refine sumF_congr fun k hk => ?_
    rw [sumF_mul, ← s2 k hk, cmb_sum]
    refine congrArg (fun x => x * (tat (TB .s n) k j : Rat)) (sumF_congr fun i hi => ?_)
    have e9 : tat (trT (pn n) (TB .s n)) i k = tat (TB .s n) k i := by
      unfold trT
      rw [tat, List.getD_eq_getElem?_getD, List.getD_eq_getElem?_getD, List.getElem?_map, List.getElem?_range hi]
      simp [hk]
    rw [e9]
theorem fm_val {n : Nat} (hn : n ≤ 4) (b : Bs) {row : List Rat} (hr : row.length = pn n) {k : Nat} (hrow : ∀ j, j < pn n → Ok k (row.getD j 0)) (hk : k ≤ 120) {L : Nat} (hL : 34 ≤ L) : ∃ row', Φ (L + 1) .from_monomials [rowD row, .str b.nm, .ptup ((PT n).map pD)] = some (rowD row') ∧ FM k n b row row' := by
  cases b with
  | m => exact ⟨row, fm_m hn hr hrow⟩
  | e => exact fm_e hn hr hrow hk hL
  | h => exact fm_h hn hr hrow hk hL
  | p => exact fm_p hn hr hrow hk hL
  | s => exact fm_s hn hr hrow hk hL
end FB

set_option Elab.async false
set_option linter.all false
set_option maxRecDepth 100000
set_option maxHeartbeats 1000000
/-! FBy3: converted. -/
namespace FB
open PySem L2
theorem exp_val {Φ : Fn → List D → Option D} {e : IE} {env : En} {d : D} (h : evalE Φ e env = some d) : evalS Φ (.exp e) env = some (.nx env) := by
  unfold evalS; rw [h]
abbrev Vl := Bs → List Int → Rat
/-- the values of the parts of n agree with the tables -/
def GoodN (V : Vl) (n : Nat) : Prop := ∀ (b : Bs) i, i < pn n → V b ((PT n).getD i []) = sumF (fun j => (tat (TB b n) i j : Rat) * V .m ((PT n).getD j [])) (pn n)
def sumV (V : Vl) (b : Bs) (n : Nat) (row : List Rat) : Rat := sumF (fun i => row.getD i 0 * V b ((PT n).getD i [])) (pn n)
theorem sumV_m {V : Vl} {n : Nat} (h : GoodN V n) (b : Bs) (row : List Rat) : sumV V b n row = sumF (fun j => cmb row (TB b n) j (pn n) * V .m ((PT n).getD j [])) (pn n) := by
  unfold sumV
  have e1 : sumF (fun i => row.getD i 0 * V b ((PT n).getD i [])) (pn n) = sumF (fun i => sumF (fun j => row.getD i 0 * (tat (TB b n) i j : Rat) * V .m ((PT n).getD j [])) (pn n)) (pn n) := sumF_congr fun i hi => by
    rw [h b i hi, Rat.mul_comm, ← sumF_mul]
    exact sumF_congr fun j _ => by grind
  rw [e1, sumF_swap]
  refine sumF_congr fun j _ => ?_
  rw [sumF_mul, cmb_sum]
theorem FM.val {V : Vl} {n k : Nat} (h : GoodN V n) {b : Bs} {row row' : List Rat} (f : FM k n b row row') : sumV V b n row' = sumV V .m n row := by
  rw [sumV_m h]
  unfold sumV
  exact sumF_congr fun j hj => by rw [f.eq j hj]
structure CV (k n : Nat) (a b : Bs) (row row' : List Rat) : Prop where
  len : row'.length = pn n
  ok : ∀ j, j < pn n → Ok (k + 36) (row'.getD j 0)
  val : ∀ V : Vl, GoodN V n → sumV V b n row' = sumV V a n row
theorem cv_of {L n : Nat} {row : List Rat} {a b : Bs} {d : D} (h : evalS (Φ L) i_converted [.val (.int n), .val (rowD row), .val (.str a.nm), .val (.str b.nm), .non, .non] = some (.rt d)) : Φ (L + 1) .converted [.int n, rowD row, .str a.nm, .str b.nm] = some d := by
  rw [Φ_succ]
  show plain 4 (Φ L) i_converted n_converted _ = _
  unfold plain
  rw [if_pos (by rfl)]
  exact runS_rt h
theorem ite_strs {Φ : Fn → List D → Option D} {i j : Nat} {x y : Str} {a b : IS} {env : En} (h : env[i]? = some (.val (.str x))) (h2 : env[j]? = some (.val (.str y))) : evalS Φ (.ite (.bi .eq (.cons (.var i) (.cons (.var j) .nil))) a b) env = if decide (x = y) = true then evalS Φ a env else evalS Φ b env := by
  by_cases e : x = y
  · simp [evalS, evalE, h, h2, bival, eqD, e]
  · simp [evalS, evalE, h, h2, bival, eqD, e]
theorem ite_nstr {Φ : Fn → List D → Option D} {i : Nat} {x y : Str} {a b : IS} {env : En} (h : env[i]? = some (.val (.str x))) : evalS Φ (.ite (.bi .ne (.cons (.var i) (.cons (.cst (.str y)) .nil))) a b) env = if decide (x = y) = true then evalS Φ b env else evalS Φ a env := by
  by_cases e : x = y
  · simp [evalS, evalE, h, bival, eqD, e]
  · simp [evalS, evalE, h, bival, eqD, e]
theorem cbL_get {row : List Rat} {T : List (List Int)} {n j : Nat} (hj : j < n) : (cbL row T n n).getD j 0 = cmb row T j n := by
  unfold cbL
  simp [List.getD_eq_getElem?_getD, hj]
theorem conv_val {n : Nat} (hn : n ≤ 4) (a b : Bs) {row : List Rat} (hr : row.length = pn n) {k : Nat} (hrow : ∀ j, j < pn n → Ok k (row.getD j 0)) (hk : k ≤ 110) {L : Nat} (hL : 36 ≤ L) : ∃ row', Φ (L + 1) .converted [.int n, rowD row, .str a.nm, .str b.nm] = some (rowD row') ∧ CV k n a b row row' := by
  have hp : pn n ≤ 5 := pt_len5 n
  have start : ∀ {d : D}, evalS (Φ L) (.seq (.ite (.bi .eq (.cons (.var 2) (.cons (.var 3) .nil))) (.ret (.bi .tupOf (.cons (.var 1) .nil))) .skip) (.seq (.ite (.bi .ne (.cons (.var 2) (.cons (.cst (.str "m")) .nil))) (.asg 1 (.call .combined (.cons (.var 1) (.cons (.bi .tupOf (.cons (.lc 0 (.var 4) (.nm 5) (.cst (.bl true)) (.call .monomial_row (.cons (.var 2) (.cons (.var 5) .nil))) [5]) .nil)) .nil)))) .skip) (.ret (.call .from_monomials (.cons (.bi .tupOf (.cons (.var 1) .nil)) (.cons (.var 3) (.cons (.var 4) .nil))))))) [.val (.int n), .val (rowD row), .val (.str a.nm), .val (.str b.nm), .val (.ptup ((PT n).map pD)), .non] = some (.rt d) → Φ (L + 1) .converted [.int n, rowD row, .str a.nm, .str b.nm] = some d := by
    intro d h
    refine cv_of ?_
    refine seq_nx (e := [.val (.int n), .val (rowD row), .val (.str a.nm), .val (.str b.nm), .non, .non]) (exp_val (d := .non) ?_) ?_
    · refine (call2_val (d := .int n) (c := .tup [.str a.nm, .str b.nm]) rfl rfl).trans (check_val hn a b (by omega))
    refine seq_nx (e := [.val (.int n), .val (rowD row), .val (.str a.nm), .val (.str b.nm), .val (.ptup ((PT n).map pD)), .non]) (asg_val ((call1_val rfl).trans (parts_val hn (by omega)))) ?_
    refine seq_nx (e := [.val (.int n), .val (rowD row), .val (.str a.nm), .val (.str b.nm), .val (.ptup ((PT n).map pD)), .non]) ?_ h
    have e1 : evalE (Φ L) (.bi .ne (.cons (.bi .len (.cons (.var 1) .nil)) (.cons (.bi .len (.cons (.var 4) .nil)) .nil))) [.val (.int n), .val (rowD row), .val (.str a.nm), .val (.str b.nm), .val (.ptup ((PT n).map pD)), .non] = some (.bl false) := by
      refine (bi2_val (d := .int (pn n)) (c := .int (pn n)) ((bi1_val (d := rowD row) rfl).trans ?_) ((bi1_val (d := .ptup ((PT n).map pD)) rfl).trans ?_)).trans ?_
      · show some (D.int (row.map rtD).length) = _
        rw [List.length_map, hr]
      · show some (D.int ((PT n).map pD).length) = _
        rw [List.length_map]; rfl
      · show some (D.bl (!decide ((pn n : Int) = pn n))) = _
        rw [decide_eq_true rfl]; rfl
    unfold evalS
    rw [e1]
    rfl
  by_cases hab : a = b
  · subst hab
    refine ⟨row, start (seq_rt ?_), hr, fun j hj => (hrow j hj).mono (by omega), fun _ _ => rfl⟩
    rw [ite_strs rfl rfl, nm_eq, decide_eq_true rfl, if_pos rfl]
    rfl
  have s1 : ∀ {i j : IS} {env : En}, env[2]? = some (.val (.str a.nm)) → env[3]? = some (.val (.str b.nm)) → evalS (Φ L) (.ite (.bi .eq (.cons (.var 2) (.cons (.var 3) .nil))) i j) env = evalS (Φ L) j env := by
    intro i j env h1 h2
    rw [ite_strs h1 h2, nm_eq, decide_eq_false hab, if_neg (by decide)]
  obtain ⟨L, rfl⟩ : ∃ L', L = L' + 1 := ⟨L - 1, by omega⟩
  by_cases ham : a = .m
  · subst ham
    obtain ⟨row', v, f⟩ := fm_val hn b hr hrow (by omega) (L := L) (by omega)
    refine ⟨row', start ?_, f.len, fun j hj => (f.ok j hj).mono (by omega), fun V hV => f.val hV⟩
    refine seq_nx (e := [.val (.int n), .val (rowD row), .val (.str Bs.m.nm), .val (.str b.nm), .val (.ptup ((PT n).map pD)), .non]) ((s1 rfl rfl).trans rfl) ?_
    refine seq_nx (e := [.val (.int n), .val (rowD row), .val (.str Bs.m.nm), .val (.str b.nm), .val (.ptup ((PT n).map pD)), .non]) ((ite_nstr rfl).trans ?_) (ret_val ((call3_val (d := rowD row) (c := .str b.nm) (a := .ptup ((PT n).map pD)) rfl rfl rfl).trans v))
    rw [show decide (Bs.nm .m = ("m" : Str)) = true from (nm_eq .m .m).trans rfl, if_pos rfl]
    rfl
  · have hT := List.all_eq_true.mp (by have h := tab5 hn; unfold tabP at h; simp only [Bool.and_eq_true, decide_eq_true_eq] at h; exact h.1.1.1.1.1) a (bs_all a)
    obtain ⟨L, rfl⟩ : ∃ L', L = L' + 2 := ⟨L - 2, by omega⟩
    obtain ⟨c1, c2⟩ := combined_val L (chkT_ok hT) hr hrow (by omega) (by omega)
    have cl : (cbL row (TB a n) (pn n) (pn n)).length = pn n := by unfold cbL; simp
    obtain ⟨row', v, f⟩ := fm_val hn b cl c2 (by omega) (L := L + 2) (by omega)
    refine ⟨row', start ?_, f.len, fun j hj => (f.ok j hj).mono (by omega), fun V hV => ?_⟩
    · refine seq_nx (e := [.val (.int n), .val (rowD row), .val (.str a.nm), .val (.str b.nm), .val (.ptup ((PT n).map pD)), .non]) ((s1 rfl rfl).trans rfl) ?_
      refine seq_nx (e := [.val (.int n), .val (rowD (cbL row (TB a n) (pn n) (pn n))), .val (.str a.nm), .val (.str b.nm), .val (.ptup ((PT n).map pD)), .non]) ((ite_nstr rfl).trans ?_) (ret_val ((call3_val (d := rowD (cbL row (TB a n) (pn n) (pn n))) (c := .str b.nm) (a := .ptup ((PT n).map pD)) rfl rfl rfl).trans v))
      rw [show decide (a.nm = ("m" : Str)) = false from (nm_eq a .m).trans (decide_eq_false ham), if_neg (by decide)]
      refine asg_val ((call2_val (d := rowD row) (c := tabD (TB a n)) rfl ?_).trans c1)
      rw [bi1_val (lc_pt (n := n) (fun p => rowD (rI (mrow a p))) rfl ?_)]
      · exact congrArg some (tab_rows (mrow a) (PT n))
      · intro p hp
        exact (call2_val (d := .str a.nm) (c := pD p) rfl rfl).trans (mrow_val a (pt_mem hn hp).1 (by omega))
    · rw [f.val hV, sumV_m hV a row]
      unfold sumV
      exact sumF_congr fun j hj => by rw [cbL_get hj]
end FB

set_option Elab.async false
set_option linter.all false
set_option maxRecDepth 100000
set_option maxHeartbeats 1000000
/-! FBy4: in_base. -/
namespace FB
open PySem L2
/-! sums without growth -/
theorem mk_add {N M : Int} {d : Nat} (hd : 0 < d) : mkRat N d + mkRat M d = mkRat (N + M) d := by
  have z := Nat.ne_of_gt hd
  rw [Rat.mkRat_add_mkRat _ _ z z, ← Int.add_mul, Rat.mkRat_mul_right z]
theorem coef_mk {k : Nat} {p : List Int} : ∀ {ts : List TM}, (∀ t ∈ ts, Ok k t.2) → ∃ N : Int, coef ts p = mkRat N (24 ^ k) ∧ N.natAbs ≤ ts.length * 24 ^ (2 * k)
  | [], _ => ⟨0, by rw [Rat.zero_mkRat]; rfl, by simp⟩
  | t :: r, h => by
    obtain ⟨M, e, b⟩ := coef_mk (p := p) (ts := r) fun x hx => h x (List.mem_cons_of_mem _ hx)
    obtain ⟨N, f, c⟩ := h t (List.mem_cons_self ..)
    have l : (r.length + 1) * 24 ^ (2 * k) = r.length * 24 ^ (2 * k) + 24 ^ (2 * k) := by rw [Nat.add_mul, Nat.one_mul]
    by_cases q : t.1 = p
    · refine ⟨N + M, ?_, ?_⟩
      · show (if t.1 = p then t.2 else 0) + coef r p = _
        rw [if_pos q, e, f, mk_add (p24 k)]
      · rw [List.length_cons, l]
        have := Int.natAbs_add_le N M
        omega
    · refine ⟨M, ?_, ?_⟩
      · show (if t.1 = p then t.2 else 0) + coef r p = _
        rw [if_neg q, e, Rat.zero_add]
      · rw [List.length_cons, l]
        omega
theorem coef_ok2 {k : Nat} {p : List Int} {ts : List TM} (h : ∀ t ∈ ts, Ok k t.2) (hl : ts.length ≤ 576) : Ok (k + 2) (coef ts p) := by
  obtain ⟨N, e, b⟩ := coef_mk (p := p) h
  refine ⟨N * ((24 ^ 2 : Nat) : Int), ?_, ?_⟩
  · rw [e, show 24 ^ (k + 2) = 24 ^ k * 24 ^ 2 from Nat.pow_add .., Rat.mkRat_mul_right (by decide)]
  · rw [Int.natAbs_mul, Int.natAbs_natCast, show 2 * (k + 2) = 2 * k + 4 by omega, Nat.pow_add]
    refine Nat.le_trans (Nat.mul_le_mul_right _ b) ?_
    rw [Nat.mul_assoc, Nat.mul_comm ts.length, Nat.mul_assoc]
    exact Nat.mul_le_mul_left _ (by show 576 * ts.length ≤ 331776; omega)
theorem nf_ok {k : Nat} {ts : List TM} (h : ∀ t ∈ ts, Ok k t.2) (hl : ts.length ≤ 576) : ∀ t ∈ nfT ts, Ok (k + 2) t.2 := fun t ht => by
  rw [(nf_mem ht).2.2.1]
  exact coef_ok2 h hl
/-! the first multiple is the only one -/
theorem fst_coef {p : List Int} : ∀ {ts : List TM}, (ts.map (·.1)).Nodup → fstT ts p = coef ts p
  | [], _ => rfl
  | t :: r, h => by
    rw [List.map_cons, List.nodup_cons] at h
    unfold fstT
    show _ = (if t.1 = p then t.2 else 0) + coef r p
    by_cases q : t.1 = p
    · have : has r p = false := by
        rw [← Bool.not_eq_true]
        intro hh
        obtain ⟨u, h1, h2⟩ := has_mem hh
        exact h.1 (by rw [q, ← h2]; exact List.mem_map_of_mem h1)
      rw [if_pos q, if_pos q, coef_none this, Rat.add_zero]
    · rw [if_neg q, if_neg q, fst_coef h.2, Rat.zero_add]
theorem nf_nodup (ts : List TM) : ((nfT ts).map (·.1)).Nodup := by
  unfold nfT
  rw [List.map_map]
  have : (((fun (x : TM) => x.1) ∘ fun p => (p, coef ts p)) : List Int → List Int) = id := rfl
  rw [this, List.map_id]
  exact P12_nodup.filter _
theorem fst_ok {k : Nat} {p : List Int} : ∀ {ts : List TM}, (∀ t ∈ ts, Ok k t.2) → Ok k (fstT ts p)
  | [], _ => Ok.zero _
  | t :: r, h => by
    unfold fstT
    split
    · exact h t (List.mem_cons_self ..)
    · exact fst_ok fun x hx => h x (List.mem_cons_of_mem _ hx)
theorem sumL_VC (v : List Int → Rat) (ts : List TM) : ∀ l : List (List Int), sumF (fun i => (l.map (coef ts)).getD i 0 * v (l.getD i [])) l.length = VC v ts l
  | [] => rfl
  | p :: r => by
    rw [List.length_cons, sumF_shift]
    unfold VC
    rw [← sumL_VC v ts r]
    rfl
theorem zip_D : ∀ (l : List (List Int)) (r : List Rat), zipD (l.map pD) (r.map rtD) = (l.zip r).map tmD
  | [], _ => rfl
  | _ :: _, [] => rfl
  | p :: l, q :: r => by
    show D.tup [pD p, rtD q] :: zipD (l.map pD) (r.map rtD) = _
    rw [zip_D l r]; rfl
theorem VS_zip (v : List Int → Rat) : ∀ (l : List (List Int)) (r : List Rat), r.length = l.length → VS v (l.zip r) = sumF (fun i => r.getD i 0 * v (l.getD i [])) l.length
  | [], [], _ => rfl
  | [], _ :: _, h => nomatch h
  | _ :: _, [], h => nomatch h
  | p :: l, q :: r, h => by
    rw [List.length_cons, sumF_shift]
    show q * v p + VS v (l.zip r) = _
    rw [VS_zip v l r (by simpa using h)]
    rfl
theorem pt_nodup : ((List.range 5).all fun n => decide (PT n).Nodup) = true := by decide +kernel
theorem sum_pt : (P12.all fun p => (PT p.sum.toNat).contains p && decide (0 ≤ p.sum) && decide (p.sum ≤ 4)) = true := by decide +kernel
theorem p12_pt {p : List Int} (hp : p ∈ P12) : p ∈ PT p.sum.toNat ∧ 0 ≤ p.sum ∧ p.sum ≤ 4 := by
  have := List.all_eq_true.mp sum_pt p hp
  simp at this
  exact ⟨this.1.1, this.1.2, this.2⟩
theorem VS_cons (v : List Int → Rat) (t : TM) (r : List TM) : VS v (t :: r) = t.2 * v t.1 + VS v r := rfl
theorem VS_split (v : List Int → Rat) (n : Int) : ∀ ts : List TM, VS v (ts.filter fun t => decide (t.1.sum < n + 1)) = VS v (ts.filter fun t => decide (t.1.sum < n)) + VS v (ts.filter fun t => decide (t.1.sum = n))
  | [] => by show (0 : Rat) = 0 + 0; grind
  | t :: r => by
    have ih := VS_split v n r
    rw [List.filter_cons, List.filter_cons, List.filter_cons]
    by_cases h1 : t.1.sum = n
    · have a : decide (t.1.sum < n + 1) = true := decide_eq_true (by omega)
      have b : decide (t.1.sum < n) = false := decide_eq_false (by omega)
      rw [a, b, decide_eq_true h1]
      simp only [if_true, Bool.false_eq_true, if_false]
      rw [VS_cons, VS_cons, ih]
      generalize VS v (r.filter fun t => decide (t.1.sum < n)) = A, VS v (r.filter fun t => decide (t.1.sum = n)) = B
      grind
    · by_cases h2 : t.1.sum < n
      · have a : decide (t.1.sum < n + 1) = true := decide_eq_true (by omega)
        rw [a, decide_eq_true h2, decide_eq_false h1]
        simp only [if_true, Bool.false_eq_true, if_false]
        rw [VS_cons, VS_cons, ih]
        generalize VS v (r.filter fun t => decide (t.1.sum < n)) = A, VS v (r.filter fun t => decide (t.1.sum = n)) = B
        grind
      · have a : decide (t.1.sum < n + 1) = false := decide_eq_false (by omega)
        rw [a, decide_eq_false h2, decide_eq_false h1]
        simp only [Bool.false_eq_true, if_false]
        exact ih
def ibB : IS := (.seq (.asg 4 (.call .s_part_of (.cons (.var 0) (.cons (.var 3) .nil)))) (.ite (.not (.call .s_is_zero (.cons (.var 4) .nil))) (.seq (.asg 5 (.call .partitions (.cons (.var 3) .nil))) (.seq (.asg 6 (.call .converted (.cons (.var 3) (.cons (.bi .tupOf (.cons (.lc 0 (.var 5) (.nm 7) (.cst (.bl true)) (.call .s_multiple (.cons (.var 4) (.cons (.var 7) .nil))) [7]) .nil)) (.cons (.fld 1 0 (.var 0)) (.cons (.var 1) .nil)))))) (.asg 2 (.bi .add (.cons (.var 2) (.cons (.bi .zipL (.cons (.var 5) (.cons (.var 6) .nil))) .nil)))))) .skip))
/-- what in_base has gathered -/
structure Acc (k n : Nat) (a b : Bs) (ts acc : List TM) : Prop where
  mem : ∀ t ∈ acc, t.1 ∈ P12
  sz : ∀ t ∈ acc, t.1.sum < n
  ok : ∀ t ∈ acc, Ok (k + 38) t.2
  len : acc.length ≤ 5 * n
  val : ∀ V : Vl, (∀ i, i < n → GoodN V i) → VS (V b) acc = VS (V a) (ts.filter fun t => decide (t.1.sum < (n : Int)))
theorem seq_eq {Φ : Fn → List D → Option D} {a b : IS} {env e : En} {r : Option Fl} (h : evalS Φ a env = some (.nx e)) (h2 : evalS Φ b e = r) : evalS Φ (.seq a b) env = r := seq_nx h h2
theorem ib_step {L : Nat} (hL : 38 ≤ L) {a b : Bs} {k : Nat} {ts : List TM} (hin : ∀ t ∈ ts, t.1 ∈ P12) (hok : ∀ t ∈ ts, Ok k t.2) (hlen : ts.length ≤ 30) (hk : k ≤ 100) {n : Nat} (hn : n ≤ 4) {acc : List TM} (A : Acc k n a b ts acc) {s3 s4 s5 s6 s7 : Sl} :
    ∃ acc' s4' s5' s6' s7', evalS (Φ L) ibB [.val (syD a.nm ts), .val (.str b.nm), .val (.lst (acc.map tmD)), .val (.int (n : Int)), s4, s5, s6, s7] = some (.nx [.val (syD a.nm ts), .val (.str b.nm), .val (.lst (acc'.map tmD)), .val (.int (n : Int)), s4', s5', s6', s7']) ∧ Acc k (n + 1) a b ts acc' := by
  obtain ⟨us, hus⟩ : ∃ us, us = nfT (ts.filter fun t => decide (t.1.sum = (n : Int))) := ⟨_, rfl⟩
  have pv := part_of_val L (by omega) (bs_in a) hin hok (show k + ts.length ≤ 190 by omega) (n : Int)
  rw [← hus] at pv
  have fm : ∀ t ∈ ts.filter (fun t => decide (t.1.sum = (n : Int))), t.1 ∈ P12 ∧ Ok k t.2 ∧ t.1.sum = n := fun t ht => by
    obtain ⟨h1, h2⟩ := List.mem_filter.mp ht
    exact ⟨hin t h1, hok t h1, of_decide_eq_true h2⟩
  have fl : (ts.filter (fun t => decide (t.1.sum = (n : Int)))).length ≤ 30 := Nat.le_trans (List.length_filter_le _ _) hlen
  have uok : ∀ t ∈ us, Ok (k + 2) t.2 := by rw [hus]; exact nf_ok (fun t ht => (fm t ht).2.1) (by omega)
  have uval : ∀ v : List Int → Rat, VS v us = VS v (ts.filter fun t => decide (t.1.sum = (n : Int))) := fun v => by rw [hus]; exact VS_nf v fun t ht => (fm t ht).1
  have upt : ∀ t ∈ us, t.1 ∈ PT n := fun t ht => by
    rw [hus] at ht
    obtain ⟨h1, h2, -, -⟩ := nf_mem ht
    obtain ⟨u, h3, h4⟩ := has_mem h2
    have h5 := (fm u h3).2.2
    rw [h4] at h5
    have := (p12_pt h1).1
    rwa [h5, Int.toNat_natCast] at this
  have e1 : evalS (Φ L) (.asg 4 (.call .s_part_of (.cons (.var 0) (.cons (.var 3) .nil)))) [.val (syD a.nm ts), .val (.str b.nm), .val (.lst (acc.map tmD)), .val (.int (n : Int)), s4, s5, s6, s7] = some (.nx [.val (syD a.nm ts), .val (.str b.nm), .val (.lst (acc.map tmD)), .val (.int (n : Int)), .val (syD a.nm us), s5, s6, s7]) :=
    asg_val ((call2_val rfl rfl).trans pv)
  have ez : evalE (Φ L) (.not (.call .s_is_zero (.cons (.var 4) .nil))) [.val (syD a.nm ts), .val (.str b.nm), .val (.lst (acc.map tmD)), .val (.int (n : Int)), .val (syD a.nm us), s5, s6, s7] = some (.bl (!us.isEmpty)) := by
    obtain ⟨L, rfl⟩ : ∃ L', L = L' + 1 := ⟨L - 1, by omega⟩
    have := is_zero_val L (b := a.nm) (ts := us)
    rw [evalE, call1_val (d := syD a.nm us) rfl, this]
  have val0 : ∀ V : Vl, (∀ i, i < n + 1 → GoodN V i) → VS (V b) acc + VS (V a) us = VS (V a) (ts.filter fun t => decide (t.1.sum < ((n + 1 : Nat) : Int))) := fun V hV => by
    rw [A.val V fun i hi => hV i (by omega), uval, ← VS_split]
    simp only [Int.natCast_add]
    rfl
  cases hu : us.isEmpty with
  | true =>
    rw [hu] at ez
    have u0 : us = [] := List.isEmpty_iff.mp hu
    refine ⟨acc, .val (syD a.nm us), s5, s6, s7, seq_nx e1 ?_, A.mem, fun t ht => by have := A.sz t ht; omega, A.ok, by have := A.len; omega, fun V hV => ?_⟩
    · unfold evalS
      rw [ez]; rfl
    · rw [← val0 V hV, u0]
      show _ = _ + 0
      grind
  | false =>
    rw [hu] at ez
    obtain ⟨row, hrow⟩ : ∃ row, row = (PT n).map (fstT us) := ⟨_, rfl⟩
    have rl : row.length = pn n := by rw [hrow, List.length_map]; rfl
    have rok : ∀ j, j < pn n → Ok (k + 2) (row.getD j 0) := fun j hj => by
      rw [hrow, List.getD_eq_getElem?_getD, List.getElem?_map, List.getElem?_eq_getElem (show j < (PT n).length from hj)]
      exact fst_ok uok
    obtain ⟨L, rfl⟩ : ∃ L', L = L' + 3 := ⟨L - 3, by omega⟩
    obtain ⟨row', v, c⟩ := conv_val hn a b rl rok (by omega) (L := L + 2) (by omega)
    have hp := pt_len5 n
    have hz : ((PT n).zip row').length = pn n := by rw [List.length_zip, c.len]; unfold pn; omega
    have mem : ∀ t ∈ (PT n).zip row', t.1 ∈ PT n ∧ Ok (k + 38) t.2 := fun t ht => by
      obtain ⟨h1, h2⟩ := List.of_mem_zip (show (t.1, t.2) ∈ _ from ht)
      refine ⟨h1, ?_⟩
      obtain ⟨i, hi, e⟩ := List.getElem_of_mem h2
      have := c.ok i (by rw [← c.len]; exact hi)
      rw [List.getD_eq_getElem?_getD, List.getElem?_eq_getElem hi, Option.getD_some, e] at this
      exact this.mono (by omega)
    refine ⟨acc ++ (PT n).zip row', .val (syD a.nm us), .val (.ptup ((PT n).map pD)), .val (rowD row'), s7, seq_nx e1 ?_, fun t ht => ?_, fun t ht => ?_, fun t ht => ?_, ?_, fun V hV => ?_⟩
    rotate_left
    · rcases List.mem_append.mp ht with h | h
      · exact A.mem t h
      · exact (pt_mem hn (mem t h).1).1
    · rcases List.mem_append.mp ht with h | h
      · have := A.sz t h; omega
      · have := (pt_mem hn (mem t h).1).2; omega
    · rcases List.mem_append.mp ht with h | h
      · exact A.ok t h
      · exact (mem t h).2
    · rw [List.length_append, hz]
      have := A.len
      unfold pn; omega
    · rw [VS_app, ← val0 V hV]
      congr 1
      rw [VS_zip _ _ _ c.len]
      have := c.val V (hV n (by omega))
      unfold sumV at this
      refine this.trans ?_
      rw [hrow]
      have e : (PT n).map (fstT us) = (PT n).map (coef us) := List.map_congr_left fun p _ => fst_coef (by rw [hus]; exact nf_nodup _)
      rw [e]
      refine (sumL_VC (V a) us (PT n)).trans (VC_allL _ ?_ us upt)
      exact of_decide_eq_true (List.all_eq_true.mp pt_nodup n (List.mem_range.mpr (by omega)))
    · rw [evalS, ez]
      simp only [Bool.not_false]
      refine seq_nx (e := [.val (syD a.nm ts), .val (.str b.nm), .val (.lst (acc.map tmD)), .val (.int (n : Int)), .val (syD a.nm us), .val (.ptup ((PT n).map pD)), s6, s7]) (asg_val ((call1_val rfl).trans (parts_val hn (by omega)))) ?_
      refine seq_nx (e := [.val (syD a.nm ts), .val (.str b.nm), .val (.lst (acc.map tmD)), .val (.int (n : Int)), .val (syD a.nm us), .val (.ptup ((PT n).map pD)), .val (rowD row'), s7]) (asg_val ?_) (asg_val (d := .lst ((acc ++ (PT n).zip row').map tmD)) ?_)
      · refine (call4_val (d := .int (n : Int)) (c := rowD row) (a := .str a.nm) (l := .str b.nm) rfl ?_ rfl rfl).trans v
        refine (bi1_val (lc_pt (n := n) (fun p => rtD (fstT us p)) rfl ?_)).trans ?_
        · intro p hp
          exact (call2_val (d := syD a.nm us) (c := pD p) rfl rfl).trans (mult_val L)
        · show some (D.tup _) = _
          rw [hrow]
          unfold rowD
          rw [List.map_map]; rfl
      · refine (bi2_val (d := .lst (acc.map tmD)) (c := .lst (((PT n).zip row').map tmD)) rfl ?_).trans ?_
        · refine (bi2_val (d := .ptup ((PT n).map pD)) (c := rowD row') rfl rfl).trans ?_
          show (if ((PT n).map pD).length = (row'.map rtD).length ∧ 0 < ((PT n).map pD).length then some (D.lst (zipD ((PT n).map pD) (row'.map rtD))) else none) = _
          have pos : 0 < (PT n).length := by
            have : ((List.range 5).all fun n => decide (0 < (PT n).length)) = true := by decide +kernel
            exact of_decide_eq_true (List.all_eq_true.mp this n (List.mem_range.mpr (by omega)))
          rw [if_pos (by rw [List.length_map, List.length_map, c.len]; exact ⟨rfl, pos⟩), zip_D]
        · show (if ((acc.map tmD).length + (((PT n).zip row').map tmD).length).ble 10000 = true then some (D.lst (acc.map tmD ++ ((PT n).zip row').map tmD)) else none) = _
          have := A.len
          rw [if_pos (Nat.ble_eq_true_of_le (by rw [List.length_map, List.length_map, hz]; unfold pn; omega)), List.map_append]
end FB

set_option Elab.async false
set_option linter.all false
set_option maxRecDepth 100000
set_option maxHeartbeats 1000000
/-! FBy5: in_base, end. -/
namespace FB
open PySem L2
/-- what in_base gives -/
structure IB (k : Nat) (a b : Bs) (ts ts' : List TM) : Prop where
  mem : ∀ t ∈ ts', t.1 ∈ P12
  sz : ∀ t ∈ ts', t.1.sum ≤ dg ts
  ok : ∀ t ∈ ts', Ok (k + 40) t.2
  len : ts'.length ≤ 12
  len7 : dg ts ≤ 3 → ts.length ≤ 7 → ts'.length ≤ 7
  val : ∀ V : Vl, (∀ i : Nat, (i : Int) ≤ dg ts → GoodN V i) → VS (V b) ts' = VS (V a) ts
theorem nf_len7 {ts : List TM} (h : ∀ t ∈ ts, t.1.sum ≤ 3) : (nfT ts).length ≤ 7 := by
  unfold nfT
  rw [List.length_map]
  have h1 : (P12.filter fun p => has ts p && !decide (coef ts p = 0)).length ≤ (P12.filter fun p => decide (p.sum ≤ 3)).length := by
    rw [← List.countP_eq_length_filter, ← List.countP_eq_length_filter]
    refine List.countP_mono_left fun p _ hp => ?_
    simp only [Bool.and_eq_true] at hp
    obtain ⟨t, h2, h3⟩ := has_mem hp.1
    have := h t h2
    rw [h3] at this
    exact decide_eq_true this
  exact Nat.le_trans h1 (by decide +kernel)
theorem ib_val {a b : Bs} {k : Nat} {ts : List TM} (hin : ∀ t ∈ ts, t.1 ∈ P12) (hok : ∀ t ∈ ts, Ok k t.2) (hlen : ts.length ≤ 12) (hk : k ≤ 90) {L : Nat} (hL : 38 ≤ L) : ∃ ts', Φ (L + 1) .in_base [syD a.nm ts, .str b.nm] = some (syD b.nm ts') ∧ IB k a b ts ts' := by
  have start : ∀ {d : D}, evalS (Φ L) i_in_base [.val (syD a.nm ts), .val (.str b.nm), .non, .non, .non, .non, .non, .non] = some (.rt d) → Φ (L + 1) .in_base [syD a.nm ts, .str b.nm] = some d := by
    intro d h
    rw [Φ_succ]
    show plain 2 (Φ L) i_in_base n_in_base _ = _
    unfold plain
    rw [if_pos (by rfl)]
    exact runS_rt h
  have e0 : evalS (Φ L) (.exp (.call .check (.cons (.cst (.int 0)) (.cons (.bi .tupD (.cons (.var 1) .nil)) .nil)))) [.val (syD a.nm ts), .val (.str b.nm), .non, .non, .non, .non, .non, .non] = some (.nx [.val (syD a.nm ts), .val (.str b.nm), .non, .non, .non, .non, .non, .non]) :=
    exp_val ((call2_val (d := .int 0) (c := .tup [.str b.nm]) rfl rfl).trans (check0_val b (by omega)))
  have eq : evalE (Φ L) (.bi .eq (.cons (.fld 1 0 (.var 0)) (.cons (.var 1) .nil))) [.val (syD a.nm ts), .val (.str b.nm), .non, .non, .non, .non, .non, .non] = some (.bl (decide (a = b))) := by
    refine (bi2_val (d := .str a.nm) (c := .str b.nm) rfl rfl).trans ?_
    rw [← nm_eq]; rfl
  by_cases hab : a = b
  · subst hab
    refine ⟨ts, start (seq_nx e0 (seq_rt ?_)), hin, fun t ht => dg_ge t ht, fun t ht => (hok t ht).mono (by omega), hlen, fun _ h => h, fun _ _ => rfl⟩
    rw [evalS, eq, decide_eq_true rfl]
    rfl
  rw [decide_eq_false hab] at eq
  have d4 : dg ts ≤ 4 := dg_le (by omega) fun t ht => (p12_pt (hin t ht)).2.2
  have d1 : -1 ≤ dg ts := by
    cases ts with
    | nil => exact Int.le_refl _
    | cons t r =>
      have h1 := dg_ge (ts := t :: r) t (List.mem_cons_self ..)
      have h2 := (p12_pt (hin t (List.mem_cons_self ..))).2.1
      omega
  obtain ⟨m, hm⟩ : ∃ m : Nat, (m : Int) = dg ts + 1 := ⟨(dg ts + 1).toNat, by omega⟩
  obtain ⟨env', h1, acc, s3, s4, s5, s6, s7, h2, A⟩ := forGo_rng (i := 3) (body := evalS (Φ L) ibB) (n := m)
    (fun n env => ∃ acc s3 s4 s5 s6 s7, env = [.val (syD a.nm ts), .val (.str b.nm), .val (.lst (acc.map tmD)), s3, s4, s5, s6, s7] ∧ Acc k n a b ts acc) (by
      rintro n env hn ⟨acc, s3, s4, s5, s6, s7, rfl, A⟩
      obtain ⟨acc', s4', s5', s6', s7', h1, A'⟩ := ib_step hL hin hok (by omega) (by omega) (show n ≤ 4 by omega) A (b := b) (s3 := s3) (s4 := s4) (s5 := s5) (s6 := s6) (s7 := s7)
      refine ⟨[.val (syD a.nm ts), .val (.str b.nm), .val (.lst (acc'.map tmD)), .val (.int (n : Int)), s4', s5', s6', s7'], ?_, acc', .val (.int (n : Int)), s4', s5', s6', s7', rfl, A'⟩
      rw [Int.zero_add]
      exact h1) (env := [.val (syD a.nm ts), .val (.str b.nm), .val (.lst []), .non, .non, .non, .non, .non]) ⟨[], _, _, _, _, _, rfl, ⟨fun _ h => (nomatch h), fun _ h => (nomatch h), fun _ h => (nomatch h), Nat.zero_le _, fun V hV => by
        have : ts.filter (fun t => decide (t.1.sum < ((0 : Nat) : Int))) = [] := by
          rw [List.filter_eq_nil_iff]
          intro t ht
          have := (p12_pt (hin t ht)).2.1
          simp; omega
        rw [this]; rfl⟩⟩
  have hlen2 := A.len
  have sv := sym_val L (by omega) (bs_in b) A.mem A.ok (show k + 38 + acc.length ≤ 190 by omega) (P := .lst (acc.map tmD)) (.inl rfl)
  have dv := degree_val L (by omega) (b := a.nm) hin (by omega)
  refine ⟨nfT acc, start (seq_nx e0 ?_), fun t ht => nf_in ht, fun t ht => ?_, fun t ht => (nf_ok A.ok (by omega) t ht).mono (by omega), nf_len _, fun h3 _ => nf_len7 fun t ht => by have := A.sz t ht; omega, fun V hV => ?_⟩
  · refine seq_nx (e := [.val (syD a.nm ts), .val (.str b.nm), .non, .non, .non, .non, .non, .non]) ?_ ?_
    · rw [evalS, eq]; rfl
    refine seq_nx (e := [.val (syD a.nm ts), .val (.str b.nm), .val (.lst []), .non, .non, .non, .non, .non]) rfl ?_
    refine seq_nx (e := [.val (syD a.nm ts), .val (.str b.nm), .val (.lst (acc.map tmD)), s3, s4, s5, s6, s7]) ?_ ?_
    · have ea : evalE (Φ L) (.cons (.bi .add (.cons (.call .s_degree (.cons (.var 0) .nil)) (.cons (.cst (.int 1)) .nil))) .nil) [.val (syD a.nm ts), .val (.str b.nm), .val (.lst []), .non, .non, .non, .non, .non] = some (.tup [.int (m : Int)]) := by
        have q : evalE (Φ L) (.bi .add (.cons (.call .s_degree (.cons (.var 0) .nil)) (.cons (.cst (.int 1)) .nil))) [.val (syD a.nm ts), .val (.str b.nm), .val (.lst []), .non, .non, .non, .non, .non] = some (.int (m : Int)) := by
          refine (bi2_val ((call1_val (d := syD a.nm ts) rfl).trans dv) rfl).trans ?_
          show some (D.int (dg ts + 1)) = _
          rw [hm]
        rw [evalE, q]
        rfl
      rw [for_val (x := .tup [.int (m : Int)]) ea (walk1 (by omega)) (by decide)]
      rw [h2] at h1
      exact h1
    · exact ret_val ((call2_val (d := .str b.nm) (c := .lst (acc.map tmD)) rfl rfl).trans sv)
  · obtain ⟨h3, h4, -, -⟩ := nf_mem ht
    obtain ⟨u, h5, h6⟩ := has_mem h4
    have := A.sz u h5
    rw [h6] at this
    omega
  · rw [VS_nf _ A.mem, A.val V fun i hi => hV i (by omega)]
    congr 1
    rw [List.filter_eq_self]
    intro t ht
    have := dg_ge t ht
    simp; omega
end FB

set_option Elab.async false
set_option linter.all false
set_option maxRecDepth 100000
set_option maxHeartbeats 1000000
/-! FBy6: multiplied. -/
namespace FB
open PySem L2
/-- the parts of both, the greatest first -/
def jn (a b : List Int) : List Int := (sortA (a ++ b)).reverse
theorem jn_tb : (P12.all fun a => P12.all fun b => if a.sum + b.sum ≤ 4 then tb .joined [pD a, pD b] (pD (jn a b)) && P12.contains (jn a b) && decide ((jn a b).sum = a.sum + b.sum) else true) = true := by decide +kernel
theorem jn_val {a b : List Int} (ha : a ∈ P12) (hb : b ∈ P12) (h : a.sum + b.sum ≤ 4) : (∀ {L : Nat}, 30 ≤ L → Φ L .joined [pD a, pD b] = some (pD (jn a b))) ∧ jn a b ∈ P12 ∧ (jn a b).sum = a.sum + b.sum := by
  have q := List.all_eq_true.mp (List.all_eq_true.mp jn_tb a ha) b hb
  rw [if_pos h] at q
  simp only [Bool.and_eq_true, decide_eq_true_eq, List.contains_iff_mem] at q
  exact ⟨fun hL => tb_eq q.1.1 hL, q.1.2, q.2⟩
theorem insA_prod (W : Int → Rat) (x : Int) : ∀ l : List Int, ((insA x l).map W).prod = W x * (l.map W).prod
  | [] => rfl
  | y :: r => by
    unfold insA
    split
    · rfl
    · rw [List.map_cons, List.prod_cons, insA_prod W x r, List.map_cons, List.prod_cons]; grind
theorem sortA_prod (W : Int → Rat) : ∀ l : List Int, ((sortA l).map W).prod = (l.map W).prod
  | [] => rfl
  | x :: r => by unfold sortA; rw [insA_prod, sortA_prod W r]; rfl
theorem prod_app (a b : List Rat) : (a ++ b).prod = a.prod * b.prod := by
  induction a with
  | nil => show b.prod = 1 * b.prod; rw [Rat.one_mul]
  | cons x r ih => show x * (r ++ b).prod = x * r.prod * _; rw [ih, Rat.mul_assoc]
theorem prod_rev : ∀ a : List Rat, a.reverse.prod = a.prod
  | [] => rfl
  | x :: r => by
    rw [List.reverse_cons, prod_app, prod_rev r]
    show r.prod * (x * 1) = x * r.prod
    grind
/-- products of values -/
def PW (W : Int → Rat) (p : List Int) : Rat := (p.map W).prod
theorem PW_jn (W : Int → Rat) (a b : List Int) : PW W (jn a b) = PW W a * PW W b := by
  unfold PW jn
  rw [List.map_reverse, prod_rev, sortA_prod, List.map_append, prod_app]
def prodT (ls rs : List TM) : List TM := ls.flatMap fun a => rs.map fun b => (jn a.1 b.1, a.2 * b.2)
theorem VS_row (W : Int → Rat) (a : TM) : ∀ rs : List TM, VS (PW W) (rs.map fun b => (jn a.1 b.1, a.2 * b.2)) = a.2 * PW W a.1 * VS (PW W) rs
  | [] => by show (0 : Rat) = _ * 0; grind
  | b :: r => by
    rw [List.map_cons]
    rw [VS_cons, VS_cons, VS_row W a r]
    show a.2 * b.2 * PW W (jn a.1 b.1) + _ = _
    rw [PW_jn]
    generalize VS (PW W) r = A
    grind
theorem VS_prod (W : Int → Rat) (rs : List TM) : ∀ ls : List TM, VS (PW W) (prodT ls rs) = VS (PW W) ls * VS (PW W) rs
  | [] => by show (0 : Rat) = 0 * _; grind
  | a :: r => by
    have ih := VS_prod W rs r
    unfold prodT at ih ⊢
    rw [List.flatMap_cons, VS_app, ih, VS_row, VS_cons]
    generalize VS (PW W) rs = A, VS (PW W) r = B
    grind
theorem prodT_len (ls rs : List TM) : (prodT ls rs).length = ls.length * rs.length := by
  unfold prodT
  induction ls with
  | nil => simp
  | cons a r ih => rw [List.flatMap_cons, List.length_append, ih, List.length_map, List.length_cons, Nat.add_mul]; omega
theorem prodT_mem {ls rs : List TM} {t : TM} (h : t ∈ prodT ls rs) : ∃ a ∈ ls, ∃ b ∈ rs, t = (jn a.1 b.1, a.2 * b.2) := by
  obtain ⟨a, ha, h2⟩ := List.mem_flatMap.mp h
  obtain ⟨b, hb, rfl⟩ := List.mem_map.mp h2
  exact ⟨a, ha, b, hb, rfl⟩
def muB : IS := (.app 2 (.bi .tupD (.cons (.call .joined (.cons (.var 3) (.cons (.var 5) .nil))) (.cons (.call .r_mul (.cons (.var 4) (.cons (.var 6) .nil))) .nil))))
theorem mu_inner {L : Nat} (hL : 31 ≤ L) {a : TM} {rs : List TM} {k l : Nat} (ha : a.1 ∈ P12) (hoa : Ok k a.2) (hr : ∀ b ∈ rs, b.1 ∈ P12 ∧ a.1.sum + b.1.sum ≤ 4) (hor : ∀ b ∈ rs, Ok l b.2) (hk : k ≤ 190) (hl : l ≤ 190) {s0 s1 : Sl} {acc : List TM} (hacc : acc.length + rs.length ≤ 9000) {s5 s6 : Sl} :
    ∃ s5' s6', forGo (evalS (Φ L) muB) (.pr 5 6) (rs.map tmD) [s0, s1, .lst (acc.map tmD), .val (pD a.1), .val (rtD a.2), s5, s6] = some (.nx [s0, s1, .lst ((acc ++ rs.map fun b => (jn a.1 b.1, a.2 * b.2)).map tmD), .val (pD a.1), .val (rtD a.2), s5', s6']) := by
  obtain ⟨env', h1, x, y, h2⟩ := forGo_list (l := rs.map tmD) (tg := .pr 5 6) (body := evalS (Φ L) muB)
    (fun n env => ∃ s5' s6', env = [s0, s1, .lst ((acc ++ (rs.take n).map fun b => (jn a.1 b.1, a.2 * b.2)).map tmD), .val (pD a.1), .val (rtD a.2), s5', s6']) (by
      rintro n d env hd ⟨x, y, rfl⟩
      rw [List.getElem?_map] at hd
      rcases ht : rs[n]? with _ | b
      · rw [ht] at hd; cases hd
      rw [ht] at hd
      cases hd
      have hmem : b ∈ rs := List.mem_of_getElem? ht
      have tk : rs.take (n + 1) = rs.take n ++ [b] := by
        rw [List.take_succ, ht]; rfl
      obtain ⟨L, rfl⟩ : ∃ L', L = L' + 2 := ⟨L - 2, by omega⟩
      have j := (jn_val ha (hr b hmem).1 (hr b hmem).2).1 (L := L + 2) (by omega)
      have m := r_mul_val L (hoa.sm (by omega)) ((hor b hmem).sm (by omega))
      refine ⟨[s0, s1, .lst ((acc ++ (rs.take n).map fun b => (jn a.1 b.1, a.2 * b.2)).map tmD), .val (pD a.1), .val (rtD a.2), .val (pD b.1), .val (rtD b.2)], [s0, s1, .lst ((acc ++ (rs.take (n + 1)).map fun b => (jn a.1 b.1, a.2 * b.2)).map tmD), .val (pD a.1), .val (rtD a.2), .val (pD b.1), .val (rtD b.2)], rfl, ?_, _, _, rfl⟩
      generalize hg : acc ++ (rs.take n).map (fun b => (jn a.1 b.1, a.2 * b.2)) = cur
      have cl : cur.length ≤ 9000 := by
        rw [← hg, List.length_append, List.length_map, List.length_take]; omega
      have tk2 : acc ++ (rs.take (n + 1)).map (fun b => (jn a.1 b.1, a.2 * b.2)) = cur ++ [(jn a.1 b.1, a.2 * b.2)] := by
        rw [tk, List.map_append, ← List.append_assoc, hg]; rfl
      rw [tk2]
      have e : evalE (Φ (L + 2)) (.bi .tupD (.cons (.call .joined (.cons (.var 3) (.cons (.var 5) .nil))) (.cons (.call .r_mul (.cons (.var 4) (.cons (.var 6) .nil))) .nil))) [s0, s1, .lst (cur.map tmD), .val (pD a.1), .val (rtD a.2), .val (pD b.1), .val (rtD b.2)] = some (tmD (jn a.1 b.1, a.2 * b.2)) :=
        (bi2_val ((call2_val rfl rfl).trans j) ((call2_val rfl rfl).trans m)).trans rfl
      unfold muB evalS
      rw [e]
      show (if (cur.map tmD).length.ble 10000 = true then some _ else none) = _
      rw [if_pos (Nat.ble_eq_true_of_le (by rw [List.length_map]; omega)), List.map_append]
      rfl) (rs.map tmD) 0 [s0, s1, .lst (acc.map tmD), .val (pD a.1), .val (rtD a.2), s5, s6] (by simp) rfl ⟨s5, s6, by simp⟩
  rw [List.length_map, List.take_length] at h2
  exact ⟨x, y, by rw [h1, h2]⟩
theorem mu_outer {L : Nat} (hL : 31 ≤ L) {ls rs : List TM} {k l : Nat} (hl : ∀ a ∈ ls, a.1 ∈ P12) (hol : ∀ a ∈ ls, Ok k a.2) (hr : ∀ a ∈ ls, ∀ b ∈ rs, b.1 ∈ P12 ∧ a.1.sum + b.1.sum ≤ 4) (hor : ∀ b ∈ rs, Ok l b.2) (hk : k ≤ 190) (hl2 : l ≤ 190) (hn : ls.length * rs.length ≤ 150) {s0 : Sl} {s3 s4 s5 s6 : Sl} :
    ∃ s3' s4' s5' s6', forGo (evalS (Φ L) (.forE 0 (.var 1) (.pr 5 6) muB)) (.pr 3 4) (ls.map tmD) [s0, .val (.lst (rs.map tmD)), .lst [], s3, s4, s5, s6] = some (.nx [s0, .val (.lst (rs.map tmD)), .lst ((prodT ls rs).map tmD), s3', s4', s5', s6']) := by
  obtain ⟨env', h1, x, y, z, w, h2⟩ := forGo_list (l := ls.map tmD) (tg := .pr 3 4) (body := evalS (Φ L) (.forE 0 (.var 1) (.pr 5 6) muB))
    (fun n env => ∃ s3' s4' s5' s6', env = [s0, .val (.lst (rs.map tmD)), .lst ((prodT (ls.take n) rs).map tmD), s3', s4', s5', s6']) (by
      rintro n d env hd ⟨x, y, z, w, rfl⟩
      rw [List.getElem?_map] at hd
      rcases ht : ls[n]? with _ | a
      · rw [ht] at hd; cases hd
      rw [ht] at hd
      cases hd
      have hmem : a ∈ ls := List.mem_of_getElem? ht
      have tk : ls.take (n + 1) = ls.take n ++ [a] := by
        rw [List.take_succ, ht]; rfl
      have hlt : n < ls.length := (List.getElem?_eq_some_iff.mp ht).1
      have b1 : (prodT (ls.take n) rs).length + rs.length ≤ 9000 := by
        rw [prodT_len, List.length_take]
        have : (min n ls.length + 1) * rs.length ≤ ls.length * rs.length := Nat.mul_le_mul_right _ (by omega)
        rw [Nat.add_mul] at this
        omega
      obtain ⟨z', w', h⟩ := mu_inner hL (hl a hmem) (hol a hmem) (hr a hmem) hor hk hl2 b1 (s0 := s0) (s1 := .val (.lst (rs.map tmD))) (s5 := z) (s6 := w)
      refine ⟨[s0, .val (.lst (rs.map tmD)), .lst ((prodT (ls.take n) rs).map tmD), .val (pD a.1), .val (rtD a.2), z, w], _, rfl, ?_, .val (pD a.1), .val (rtD a.2), z', w', rfl⟩
      rw [for_val (x := .lst (rs.map tmD)) rfl rfl (by decide), h, tk]
      unfold prodT
      rw [List.flatMap_append]
      simp) (ls.map tmD) 0 [s0, .val (.lst (rs.map tmD)), .lst [], s3, s4, s5, s6] (by simp) rfl ⟨s3, s4, s5, s6, rfl⟩
  rw [List.length_map, List.take_length] at h2
  exact ⟨x, y, z, w, by rw [h1, h2]⟩
theorem mul_val {L : Nat} (hL : 35 ≤ L) {ls rs : List TM} {k l : Nat} (hl : ∀ a ∈ ls, a.1 ∈ P12) (hol : ∀ a ∈ ls, Ok k a.2) (hr : ∀ a ∈ ls, ∀ b ∈ rs, b.1 ∈ P12 ∧ a.1.sum + b.1.sum ≤ 4) (hor : ∀ b ∈ rs, Ok l b.2) (hk : k + l ≤ 100) (hn : ls.length * rs.length ≤ 60) : Φ (L + 1) .multiplied [.lst (ls.map tmD), .lst (rs.map tmD)] = some (.lst ((nfT (prodT ls rs)).map tmD)) := by
  obtain ⟨x, y, z, w, h⟩ := mu_outer (L := L) (by omega) hl hol hr hor (by omega) (by omega) (show ls.length * rs.length ≤ 150 by omega) (s0 := .val (.lst (ls.map tmD))) (s3 := .non) (s4 := .non) (s5 := .non) (s6 := .non)
  have sv := sym_val L (by omega) (bs_in .p) (k := k + l) (ts := prodT ls rs) (fun t ht => by
    obtain ⟨a, ha, b, hb, rfl⟩ := prodT_mem ht
    exact (jn_val (hl a ha) (hr a ha b hb).1 (hr a ha b hb).2).2.1) (fun t ht => by
    obtain ⟨a, ha, b, hb, rfl⟩ := prodT_mem ht
    exact (hol a ha).mul (hor b hb)) (by rw [prodT_len]; omega) (P := .lst ((prodT ls rs).map tmD)) (.inl rfl)
  rw [Φ_succ]
  show plain 2 (Φ L) i_multiplied n_multiplied _ = _
  unfold plain
  rw [if_pos (by rfl)]
  refine runS_rt ?_
  show evalS (Φ L) i_multiplied [.val (.lst (ls.map tmD)), .val (.lst (rs.map tmD)), .non, .non, .non, .non, .non] = _
  refine seq_nx (e := [.val (.lst (ls.map tmD)), .val (.lst (rs.map tmD)), .lst [], .non, .non, .non, .non]) rfl ?_
  refine seq_nx (e := [.val (.lst (ls.map tmD)), .val (.lst (rs.map tmD)), .lst ((prodT ls rs).map tmD), x, y, z, w]) ?_ ?_
  · rw [for_val (x := .lst (ls.map tmD)) rfl rfl (by decide)]
    exact h
  refine seq_nx (e := [.val (.lst (ls.map tmD)), .val (.lst (rs.map tmD)), .val (.lst ((prodT ls rs).map tmD)), x, y, z, w]) rfl (ret_val ?_)
  have e1 : evalE (Φ L) (.call .symmetric (.cons (.cst (.str "p")) (.cons (.var 2) .nil))) [.val (.lst (ls.map tmD)), .val (.lst (rs.map tmD)), .val (.lst ((prodT ls rs).map tmD)), x, y, z, w] = some (syD Bs.p.nm (nfT (prodT ls rs))) := (call2_val (d := .str Bs.p.nm) (c := .lst ((prodT ls rs).map tmD)) rfl rfl).trans sv
  have e2 : evalE (Φ L) (.fld 1 1 (.call .symmetric (.cons (.cst (.str "p")) (.cons (.var 2) .nil)))) [.val (.lst (ls.map tmD)), .val (.lst (rs.map tmD)), .val (.lst ((prodT ls rs).map tmD)), x, y, z, w] = some (.tup ((nfT (prodT ls rs)).map tmD)) := by
    rw [evalE, e1]; rfl
  exact (bi1_val e2).trans rfl
end FB

set_option Elab.async false
set_option linter.all false
set_option maxRecDepth 100000
set_option maxHeartbeats 1000000
/-! FBy7: put. -/
namespace FB
open PySem L2
/-- every own part k times -/
def strT (k : Int) (ins : List TM) : List TM := ins.map fun t => (t.1.map (fun j => k * j), t.2)
theorem small24 {i : Int} (h : i.natAbs ≤ 24) : small i = true := small_iff.mpr (Nat.lt_of_le_of_lt h (by decide +kernel))
theorem p12_ent : (P12.all fun p => p.all fun j => decide (1 ≤ j) && decide (j ≤ 4)) = true := by decide +kernel
theorem p12_in {p : List Int} (hp : p ∈ P12) {j : Int} (hj : j ∈ p) : 1 ≤ j ∧ j ≤ 4 := by
  have := List.all_eq_true.mp (List.all_eq_true.mp p12_ent p hp) j hj
  simpa using this
theorem str_tb : (P12.all fun p => [(1 : Int), 2, 3, 4].all fun k => if k * p.sum ≤ 4 then P12.contains (p.map fun j => k * j) && decide ((p.map fun j => k * j).sum = k * p.sum) else true) = true := by decide +kernel
theorem str_in {p : List Int} (hp : p ∈ P12) {k : Int} (h1 : 1 ≤ k) (h4 : k ≤ 4) (h : k * p.sum ≤ 4) : p.map (fun j => k * j) ∈ P12 ∧ (p.map fun j => k * j).sum = k * p.sum := by
  have hk : k ∈ [(1 : Int), 2, 3, 4] := by
    have : k = 1 ∨ k = 2 ∨ k = 3 ∨ k = 4 := by omega
    rcases this with rfl | rfl | rfl | rfl <;> decide
  have := List.all_eq_true.mp (List.all_eq_true.mp str_tb p hp) k hk
  rw [if_pos h] at this
  simpa using this
def stE : IE := (.lc 0 (.fld 1 1 (.var 2)) (.pr 9 10) (.cst (.bl true)) (.bi .tupD (.cons (.bi .tupOf (.cons (.lc 0 (.var 9) (.nm 11) (.cst (.bl true)) (.bi .mul (.cons (.var 7) (.cons (.var 11) .nil))) [11]) .nil)) (.cons (.var 10) .nil))) [9, 10])
theorem stE_val {Φ : Fn → List D → Option D} {k : Int} (h1 : 1 ≤ k) (h4 : k ≤ 4) {ins : List TM} (hin : ∀ t ∈ ins, t.1 ∈ P12) (hl : ins.length ≤ 20) {s0 s1 s3 s4 s5 s6 s8 s9 s10 s11 : Sl} {bp : Str} : evalE Φ stE [s0, s1, .val (syD bp ins), s3, s4, s5, s6, .val (.int k), s8, s9, s10, s11] = some (.lst ((strT k ins).map tmD)) := by
  have lc := lcGo_fm (fT := evalE Φ (.cst (.bl true))) (fE := evalE Φ (.bi .tupD (.cons (.bi .tupOf (.cons (.lc 0 (.var 9) (.nm 11) (.cst (.bl true)) (.bi .mul (.cons (.var 7) (.cons (.var 11) .nil))) [11]) .nil)) (.cons (.var 10) .nil)))) (tg := .pr 9 10) (env := [s0, s1, .val (syD bp ins), s3, s4, s5, s6, .val (.int k), s8, .non, .non, s11]) tmD (fun _ => true) (fun t => tmD (t.1.map (fun j => k * j), t.2)) ins (by
    intro t ht
    refine ⟨[s0, s1, .val (syD bp ins), s3, s4, s5, s6, .val (.int k), s8, .val (pD t.1), .val (rtD t.2), s11], rfl, rfl, fun _ => ?_⟩
    have hp := hin t ht
    have li := lcGo_fm (fT := evalE Φ (.cst (.bl true))) (fE := evalE Φ (.bi .mul (.cons (.var 7) (.cons (.var 11) .nil)))) (tg := .nm 11) (env := [s0, s1, .val (syD bp ins), s3, s4, s5, s6, .val (.int k), s8, .val (pD t.1), .val (rtD t.2), .non]) D.int (fun _ => true) (fun j => .int (k * j)) t.1 (by
      intro j hj
      refine ⟨_, rfl, rfl, fun _ => ?_⟩
      obtain ⟨j1, j2⟩ := p12_in hp hj
      refine (bi2_val (d := .int k) (c := .int j) rfl rfl).trans ?_
      show (if (small k && small j) = true then some (D.int (k * j)) else none) = _
      rw [small24 (by omega), small24 (by omega)]; rfl)
    rw [List.filter_eq_self.mpr (fun _ _ => rfl)] at li
    have pl : t.1.length ≤ 12 := by
      have : (P12.all fun p => decide (p.length ≤ 12)) = true := by decide +kernel
      exact of_decide_eq_true (List.all_eq_true.mp this t.1 hp)
    have e1 : evalE Φ (.lc 0 (.var 9) (.nm 11) (.cst (.bl true)) (.bi .mul (.cons (.var 7) (.cons (.var 11) .nil))) [11]) [s0, s1, .val (syD bp ins), s3, s4, s5, s6, .val (.int k), s8, .val (pD t.1), .val (rtD t.2), s11] = some (.lst (t.1.map fun j => .int (k * j))) :=
      lc_abs (x := pD t.1) (by decide) rfl rfl li (Nat.ble_eq_true_of_le (by rw [List.length_map]; omega))
    refine (bi2_val ((bi1_val e1).trans rfl) rfl).trans ?_
    show some (D.tup [.tup (t.1.map fun j => D.int (k * j)), rtD t.2]) = _
    unfold tmD pD
    rw [List.map_map]; rfl)
  rw [List.filter_eq_self.mpr (fun _ _ => rfl)] at lc
  have q := lc_abs (Φ := Φ) (k := 0) (arg := .fld 1 1 (.var 2)) (x := .tup (ins.map tmD)) (vs := [9, 10]) (env := [s0, s1, .val (syD bp ins), s3, s4, s5, s6, .val (.int k), s8, s9, s10, s11]) (by decide) rfl rfl lc (Nat.ble_eq_true_of_le (by rw [List.length_map]; omega))
  refine q.trans ?_
  unfold strT
  rw [List.map_map]; rfl
/-- what g is, in power sums -/
structure InsOk (G : Int) (ins : List TM) : Prop where
  mem : ∀ t ∈ ins, t.1 ∈ P12
  sz : ∀ t ∈ ins, t.1.sum ≤ G
  ok : ∀ t ∈ ins, Ok 2 t.2
  len : ins.length ≤ 3
  g1 : 1 ≤ G
/-- a product under way -/
structure Tot (k : Nat) (m : Int) (c : (Int → Rat) → Rat) (acc : List TM) : Prop where
  mem : ∀ t ∈ acc, t.1 ∈ P12
  sz : ∀ t ∈ acc, t.1.sum ≤ m
  ok : ∀ t ∈ acc, Ok k t.2
  len : acc.length ≤ 12
  m0 : 0 ≤ m
  val : ∀ W, VS (PW W) acc = c W
def tuB : IS := (.seq (.newL 8 stE) (.seq (.frz 8) (.asg 6 (.call .multiplied (.cons (.var 6) (.cons (.var 8) .nil))))))
theorem tu_step {L : Nat} (hL : 36 ≤ L) {G : Int} {ins : List TM} (I : InsOk G ins) {k : Nat} {m : Int} {c : (Int → Rat) → Rat} {acc : List TM} (A : Tot k m c acc) (hk : k ≤ 90) {x : Int} (hx : 1 ≤ x) (hm : m + x * G ≤ 4) {s0 s1 s3 s4 s5 s8 s9 s10 s11 : Sl} {bp : Str} :
    evalS (Φ L) tuB [s0, s1, .val (syD bp ins), s3, s4, s5, .val (.lst (acc.map tmD)), .val (.int x), s8, s9, s10, s11] = some (.nx [s0, s1, .val (syD bp ins), s3, s4, s5, .val (.lst ((nfT (prodT acc (strT x ins))).map tmD)), .val (.int x), .val (.lst ((strT x ins).map tmD)), s9, s10, s11]) ∧ Tot (k + 4) (m + x * G) (fun W => c W * VS (PW W) (strT x ins)) (nfT (prodT acc (strT x ins))) := by
  have m0 := A.m0
  have g1 := I.g1
  have xG : x * 1 ≤ x * G := Int.mul_le_mul_of_nonneg_left g1 (by omega)
  have x4 : x ≤ 4 := by omega
  have sG : ∀ t ∈ ins, x * t.1.sum ≤ x * G := fun t ht => Int.mul_le_mul_of_nonneg_left (I.sz t ht) (by omega)
  have smem : ∀ b ∈ strT x ins, b.1 ∈ P12 ∧ b.1.sum ≤ x * G ∧ Ok 2 b.2 := fun b hb => by
    obtain ⟨t, ht, rfl⟩ := List.mem_map.mp hb
    have h1 := sG t ht
    obtain ⟨q1, q2⟩ := str_in (I.mem t ht) hx x4 (by omega)
    refine ⟨q1, ?_, I.ok t ht⟩
    show (t.1.map fun j => x * j).sum ≤ _
    omega
  have sl : (strT x ins).length ≤ 3 := by unfold strT; rw [List.length_map]; exact I.len
  have pl : acc.length * (strT x ins).length ≤ 36 := Nat.le_trans (Nat.mul_le_mul A.len sl) (by decide)
  have hr : ∀ a ∈ acc, ∀ b ∈ strT x ins, b.1 ∈ P12 ∧ a.1.sum + b.1.sum ≤ 4 := fun a ha b hb => by
    obtain ⟨q1, q2, -⟩ := smem b hb
    have := A.sz a ha
    exact ⟨q1, by omega⟩
  obtain ⟨L, rfl⟩ : ∃ L', L = L' + 1 := ⟨L - 1, by omega⟩
  have mv := mul_val (L := L) (by omega) A.mem A.ok hr (fun b hb => (smem b hb).2.2) (by omega) (by omega)
  have pmem : ∀ t ∈ prodT acc (strT x ins), t.1 ∈ P12 ∧ t.1.sum ≤ m + x * G ∧ Ok (k + 2) t.2 := fun t ht => by
    obtain ⟨a, ha, b, hb, rfl⟩ := prodT_mem ht
    obtain ⟨-, q1, q2⟩ := jn_val (A.mem a ha) (hr a ha b hb).1 (hr a ha b hb).2
    have h1 := A.sz a ha
    have h2 := (smem b hb).2.1
    refine ⟨q1, ?_, (A.ok a ha).mul (smem b hb).2.2⟩
    show (jn a.1 b.1).sum ≤ _
    omega
  refine ⟨?_, fun t ht => nf_in ht, fun t ht => ?_, nf_ok (fun t ht => (pmem t ht).2.2) (by rw [prodT_len]; omega), nf_len _, by omega, fun W => ?_⟩
  · refine seq_nx (e := [s0, s1, .val (syD bp ins), s3, s4, s5, .val (.lst (acc.map tmD)), .val (.int x), .lst ((strT x ins).map tmD), s9, s10, s11]) ?_ ?_
    · have := stE_val (Φ := Φ (L + 1)) hx x4 I.mem (show ins.length ≤ 20 by have := I.len; omega) (s0 := s0) (s1 := s1) (s3 := s3) (s4 := s4) (s5 := s5) (s6 := .val (.lst (acc.map tmD))) (s8 := s8) (s9 := s9) (s10 := s10) (s11 := s11) (bp := bp)
      unfold evalS
      rw [this]; rfl
    refine seq_nx (e := [s0, s1, .val (syD bp ins), s3, s4, s5, .val (.lst (acc.map tmD)), .val (.int x), .val (.lst ((strT x ins).map tmD)), s9, s10, s11]) rfl ?_
    exact asg_val ((call2_val rfl rfl).trans mv)
  · obtain ⟨h1, h2, -, -⟩ := nf_mem ht
    obtain ⟨u, h3, h4⟩ := has_mem h2
    have := (pmem u h3).2.1
    rwa [h4] at this
  · rw [VS_nf _ fun t ht => (pmem t ht).1, VS_prod, A.val]
theorem tu_loop {L : Nat} (hL : 36 ≤ L) {G : Int} {ins : List TM} (I : InsOk G ins) {s0 s1 s3 s4 s5 : Sl} {bp : Str} : ∀ (p : List Int) {k : Nat} {m : Int} {c : (Int → Rat) → Rat} {acc : List TM}, Tot k m c acc → k + 4 * p.length ≤ 90 → (∀ j ∈ p, 1 ≤ j) → m + p.sum * G ≤ 4 → ∀ {s7 s8 s9 s10 s11 : Sl},
    ∃ acc' s7' s8' s9' s10' s11', forGo (evalS (Φ L) tuB) (.nm 7) (p.map D.int) [s0, s1, .val (syD bp ins), s3, s4, s5, .val (.lst (acc.map tmD)), s7, s8, s9, s10, s11] = some (.nx [s0, s1, .val (syD bp ins), s3, s4, s5, .val (.lst (acc'.map tmD)), s7', s8', s9', s10', s11']) ∧ Tot (k + 4 * p.length) (m + p.sum * G) (fun W => c W * (p.map fun x => VS (PW W) (strT x ins)).prod) acc'
  | [], k, m, c, acc, A, hk, hj, hm, s7, s8, s9, s10, s11 => by
    refine ⟨acc, s7, s8, s9, s10, s11, rfl, A.mem, fun t ht => ?_, A.ok, A.len, ?_, fun W => ?_⟩
    · have := A.sz t ht
      simp; omega
    · have := A.m0
      simp; omega
    · rw [A.val]
      show _ = c W * 1
      rw [Rat.mul_one]
  | x :: p, k, m, c, acc, A, hk, hj, hm, s7, s8, s9, s10, s11 => by
    have hx := hj x (List.mem_cons_self ..)
    have g1 := I.g1
    rw [List.sum_cons, Int.add_mul] at hm
    have ps : 0 ≤ p.sum := by
      have : ∀ l : List Int, (∀ j ∈ l, 1 ≤ j) → 0 ≤ l.sum := by
        intro l
        induction l with
        | nil => intro _; exact Int.le_refl _
        | cons y r ih =>
          intro h
          have h1 := ih fun j hj => h j (List.mem_cons_of_mem _ hj)
          have h2 := h y (List.mem_cons_self ..)
          rw [List.sum_cons]; omega
      exact this p fun j h => hj j (List.mem_cons_of_mem _ h)
    have pG : 0 ≤ p.sum * G := Int.mul_nonneg ps (by omega)
    rw [List.length_cons] at hk
    obtain ⟨e1, A1⟩ := tu_step hL I A (by omega) hx (by omega) (s0 := s0) (s1 := s1) (s3 := s3) (s4 := s4) (s5 := s5) (s8 := s8) (s9 := s9) (s10 := s10) (s11 := s11) (bp := bp)
    obtain ⟨acc', s7', s8', s9', s10', s11', e2, A2⟩ := tu_loop hL I (s0 := s0) (s1 := s1) (s3 := s3) (s4 := s4) (s5 := s5) (bp := bp) p A1 (by omega) (fun j h => hj j (List.mem_cons_of_mem _ h)) (by omega) (s7 := .val (.int x)) (s8 := .val (.lst ((strT x ins).map tmD))) (s9 := s9) (s10 := s10) (s11 := s11)
    refine ⟨acc', s7', s8', s9', s10', s11', ?_, A2.mem, fun t ht => ?_, fun t ht => (A2.ok t ht).mono (by rw [List.length_cons]; omega), A2.len, ?_, fun W => ?_⟩
    · rw [List.map_cons]
      unfold forGo
      have : tgSet (.nm 7) (.int x) [s0, s1, .val (syD bp ins), s3, s4, s5, .val (.lst (acc.map tmD)), s7, s8, s9, s10, s11] = some [s0, s1, .val (syD bp ins), s3, s4, s5, .val (.lst (acc.map tmD)), .val (.int x), s8, s9, s10, s11] := rfl
      rw [this]
      simp only
      rw [e1]
      exact e2
    · have := A2.sz t ht
      rw [List.sum_cons, Int.add_mul]; omega
    · have := A2.m0
      rw [List.sum_cons, Int.add_mul]; omega
    · rw [A2.val, List.map_cons, List.prod_cons, Rat.mul_assoc]
end FB

set_option Elab.async false
set_option linter.all false
set_option maxRecDepth 100000
set_option maxHeartbeats 1000000
/-! FBy8: put. -/
namespace FB
open PySem L2
theorem rt_ok {k : Nat} {q : Rat} (h : Ok k q) : Tot k 0 (fun _ => q) [([], q)] := by
  refine ⟨fun t ht => ?_, fun t ht => ?_, fun t ht => ?_, by simp, Int.le_refl _, fun W => ?_⟩
  · rw [List.mem_singleton.mp ht]; show ([] : List Int) ∈ P12; decide
  · rw [List.mem_singleton.mp ht]; show ([] : List Int).sum ≤ 0; decide
  · rw [List.mem_singleton.mp ht]; exact h
  · show q * 1 + 0 = q
    grind
def toB : IS := (.seq (.asg 6 (.bi .lstD (.cons (.bi .tupD (.cons (.bi .tupD .nil) (.cons (.var 5) .nil))) .nil))) (.seq (.forE 0 (.var 4) (.nm 7) tuB) (.asg 3 (.bi .add (.cons (.var 3) (.cons (.var 6) .nil))))))
def PS (W : Int → Rat) (ins : List TM) (p : List Int) : Rat := (p.map fun x => VS (PW W) (strT x ins)).prod
theorem p12_len4 {p : List Int} (hp : p ∈ P12) : p.length ≤ 4 := by
  have : (P12.all fun p => decide (p.length ≤ 4)) = true := by decide +kernel
  exact of_decide_eq_true (List.all_eq_true.mp this p hp)
theorem to_loop {L : Nat} (hL : 36 ≤ L) {G : Int} {ins : List TM} (I : InsOk G ins) {fp : List TM} {k : Nat} (hf : ∀ t ∈ fp, t.1 ∈ P12 ∧ t.1.sum * G ≤ 4 ∧ Ok k t.2) (hk : k ≤ 60) (hn : fp.length ≤ 7) {s0 s1 : Sl} {bp : Str} {s4 s5 s6 s7 s8 s9 s10 s11 : Sl} :
    ∃ acc s4' s5' s6' s7' s8' s9' s10' s11', forGo (evalS (Φ L) toB) (.pr 4 5) (fp.map tmD) [s0, s1, .val (syD bp ins), .val (.lst []), s4, s5, s6, s7, s8, s9, s10, s11] = some (.nx [s0, s1, .val (syD bp ins), .val (.lst (acc.map tmD)), s4', s5', s6', s7', s8', s9', s10', s11']) ∧ (∀ t ∈ acc, t.1 ∈ P12 ∧ Ok (k + 16) t.2) ∧ acc.length ≤ 12 * fp.length ∧ ∀ W, VS (PW W) acc = VS (PS W ins) fp := by
  obtain ⟨env', h1, acc, x4, x5, x6, x7, x8, x9, x10, x11, h2, h3, h4, h5⟩ := forGo_list (l := fp.map tmD) (tg := .pr 4 5) (body := evalS (Φ L) toB)
    (fun n env => ∃ acc s4' s5' s6' s7' s8' s9' s10' s11', env = [s0, s1, .val (syD bp ins), .val (.lst (acc.map tmD)), s4', s5', s6', s7', s8', s9', s10', s11'] ∧ (∀ t ∈ acc, t.1 ∈ P12 ∧ Ok (k + 16) t.2) ∧ acc.length ≤ 12 * n ∧ ∀ W, VS (PW W) acc = VS (PS W ins) (fp.take n)) (by
      rintro n d env hd ⟨acc, x4, x5, x6, x7, x8, x9, x10, x11, rfl, h3, h4, h5⟩
      rw [List.getElem?_map] at hd
      rcases ht : fp[n]? with _ | t
      · rw [ht] at hd; cases hd
      rw [ht] at hd
      cases hd
      have hmem : t ∈ fp := List.mem_of_getElem? ht
      have hlt : n < fp.length := (List.getElem?_eq_some_iff.mp ht).1
      have tk : fp.take (n + 1) = fp.take n ++ [t] := by
        rw [List.take_succ, ht]; rfl
      obtain ⟨f1, f2, f3⟩ := hf t hmem
      have l4 := p12_len4 f1
      obtain ⟨tot, y7, y8, y9, y10, y11, e1, A⟩ := tu_loop hL I t.1 (rt_ok f3) (by omega) (fun j hj => (p12_in f1 hj).1) (by omega) (s0 := s0) (s1 := s1) (s3 := .val (.lst (acc.map tmD))) (s4 := .val (pD t.1)) (s5 := .val (rtD t.2)) (s7 := x7) (s8 := x8) (s9 := x9) (s10 := x10) (s11 := x11) (bp := bp)
      refine ⟨[s0, s1, .val (syD bp ins), .val (.lst (acc.map tmD)), .val (pD t.1), .val (rtD t.2), x6, x7, x8, x9, x10, x11], [s0, s1, .val (syD bp ins), .val (.lst ((acc ++ tot).map tmD)), .val (pD t.1), .val (rtD t.2), .val (.lst (tot.map tmD)), y7, y8, y9, y10, y11], rfl, ?_, acc ++ tot, _, _, _, _, _, _, _, _, rfl, fun u hu => ?_, ?_, fun W => ?_⟩
      · refine seq_nx (e := [s0, s1, .val (syD bp ins), .val (.lst (acc.map tmD)), .val (pD t.1), .val (rtD t.2), .val (.lst ([([], t.2)].map tmD)), x7, x8, x9, x10, x11]) rfl ?_
        refine seq_nx (e := [s0, s1, .val (syD bp ins), .val (.lst (acc.map tmD)), .val (pD t.1), .val (rtD t.2), .val (.lst (tot.map tmD)), y7, y8, y9, y10, y11]) ?_ (asg_val (d := .lst ((acc ++ tot).map tmD)) ?_)
        · rw [for_val (x := pD t.1) rfl rfl (by decide)]
          exact e1
        · refine (bi2_val (d := .lst (acc.map tmD)) (c := .lst (tot.map tmD)) rfl rfl).trans ?_
          show (if ((acc.map tmD).length + (tot.map tmD).length).ble 10000 = true then some (D.lst (acc.map tmD ++ tot.map tmD)) else none) = _
          have := A.len
          rw [if_pos (Nat.ble_eq_true_of_le (by rw [List.length_map, List.length_map]; omega)), List.map_append]
      · rcases List.mem_append.mp hu with h | h
        · exact h3 u h
        · exact ⟨A.mem u h, (A.ok u h).mono (by omega)⟩
      · have := A.len
        rw [List.length_append]; omega
      · rw [VS_app, h5, A.val, tk, VS_app]
        congr 1
        show t.2 * PS W ins t.1 = t.2 * PS W ins t.1 + 0
        rw [Rat.add_zero]) (fp.map tmD) 0 [s0, s1, .val (syD bp ins), .val (.lst []), s4, s5, s6, s7, s8, s9, s10, s11] (by simp) rfl ⟨[], s4, s5, s6, s7, s8, s9, s10, s11, rfl, fun _ h => (nomatch h), Nat.zero_le _, fun _ => rfl⟩
  rw [List.length_map] at h4 h5
  rw [List.take_length] at h5
  exact ⟨acc, x4, x5, x6, x7, x8, x9, x10, x11, by rw [h1, h2], h3, h4, h5⟩
theorem cd_tb : ((List.range 9).all fun n => tb .check_degree [.int n] .non) = true := by decide +kernel
theorem cd_val {n : Int} (h0 : 0 ≤ n) (h8 : n ≤ 8) {L : Nat} (hL : 30 ≤ L) : Φ L .check_degree [.int n] = some .non := by
  obtain ⟨m, rfl⟩ := Int.eq_ofNat_of_zero_le h0
  exact tb_eq (List.all_eq_true.mp cd_tb m (List.mem_range.mpr (by omega))) hL
/-- what put gives -/
structure PV (a : Bs) (G : Int) (ins ts ts' : List TM) : Prop where
  mem : ∀ t ∈ ts', t.1 ∈ P12
  ok : ∀ t ∈ ts', Ok 110 t.2
  len : ts'.length ≤ 12
  val : ∀ (V V' : Vl) (W U : Int → Rat), V .p = PW W → V' .p = PW U → (∀ k, 1 ≤ k → k * G ≤ 4 → VS (PW W) (strT k ins) = U k) → (∀ i, i ≤ 4 → GoodN V i) → (∀ i : Nat, (i : Int) ≤ dg ts → GoodN V' i) → VS (V a) ts' = VS (V' a) ts
theorem VS_congr {v w : List Int → Rat} : ∀ {ts : List TM}, (∀ t ∈ ts, v t.1 = w t.1) → VS v ts = VS w ts
  | [], _ => rfl
  | t :: r, h => by
    rw [VS_cons, VS_cons, h t (List.mem_cons_self ..), VS_congr fun x hx => h x (List.mem_cons_of_mem _ hx)]
theorem put_val {L : Nat} (hL : 41 ≤ L) {a : Bs} {G : Int} {ins ts : List TM} (I : InsOk G ins) {gD : D} (hin : ∀ t ∈ ts, t.1 ∈ P12) (hok : ∀ t ∈ ts, Ok 3 t.2) (hlen : ts.length ≤ 7) (hd3 : dg ts ≤ 3) (hdG : dg ts * G ≤ 4) (hg : Φ L .s_degree [gD] = some (.int G)) (hi : Φ L .in_base [gD, .str "p"] = some (syD Bs.p.nm ins)) (hz : fstT ins [] = 0) (hG : G ≤ 2) : ∃ ts', Φ (L + 1) .put [syD a.nm ts, gD] = some (syD a.nm ts') ∧ PV a G ins ts ts' := by
  obtain ⟨L, rfl⟩ : ∃ L', L = L' + 3 := ⟨L - 3, by omega⟩
  obtain ⟨fp, v1, B⟩ := ib_val (a := a) (b := .p) hin hok (by omega) (by omega) (L := L + 2) (by omega)
  have dv := degree_val (L + 3) (by omega) (b := a.nm) hin (by omega)
  have g1 := I.g1
  have G2 : G = 1 ∨ G = 2 := by omega
  have fpk : ∀ t ∈ fp, t.1 ∈ P12 ∧ t.1.sum * G ≤ 4 ∧ Ok 43 t.2 := fun t ht => by
    refine ⟨B.mem t ht, ?_, B.ok t ht⟩
    have h1 := B.sz t ht
    have h2 : t.1.sum * G ≤ dg ts * G := Int.mul_le_mul_of_nonneg_right h1 (by omega)
    omega
  have l7 := B.len7 hd3 hlen
  obtain ⟨acc, x4, x5, x6, x7, x8, x9, x10, x11, e1, A1, A2, A3⟩ := to_loop (L := L + 3) (by omega) I fpk (by omega) l7 (s0 := .val (syD a.nm ts)) (s1 := .val gD) (bp := Bs.p.nm) (s4 := .non) (s5 := .non) (s6 := .non) (s7 := .non) (s8 := .non) (s9 := .non) (s10 := .non) (s11 := .non)
  have sv := sym_val (L + 3) (by omega) (bs_in .p) (k := 59) (fun t ht => (A1 t ht).1) (fun t ht => (A1 t ht).2) (by omega) (P := .lst (acc.map tmD)) (.inl rfl)
  have am : ∀ t ∈ nfT acc, t.1 ∈ P12 := fun t ht => nf_in ht
  obtain ⟨ts', v2, C⟩ := ib_val (a := .p) (b := a) am (nf_ok (fun t ht => (A1 t ht).2) (by omega)) (nf_len _) (by omega) (L := L + 2) (by omega)
  have mx : (if (0 : Int) > dg ts then 0 else dg ts) * G ≤ 6 ∧ 0 ≤ (if (0 : Int) > dg ts then 0 else dg ts) * G ∧ 0 ≤ (if (0 : Int) > dg ts then 0 else dg ts) ∧ (if (0 : Int) > dg ts then 0 else dg ts) ≤ 3 := by
    split
    · rcases G2 with rfl | rfl <;> omega
    · rcases G2 with rfl | rfl <;> omega
  have cd := cd_val mx.2.1 (by omega) (L := L + 3) (by omega)
  refine ⟨ts', ?_, C.mem, fun t ht => (C.ok t ht).mono (by omega), C.len, fun V V' W U hV hV' hWU hg1 hg2 => ?_⟩
  · rw [Φ_succ]
    show plain 2 (Φ (L + 3)) i_put n_put _ = _
    unfold plain
    rw [if_pos (by rfl)]
    refine runS_rt ?_
    show evalS (Φ (L + 3)) i_put [.val (syD a.nm ts), .val gD, .non, .non, .non, .non, .non, .non, .non, .non, .non, .non] = _
    have m1 : evalE (Φ (L + 3)) (.bi .max2 (.cons (.call .s_degree (.cons (.var 0) .nil)) (.cons (.cst (.int 0)) .nil))) [.val (syD a.nm ts), .val gD, .non, .non, .non, .non, .non, .non, .non, .non, .non, .non] = some (.int (if (0 : Int) > dg ts then 0 else dg ts)) :=
      (bi2_val ((call1_val rfl).trans dv) rfl).trans rfl
    have m2 : evalE (Φ (L + 3)) (.bi .max2 (.cons (.call .s_degree (.cons (.var 1) .nil)) (.cons (.cst (.int 0)) .nil))) [.val (syD a.nm ts), .val gD, .non, .non, .non, .non, .non, .non, .non, .non, .non, .non] = some (.int G) := by
      refine (bi2_val ((call1_val rfl).trans hg) rfl).trans ?_
      show some (D.int (if (0 : Int) > G then 0 else G)) = _
      rw [if_neg (by omega)]
    have m3 : evalE (Φ (L + 3)) (.bi .mul (.cons (.bi .max2 (.cons (.call .s_degree (.cons (.var 0) .nil)) (.cons (.cst (.int 0)) .nil))) (.cons (.bi .max2 (.cons (.call .s_degree (.cons (.var 1) .nil)) (.cons (.cst (.int 0)) .nil))) .nil))) [.val (syD a.nm ts), .val gD, .non, .non, .non, .non, .non, .non, .non, .non, .non, .non] = some (.int ((if (0 : Int) > dg ts then 0 else dg ts) * G)) := by
      refine (bi2_val m1 m2).trans ?_
      show (if (small _ && small G) = true then some (D.int (_ * G)) else none) = _
      rw [small24 (i := if (0 : Int) > dg ts then 0 else dg ts) (by have := mx.2.2; omega), small24 (i := G) (by omega)]; rfl
    refine seq_nx (exp_val ((call1_val m3).trans cd)) ?_
    refine seq_nx (e := [.val (syD a.nm ts), .val gD, .val (syD Bs.p.nm ins), .non, .non, .non, .non, .non, .non, .non, .non, .non]) (asg_val ((call2_val (d := gD) (c := .str "p") rfl rfl).trans hi)) ?_
    refine seq_nx (e := [.val (syD a.nm ts), .val gD, .val (syD Bs.p.nm ins), .non, .non, .non, .non, .non, .non, .non, .non, .non]) ?_ ?_
    · have z1 : evalE (Φ (L + 3)) (.call .r_is_zero (.cons (.call .s_multiple (.cons (.var 2) (.cons (.bi .tupD .nil) .nil))) .nil)) [.val (syD a.nm ts), .val gD, .val (syD Bs.p.nm ins), .non, .non, .non, .non, .non, .non, .non, .non, .non] = some (.bl true) := by
        refine (call1_val ((call2_val (d := syD Bs.p.nm ins) (c := pD []) rfl rfl).trans (mult_val L))).trans ?_
        rw [hz]
        exact r_is_zero_val (L + 2)
      rw [evalS, evalE, z1]; rfl
    refine seq_nx (e := [.val (syD a.nm ts), .val gD, .val (syD Bs.p.nm ins), .val (.lst []), .non, .non, .non, .non, .non, .non, .non, .non]) rfl ?_
    refine seq_nx (e := [.val (syD a.nm ts), .val gD, .val (syD Bs.p.nm ins), .val (.lst (acc.map tmD)), x4, x5, x6, x7, x8, x9, x10, x11]) ?_ ?_
    · have ea : evalE (Φ (L + 3)) (.fld 1 1 (.call .in_base (.cons (.var 0) (.cons (.cst (.str "p")) .nil)))) [.val (syD a.nm ts), .val gD, .val (syD Bs.p.nm ins), .val (.lst []), .non, .non, .non, .non, .non, .non, .non, .non] = some (.tup (fp.map tmD)) := by
        have q : evalE (Φ (L + 3)) (.call .in_base (.cons (.var 0) (.cons (.cst (.str "p")) .nil))) [.val (syD a.nm ts), .val gD, .val (syD Bs.p.nm ins), .val (.lst []), .non, .non, .non, .non, .non, .non, .non, .non] = some (syD Bs.p.nm fp) :=
          (call2_val (d := syD a.nm ts) (c := .str Bs.p.nm) rfl rfl).trans v1
        rw [evalE, q]; rfl
      rw [for_val (x := .tup (fp.map tmD)) ea rfl (by decide)]
      exact e1
    · exact ret_val ((call2_val (c := .str a.nm) ((call2_val (d := .str Bs.p.nm) (c := .lst (acc.map tmD)) rfl rfl).trans sv) rfl).trans v2)
  · have p4 : ∀ i : Nat, (i : Int) ≤ dg (nfT acc) → GoodN V i := fun i h => hg1 i (by
      have : dg (nfT acc) ≤ 4 := dg_le (by omega) fun t ht => (p12_pt (am t ht)).2.2
      omega)
    rw [C.val V p4, hV, VS_nf _ fun t ht => (A1 t ht).1, A3, ← B.val V' hg2, hV']
    refine VS_congr fun t ht => ?_
    unfold PS PW
    congr 1
    refine List.map_congr_left fun x hx => ?_
    obtain ⟨f1, f2, -⟩ := fpk t ht
    have x1 := (p12_in f1 hx).1
    refine hWU x x1 ?_
    have xs : x ≤ t.1.sum := by
      have : (P12.all fun p => p.all fun j => decide (j ≤ p.sum)) = true := by decide +kernel
      exact of_decide_eq_true (List.all_eq_true.mp (List.all_eq_true.mp this t.1 f1) x hx)
    have : x * G ≤ t.1.sum * G := Int.mul_le_mul_of_nonneg_right xs (by omega)
    omega
end FB

set_option Elab.async false
set_option linter.all false
set_option maxRecDepth 100000
set_option maxHeartbeats 1000000
/-! FBv1: the law's own functions, in plain numbers. -/
namespace FB
open PySem L2
def foldO {σ : Type} (f : σ → Nat → Option σ) (s : σ) : Nat → Option σ
  | 0 => some s
  | n + 1 => (foldO f s n).bind fun t => f t n
theorem foldO_pre {σ : Type} {f : σ → Nat → Option σ} {s : σ} : ∀ {n t}, foldO f s n = some t → ∀ m, m ≤ n → ∃ u, foldO f s m = some u
  | 0, t, h, m, hm => ⟨t, by rw [show m = 0 by omega]; exact h⟩
  | n + 1, t, h, m, hm => by
    by_cases e : m = n + 1
    · exact ⟨t, by rw [e]; exact h⟩
    · unfold foldO at h
      cases q : foldO f s n with
      | none => rw [q] at h; cases h
      | some u => exact foldO_pre q m (by omega)
theorem sim {σ : Type} {f : σ → Nat → Option σ} {R : σ → En → Prop} {body : En → Option Fl} {i n : Nat} (step : ∀ k s s' env, k < n → R s env → f s k = some s' → ∃ env', body (env.set i (.val (.int (k : Int)))) = some (.nx env') ∧ R s' env') {s0 s : σ} (h : foldO f s0 n = some s) {env : En} (h0 : R s0 env) :
    ∃ env', forGo body (.nm i) ((List.range n).map fun (x : Nat) => D.int (0 + (x : Int))) env = some (.nx env') ∧ R s env' := by
  obtain ⟨env', h1, t, h2, h3⟩ := forGo_rng (i := i) (body := body) (n := n) (fun k env => ∃ t, foldO f s0 k = some t ∧ R t env) (by
    rintro k env hk ⟨t, ht, hR⟩
    obtain ⟨u, hu⟩ := foldO_pre h (k + 1) (by omega)
    have hu2 := hu
    unfold foldO at hu2
    rw [ht] at hu2
    obtain ⟨env', e1, e2⟩ := step k t u env hk hR hu2
    exact ⟨env', by rw [Int.zero_add]; exact e1, u, hu, e2⟩) ⟨s0, rfl, h0⟩
  rw [h] at h2
  cases h2
  exact ⟨env', h1, h3⟩
def foldL {σ α : Type} (f : σ → α → Option σ) : List α → σ → Option σ
  | [], s => some s
  | a :: r, s => (f s a).bind (foldL f r)
theorem simL {σ α : Type} {f : σ → α → Option σ} {R : σ → En → Prop} {body : En → Option Fl} {i : Nat} {dec : α → D} : ∀ {l : List α}, (∀ a ∈ l, ∀ s s' env, R s env → f s a = some s' → ∃ env', body (env.set i (.val (dec a))) = some (.nx env') ∧ R s' env') → ∀ {s0 s : σ}, foldL f l s0 = some s → ∀ {env : En}, R s0 env →
    ∃ env', forGo body (.nm i) (l.map dec) env = some (.nx env') ∧ R s env'
  | [], _, s0, s, h, env, h0 => by
    cases h
    exact ⟨env, rfl, h0⟩
  | a :: r, step, s0, s, h, env, h0 => by
    unfold foldL at h
    cases q : f s0 a with
    | none => rw [q] at h; cases h
    | some u =>
      rw [q] at h
      obtain ⟨e1, h1, h2⟩ := step a (List.mem_cons_self ..) s0 u env h0 q
      obtain ⟨e2, h3, h4⟩ := simL (l := r) (fun b hb => step b (List.mem_cons_of_mem _ hb)) h h2
      refine ⟨e2, ?_, h4⟩
      rw [List.map_cons]
      unfold forGo
      show (match body (env.set i (.val (dec a))) with
        | some (.nx e2) => forGo body (.nm i) _ e2
        | some (.rt d) => some (.rt d)
        | none => none) = _
      rw [h1]
      exact h3
def mulO (a b : Int) : Option Int := if small a && small b then some (a * b) else none
theorem mul_bi {a b : Int} : bival .mul [.int a, .int b] = (mulO a b).map .int := by
  show (if small a && small b then some (D.int (a * b)) else none) = _
  unfold mulO
  split <;> rfl
/-! powers -/
def pwM (x : Int) (k : Nat) : Option Int := foldO (fun t _ => mulO t x) 1 k
theorem pw_val {x v : Int} {k : Nat} (h : pwM x k = some v) (hk : k ≤ 50) (L : Nat) : Φ (L + 1) .law_power [.int x, .int (k : Int)] = some (.int v) := by
  obtain ⟨env', h1, a, h2⟩ := sim (f := fun t _ => mulO t x) (R := fun t env => ∃ a, env = [.val (.int x), .val (.int (k : Int)), .val (.int t), a]) (body := evalS (Φ L) (.asg 2 (.bi .mul (.cons (.var 2) (.cons (.var 0) .nil))))) (i := 3) (n := k) (by
    rintro m s s' env hm ⟨a, rfl⟩ hs
    refine ⟨[.val (.int x), .val (.int (k : Int)), .val (.int s'), .val (.int (m : Int))], asg_val (env := [.val (.int x), .val (.int (k : Int)), .val (.int s), .val (.int (m : Int))]) ((bi2_val (d := .int s) (c := .int x) rfl rfl).trans ?_), _, rfl⟩
    rw [mul_bi, hs]; rfl) h (env := [.val (.int x), .val (.int (k : Int)), .val (.int 1), .non]) ⟨_, rfl⟩
  rw [Φ_succ]
  show plain 2 (Φ L) i_law_power n_law_power _ = _
  unfold plain
  rw [if_pos (by rfl)]
  refine runS_rt ?_
  show evalS (Φ L) i_law_power [.val (.int x), .val (.int (k : Int)), .non, .non] = _
  refine seq_nx (e := [.val (.int x), .val (.int (k : Int)), .val (.int 1), .non]) rfl ?_
  refine seq_nx (e := env') ?_ (by rw [h2]; rfl)
  rw [for_val (x := .tup [.int (k : Int)]) rfl (walk1 hk) (by decide)]
  exact h1
/-! slices -/
theorem sl_tl {x : D} {r : List D} : bival (.sl true false) [.lst (x :: r), .int 1] = some (.lst r) := by
  show some (D.lst (((x :: r).drop (HT.sIx (x :: r).length 0 (some 1))).take (HT.sIx (x :: r).length (x :: r).length none - HT.sIx (x :: r).length 0 (some 1)))) = _
  have e : HT.sIx (x :: r).length 0 (some 1) = 1 := by
    have := HT.sIx_nat (x :: r).length 0 1
    rw [show (1 : Int) = ((1 : Nat) : Int) from rfl, this, List.length_cons]; omega
  rw [e, HT.sIx_none, List.length_cons]
  simp
theorem sl_take {l : List D} {i : Nat} (h : i ≤ l.length) : bival (.sl false true) [.tup l, .int (i : Int)] = some (.tup (l.take i)) := by
  show some (D.tup ((l.drop (HT.sIx l.length 0 none)).take (HT.sIx l.length l.length (some (i : Int)) - HT.sIx l.length 0 none))) = _
  rw [HT.sIx_none, HT.sIx_nat, Nat.min_eq_left h]
  rfl
theorem sl_drop {l : List D} {i : Nat} (h : i ≤ l.length) : bival (.sl true false) [.tup l, .int (i : Int)] = some (.tup (l.drop i)) := by
  show some (D.tup ((l.drop (HT.sIx l.length 0 (some (i : Int)))).take (HT.sIx l.length l.length none - HT.sIx l.length 0 (some (i : Int))))) = _
  rw [HT.sIx_none, HT.sIx_nat, Nat.min_eq_left h]
  rw [List.take_of_length_le (by rw [List.length_drop]; omega)]
theorem sl_init {l : List D} {x : D} : bival (.sl false true) [.lst (l ++ [x]), .int (-1)] = some (.lst l) := by
  show some (D.lst (((l ++ [x]).drop (HT.sIx (l ++ [x]).length 0 none)).take (HT.sIx (l ++ [x]).length (l ++ [x]).length (some (-1)) - HT.sIx (l ++ [x]).length 0 none))) = _
  have e : HT.sIx (l ++ [x]).length (l ++ [x]).length (some (-1)) = l.length := by
    show (if (-1 : Int) < 0 then ((-1 : Int) + ((l ++ [x]).length : Int)).toNat else min (-1 : Int).toNat (l ++ [x]).length) = _
    rw [if_pos (by decide), List.length_append]
    simp
    omega
  rw [e, HT.sIx_none]
  simp
/-! monomials -/
def mnM : List Int → List Int → Option Int
  | [], p => if p.isEmpty then some 1 else some 0
  | x :: r, p => if p.isEmpty then some 1 else if p.length > r.length + 1 then some 0 else
    (mnM r p).bind fun t0 => foldO (fun t i => if i = 0 ∨ p.getD i 0 ≠ p.getD (i - 1) 0 then (pwM x (p.getD i 0).toNat).bind fun a => (mnM r (p.take i ++ p.drop (i + 1))).bind fun b => (mulO a b).map fun c => t + c else some t) t0 p.length
def PO (p : List Int) : Prop := p.length ≤ 20 ∧ ∀ j ∈ p, 0 ≤ j ∧ j ≤ 50
theorem atI_int {l : List Int} {i : Nat} (h : i < l.length) : atI (l.map D.int) (i : Int) = some (.int (l.getD i 0)) := by
  rw [atI_nat (by rw [List.length_map]; exact h), List.getElem_map, List.getD_eq_getElem?_getD, List.getElem?_eq_getElem h]
  rfl
theorem ix_0 {x : Int} {r : List Int} : bival .ix [.lst ((x :: r).map .int), .int 0] = some (.int x) := atI_nat (ds := (x :: r).map .int) (j := 0) (by simp)
theorem ix_int {p : List Int} {i : Nat} (h : i < p.length) : bival .ix [pD p, .int (i : Int)] = some (.int (p.getD i 0)) := atI_int h
def mnT : IE := (.or (.bi .eq (.cons (.var 3) (.cons (.cst (.int 0)) .nil))) (.bi .ne (.cons (.bi .ix (.cons (.var 0) (.cons (.var 3) .nil))) (.cons (.bi .ix (.cons (.var 0) (.cons (.bi .sub (.cons (.var 3) (.cons (.cst (.int 1)) .nil))) .nil))) .nil))))
def mnA : IE := (.bi .add (.cons (.var 2) (.cons (.bi .mul (.cons (.call .law_power (.cons (.bi .ix (.cons (.var 1) (.cons (.cst (.int 0)) .nil))) (.cons (.bi .ix (.cons (.var 0) (.cons (.var 3) .nil))) .nil))) (.cons (.call .law_monomials (.cons (.bi .add (.cons (.bi (.sl false true) (.cons (.var 0) (.cons (.var 3) .nil))) (.cons (.bi (.sl true false) (.cons (.var 0) (.cons (.bi .add (.cons (.var 3) (.cons (.cst (.int 1)) .nil))) .nil))) .nil))) (.cons (.bi (.sl true false) (.cons (.var 1) (.cons (.cst (.int 1)) .nil))) .nil))) .nil))) .nil)))
theorem mn_test {Φ : Fn → List D → Option D} {p : List Int} {i : Nat} (hi : i < p.length) {s1 s2 : Sl} : evalE Φ mnT [.val (pD p), s1, s2, .val (.int (i : Int))] = some (.bl (decide (i = 0 ∨ p.getD i 0 ≠ p.getD (i - 1) 0))) := by
  by_cases h0 : i = 0
  · subst h0
    have : evalE Φ (.bi .eq (.cons (.var 3) (.cons (.cst (.int 0)) .nil))) [.val (pD p), s1, s2, .val (.int ((0 : Nat) : Int))] = some (.bl true) := (bi2_val (d := .int 0) (c := .int 0) rfl rfl).trans rfl
    unfold mnT evalE
    rw [this]
    simp
  · have e1 : evalE Φ (.bi .eq (.cons (.var 3) (.cons (.cst (.int 0)) .nil))) [.val (pD p), s1, s2, .val (.int (i : Int))] = some (.bl false) := by
      refine (bi2_val (d := .int (i : Int)) (c := .int 0) rfl rfl).trans ?_
      show some (D.bl (decide ((i : Int) = 0))) = _
      rw [decide_eq_false (by omega)]
    have e2 : evalE Φ (.bi .ne (.cons (.bi .ix (.cons (.var 0) (.cons (.var 3) .nil))) (.cons (.bi .ix (.cons (.var 0) (.cons (.bi .sub (.cons (.var 3) (.cons (.cst (.int 1)) .nil))) .nil))) .nil))) [.val (pD p), s1, s2, .val (.int (i : Int))] = some (.bl (!decide (p.getD i 0 = p.getD (i - 1) 0))) := by
      refine (bi2_val ((bi2_val (d := pD p) (c := .int (i : Int)) rfl rfl).trans (ix_int hi)) ((bi2_val (d := pD p) (c := .int ((i - 1 : Nat) : Int)) rfl ((bi2_val (d := .int (i : Int)) (c := .int 1) rfl rfl).trans ?_)).trans (ix_int (by omega)))).trans rfl
      show some (D.int ((i : Int) - 1)) = _
      rw [show (i : Int) - 1 = ((i - 1 : Nat) : Int) by omega]
    unfold mnT
    rw [evalE, e1]
    simp only
    rw [e2]
    simp [h0]
theorem mn_val : ∀ (xs p : List Int) {v : Int}, mnM xs p = some v → PO p → xs.length ≤ 20 → ∀ {L : Nat}, xs.length + 3 ≤ L → Φ L .law_monomials [pD p, .lst (xs.map .int)] = some (.int v) := by
  intro xs
  induction xs with
  | nil =>
    intro p v h hp hx L hL
    obtain ⟨L, rfl⟩ : ∃ L', L = L' + 1 := ⟨L - 1, by omega⟩
    rw [Φ_succ]
    show plain 2 (Φ L) i_law_monomials n_law_monomials _ = _
    unfold plain
    rw [if_pos (by rfl)]
    refine runS_rt ?_
    show evalS (Φ L) i_law_monomials [.val (pD p), .val (.lst []), .non, .non] = _
    cases p with
    | nil => cases h; rfl
    | cons y r =>
      cases h
      have len1 : evalE (Φ L) (.bi .len (.cons (.var 0) .nil)) [.val (pD (y :: r)), .val (.lst []), .non, .non] = some (.int ((r.length + 1 : Nat) : Int)) := by
        refine (bi1_val (d := pD (y :: r)) rfl).trans ?_
        show some (D.int ((y :: r).map D.int).length) = _
        rw [List.length_map, List.length_cons]
      have len2 : evalE (Φ L) (.bi .len (.cons (.var 1) .nil)) [.val (pD (y :: r)), .val (.lst []), .non, .non] = some (.int 0) := (bi1_val (d := .lst []) rfl).trans rfl
      refine seq_nx (e := [.val (pD (y :: r)), .val (.lst []), .non, .non]) ?_ (seq_rt ?_)
      · have : evalE (Φ L) (.bi .eq (.cons (.bi .len (.cons (.var 0) .nil)) (.cons (.cst (.int 0)) .nil))) [.val (pD (y :: r)), .val (.lst []), .non, .non] = some (.bl false) := by
          refine (bi2_val len1 (c := .int 0) rfl).trans ?_
          show some (D.bl (decide (((r.length + 1 : Nat) : Int) = 0))) = _
          rw [decide_eq_false (by omega)]
        rw [evalS, this]; rfl
      · have : evalE (Φ L) (.bi .gt (.cons (.bi .len (.cons (.var 0) .nil)) (.cons (.bi .len (.cons (.var 1) .nil)) .nil))) [.val (pD (y :: r)), .val (.lst []), .non, .non] = some (.bl true) := by
          refine (bi2_val len1 len2).trans ?_
          show some (D.bl (decide ((0 : Int) < ((r.length + 1 : Nat) : Int)))) = _
          rw [decide_eq_true (by omega)]
        rw [evalS, this]; rfl
  | cons x r ih =>
    intro p v h hp hx L hL
    rw [List.length_cons] at hx hL
    obtain ⟨L, rfl⟩ : ∃ L', L = L' + 2 := ⟨L - 2, by omega⟩
    rw [Φ_succ]
    show plain 2 (Φ (L + 1)) i_law_monomials n_law_monomials _ = _
    unfold plain
    rw [if_pos (by rfl)]
    refine runS_rt ?_
    show evalS (Φ (L + 1)) i_law_monomials [.val (pD p), .val (.lst ((x :: r).map .int)), .non, .non] = _
    unfold mnM at h
    by_cases h0 : p.isEmpty = true
    · rw [if_pos h0] at h
      cases h
      cases p with
      | nil => rfl
      | cons y q => cases h0
    rw [if_neg h0] at h
    have pl : 0 < p.length := by cases p with
      | nil => exact absurd rfl h0
      | cons y q => exact Nat.succ_pos _
    have len1 : evalE (Φ (L + 1)) (.bi .len (.cons (.var 0) .nil)) [.val (pD p), .val (.lst ((x :: r).map .int)), .non, .non] = some (.int (p.length : Int)) := by
      refine (bi1_val (d := pD p) rfl).trans ?_
      show some (D.int (p.map D.int).length) = _
      rw [List.length_map]
    have len2 : evalE (Φ (L + 1)) (.bi .len (.cons (.var 1) .nil)) [.val (pD p), .val (.lst ((x :: r).map .int)), .non, .non] = some (.int ((r.length + 1 : Nat) : Int)) := by
      refine (bi1_val (d := .lst ((x :: r).map .int)) rfl).trans ?_
      show some (D.int ((x :: r).map D.int).length) = _
      rw [List.length_map, List.length_cons]
    refine seq_nx (e := [.val (pD p), .val (.lst ((x :: r).map .int)), .non, .non]) ?_ ?_
    · have : evalE (Φ (L + 1)) (.bi .eq (.cons (.bi .len (.cons (.var 0) .nil)) (.cons (.cst (.int 0)) .nil))) [.val (pD p), .val (.lst ((x :: r).map .int)), .non, .non] = some (.bl false) := by
        refine (bi2_val len1 (c := .int 0) rfl).trans ?_
        show some (D.bl (decide ((p.length : Int) = 0))) = _
        rw [decide_eq_false (by omega)]
      rw [evalS, this]; rfl
    by_cases h2 : p.length > r.length + 1
    · rw [if_pos h2] at h
      cases h
      refine seq_rt ?_
      have : evalE (Φ (L + 1)) (.bi .gt (.cons (.bi .len (.cons (.var 0) .nil)) (.cons (.bi .len (.cons (.var 1) .nil)) .nil))) [.val (pD p), .val (.lst ((x :: r).map .int)), .non, .non] = some (.bl true) := by
        refine (bi2_val len1 len2).trans ?_
        show some (D.bl (decide (((r.length + 1 : Nat) : Int) < (p.length : Int)))) = _
        rw [decide_eq_true (by omega)]
      rw [evalS, this]; rfl
    rw [if_neg h2] at h
    refine seq_nx (e := [.val (pD p), .val (.lst ((x :: r).map .int)), .non, .non]) ?_ ?_
    · have : evalE (Φ (L + 1)) (.bi .gt (.cons (.bi .len (.cons (.var 0) .nil)) (.cons (.bi .len (.cons (.var 1) .nil)) .nil))) [.val (pD p), .val (.lst ((x :: r).map .int)), .non, .non] = some (.bl false) := by
        refine (bi2_val len1 len2).trans ?_
        show some (D.bl (decide (((r.length + 1 : Nat) : Int) < (p.length : Int)))) = _
        rw [decide_eq_false (by omega)]
      rw [evalS, this]; rfl
    cases q : mnM r p with
    | none => rw [q] at h; cases h
    | some t0 =>
      rw [q] at h
      have c0 := ih p q hp (by omega) (L := L + 1) (by omega)
      have tl : ∀ {s2 s3 : Sl}, evalE (Φ (L + 1)) (.bi (.sl true false) (.cons (.var 1) (.cons (.cst (.int 1)) .nil))) [.val (pD p), .val (.lst ((x :: r).map .int)), s2, s3] = some (.lst (r.map .int)) := fun {s2 s3} =>
        (bi2_val (d := .lst ((x :: r).map .int)) (c := .int 1) rfl rfl).trans sl_tl
      refine seq_nx (e := [.val (pD p), .val (.lst ((x :: r).map .int)), .val (.int t0), .non]) (asg_val ((call2_val (d := pD p) rfl tl).trans c0)) ?_
      obtain ⟨env', h3, a, h4⟩ := sim (R := fun (t : Int) env => ∃ a, env = [.val (pD p), .val (.lst ((x :: r).map .int)), .val (.int t), a]) (body := evalS (Φ (L + 1)) (.ite mnT (.asg 2 mnA) .skip)) (i := 3) (n := p.length) (by
        rintro i s s' env hi ⟨a, rfl⟩ hs
        show ∃ env', evalS (Φ (L + 1)) (.ite mnT (.asg 2 mnA) .skip) [.val (pD p), .val (.lst ((x :: r).map .int)), .val (.int s), .val (.int (i : Int))] = _ ∧ _
        have te := mn_test (Φ := Φ (L + 1)) hi (s1 := .val (.lst ((x :: r).map .int))) (s2 := .val (.int s))
        by_cases ht : i = 0 ∨ p.getD i 0 ≠ p.getD (i - 1) 0
        · rw [if_pos ht] at hs
          rw [decide_eq_true ht] at te
          cases q1 : pwM x (p.getD i 0).toNat with
          | none => rw [q1] at hs; cases hs
          | some a =>
            rw [q1] at hs
            cases q2 : mnM r (p.take i ++ p.drop (i + 1)) with
            | none => rw [q2] at hs; cases hs
            | some b =>
              rw [q2] at hs
              cases q3 : mulO a b with
              | none => rw [Option.bind_some, Option.bind_some, q3] at hs; cases hs
              | some c =>
                rw [Option.bind_some, Option.bind_some, q3] at hs
                cases hs
                have pi : p.getD i 0 ∈ p := by
                  rw [List.getD_eq_getElem?_getD, List.getElem?_eq_getElem hi]
                  exact List.getElem_mem hi
                obtain ⟨g1, g2⟩ := hp.2 _ pi
                have pv := pw_val q1 (by omega) L
                rw [Int.toNat_of_nonneg g1] at pv
                have po : PO (p.take i ++ p.drop (i + 1)) := by
                  refine ⟨?_, fun j hj => hp.2 j ?_⟩
                  · rw [List.length_append, List.length_take, List.length_drop]
                    have := hp.1
                    omega
                  · rcases List.mem_append.mp hj with h | h
                    · exact List.mem_of_mem_take h
                    · exact List.mem_of_mem_drop h
                have mv := ih _ q2 po (by omega) (L := L + 1) (by omega)
                refine ⟨[.val (pD p), .val (.lst ((x :: r).map .int)), .val (.int (s + c)), .val (.int (i : Int))], ?_, _, rfl⟩
                rw [evalS, te]
                refine asg_val ?_
                refine (bi2_val (d := .int s) (c := .int c) rfl ?_).trans rfl
                refine (bi2_val (d := .int a) (c := .int b) ((call2_val (d := .int x) (c := .int (p.getD i 0)) ((bi2_val (d := .lst ((x :: r).map .int)) (c := .int 0) rfl rfl).trans ix_0) ((bi2_val (d := pD p) (c := .int (i : Int)) rfl rfl).trans (ix_int hi))).trans pv) ((call2_val (d := pD (p.take i ++ p.drop (i + 1))) ?_ tl).trans mv)).trans ?_
                · refine (bi2_val (d := .tup ((p.map .int).take i)) (c := .tup ((p.map .int).drop (i + 1))) ((bi2_val (d := pD p) (c := .int (i : Int)) rfl rfl).trans (sl_take (by rw [List.length_map]; omega))) ((bi2_val (d := pD p) (c := .int ((i + 1 : Nat) : Int)) rfl ((bi2_val (d := .int (i : Int)) (c := .int 1) rfl rfl).trans rfl)).trans (sl_drop (by rw [List.length_map]; omega)))).trans ?_
                  show (if (((p.map D.int).take i).length + ((p.map D.int).drop (i + 1)).length).ble 10000 = true then some (D.tup ((p.map D.int).take i ++ (p.map D.int).drop (i + 1))) else none) = _
                  rw [if_pos (Nat.ble_eq_true_of_le (by rw [List.length_take, List.length_drop, List.length_map]; have := hp.1; omega))]
                  unfold pD
                  rw [List.map_append, List.map_take, List.map_drop]
                · rw [mul_bi, q3]; rfl
        · rw [if_neg ht] at hs
          cases hs
          rw [decide_eq_false ht] at te
          refine ⟨[.val (pD p), .val (.lst ((x :: r).map .int)), .val (.int s), .val (.int (i : Int))], ?_, _, rfl⟩
          rw [evalS, te]; rfl) h (env := [.val (pD p), .val (.lst ((x :: r).map .int)), .val (.int t0), .non]) ⟨_, rfl⟩
      refine seq_nx (e := env') ?_ (by rw [h4]; rfl)
      have len3 : evalE (Φ (L + 1)) (.bi .len (.cons (.var 0) .nil)) [.val (pD p), .val (.lst ((x :: r).map .int)), .val (.int t0), .non] = some (.int (p.length : Int)) := by
        refine (bi1_val (d := pD p) rfl).trans ?_
        show some (D.int (p.map D.int).length) = _
        rw [List.length_map]
      rw [for_val (x := .tup [.int (p.length : Int)]) ?_ (walk1 (by have := hp.1; omega)) (by decide)]
      · exact h3
      · rw [evalE, len3]; rfl
end FB

set_option Elab.async false
set_option linter.all false
set_option maxRecDepth 100000
set_option maxHeartbeats 1000000
/-! FBv2: the law's own Schur functions. -/
namespace FB
open PySem L2
def smG (p : List Int) : List Int → List (List Int) → List (List Int)
  | [], found => found
  | x :: r, found => smG p r (found.flatMap fun s => ((List.range (x - r.headD 0 + 1).toNat).map fun (k : Nat) => s ++ [r.headD 0 + (k : Int)]))
def smM (p : List Int) : List (List Int) := smG p p [[]]
def posP (p : List Int) : List Int := p.filter fun j => decide (0 < j)
theorem sm_tb : (P12.all fun p => tb .law_smaller [pD p] (.lst ((smM p).map pD))) = true := by decide +kernel
theorem sm_ok : (P12.all fun p => (smM p).all fun s => P12.contains (posP s) && decide (s.sum ≤ p.sum) && decide (s.length ≤ 20) && decide (p.sum ≤ 4) && decide (0 ≤ s.sum)) = true := by decide +kernel
def scM : List Int → List Int → Option Int
  | [], p => if (posP p).isEmpty then some 1 else some 0
  | x :: r, p => if (posP p).isEmpty then some 1 else if (posP p).length > r.length + 1 then some 0 else
    foldL (fun t s => (pwM x ((posP p).sum - s.sum).toNat).bind fun a => if a = 0 then some t else (scM r s).bind fun b => (mulO a b).map fun c => t + c) (smM (posP p)) 0
theorem ix_last {l : List D} {x : D} : bival .ix [.lst (l ++ [x]), .int (-1)] = some x := by
  show atI (l ++ [x]) (-1) = some x
  unfold atI ixN
  simp
  rw [if_pos (by omega)]
  have e : (-1 + ((l.length : Int) + 1)).toNat = l.length := by omega
  simp [e]
def scB : IS := (.seq (.asg 4 (.call .law_power (.cons (.bi .ix (.cons (.var 1) (.cons (.bi .neg (.cons (.cst (.int 1)) .nil)) .nil))) (.cons (.bi .sub (.cons (.bi .sum (.cons (.var 0) .nil)) (.cons (.bi .sum (.cons (.var 3) .nil)) .nil))) .nil)))) (.ite (.bi .ne (.cons (.var 4) (.cons (.cst (.int 0)) .nil))) (.asg 2 (.bi .add (.cons (.var 2) (.cons (.bi .mul (.cons (.var 4) (.cons (.call .law_schur (.cons (.var 3) (.cons (.bi (.sl false true) (.cons (.var 1) (.cons (.bi .neg (.cons (.cst (.int 1)) .nil)) .nil))) .nil))) .nil))) .nil)))) .skip))
theorem sum_bi {p : List Int} : bival .sum [pD p] = some (.int p.sum) := by
  show ((D.tup (p.map .int)).isInts).map _ = _
  show (ints? (p.map .int)).map _ = _
  rw [ints_map]; rfl
theorem len_pD {p : List Int} : bival .len [pD p] = some (.int (p.length : Int)) := by
  show some (D.int (p.map D.int).length) = _
  rw [List.length_map]
theorem len_xs {p : List Int} : bival .len [.lst (p.map .int)] = some (.int (p.length : Int)) := by
  show some (D.int (p.map D.int).length) = _
  rw [List.length_map]
/-- the def's beginning -/
theorem sc_pre {L : Nat} {p xs : List Int} (hp : p.length ≤ 20) : (posP p = [] → Φ (L + 1) .law_schur [pD p, .lst (xs.map .int)] = some (.int 1)) ∧ (posP p ≠ [] → (posP p).length > xs.length → Φ (L + 1) .law_schur [pD p, .lst (xs.map .int)] = some (.int 0)) ∧
    (posP p ≠ [] → ¬ (posP p).length > xs.length → ∀ d, (∃ env', forGo (evalS (Φ L) scB) (.nm 3) ((smM (posP p)).map pD) [.val (pD (posP p)), .val (.lst (xs.map .int)), .val (.int 0), .non, .non, .non] = some (.nx env') ∧ env'[2]? = some (.val d)) → posP p ∈ P12 → 30 ≤ L → Φ (L + 1) .law_schur [pD p, .lst (xs.map .int)] = some d) := by
  have lc := lcGo_fm (fT := evalE (Φ L) (.bi .gt (.cons (.var 5) (.cons (.cst (.int 0)) .nil)))) (fE := evalE (Φ L) (.var 5)) (tg := .nm 5) (env := [.val (pD p), .val (.lst (xs.map .int)), .non, .non, .non, .non]) D.int (fun j => decide (0 < j)) D.int p (fun j _ => ⟨_, rfl, rfl, fun _ => rfl⟩)
  have e1 := lc_abs (Φ := Φ L) (k := 0) (arg := .var 0) (x := pD p) (vs := [5]) (env := [.val (pD p), .val (.lst (xs.map .int)), .non, .non, .non, .non]) (by decide) rfl rfl lc (Nat.ble_eq_true_of_le (by rw [List.length_map]; omega))
  have e2 : evalS (Φ L) (.asg 0 (.bi .tupOf (.cons (.lc 0 (.var 0) (.nm 5) (.bi .gt (.cons (.var 5) (.cons (.cst (.int 0)) .nil))) (.var 5) [5]) .nil))) [.val (pD p), .val (.lst (xs.map .int)), .non, .non, .non, .non] = some (.nx [.val (pD (posP p)), .val (.lst (xs.map .int)), .non, .non, .non, .non]) := asg_val (d := pD (posP p)) ((bi1_val e1).trans rfl)
  have start : ∀ {d : D}, evalS (Φ L) i_law_schur [.val (pD p), .val (.lst (xs.map .int)), .non, .non, .non, .non] = some (.rt d) → Φ (L + 1) .law_schur [pD p, .lst (xs.map .int)] = some d := by
    intro d h
    rw [Φ_succ]
    show plain 2 (Φ L) i_law_schur n_law_schur _ = _
    unfold plain
    rw [if_pos (by rfl)]
    exact runS_rt h
  generalize posP p = q at e2 ⊢
  have ec : evalE (Φ L) (.bi .eq (.cons (.bi .len (.cons (.var 0) .nil)) (.cons (.cst (.int 0)) .nil))) [.val (pD q), .val (.lst (xs.map .int)), .non, .non, .non, .non] = some (.bl (decide ((q.length : Int) = 0))) :=
    (bi2_val ((bi1_val (d := pD q) rfl).trans len_pD) (c := .int 0) rfl).trans rfl
  have eg : evalE (Φ L) (.bi .gt (.cons (.bi .len (.cons (.var 0) .nil)) (.cons (.bi .len (.cons (.var 1) .nil)) .nil))) [.val (pD q), .val (.lst (xs.map .int)), .non, .non, .non, .non] = some (.bl (decide ((xs.length : Int) < (q.length : Int)))) :=
    (bi2_val ((bi1_val (d := pD q) rfl).trans len_pD) ((bi1_val (d := .lst (xs.map .int)) rfl).trans len_xs)).trans rfl
  have nz : q ≠ [] → decide ((q.length : Int) = 0) = false := fun h => decide_eq_false (by
    have := List.length_pos_iff.mpr h
    omega)
  refine ⟨fun h => start (seq_nx e2 (seq_rt ?_)), fun h h2 => start (seq_nx e2 (seq_nx (e := [.val (pD q), .val (.lst (xs.map .int)), .non, .non, .non, .non]) ?_ (seq_rt ?_))), fun h h2 d hd hP hL => start (seq_nx e2 (seq_nx (e := [.val (pD q), .val (.lst (xs.map .int)), .non, .non, .non, .non]) ?_ (seq_nx (e := [.val (pD q), .val (.lst (xs.map .int)), .non, .non, .non, .non]) ?_ (seq_nx (e := [.val (pD q), .val (.lst (xs.map .int)), .val (.int 0), .non, .non, .non]) rfl ?_))))⟩
  · rw [evalS, ec, h]; rfl
  · rw [evalS, ec, nz h]; rfl
  · rw [evalS, eg, decide_eq_true (by omega)]; rfl
  · rw [evalS, ec, nz h]; rfl
  · rw [evalS, eg, decide_eq_false (by omega)]; rfl
  · obtain ⟨env', h3, h4⟩ := hd
    have sv := tb_eq (List.all_eq_true.mp sm_tb q hP) hL
    refine seq_nx (e := env') ?_ (ret_val ?_)
    · rw [for_val (x := .lst ((smM q).map pD)) ((call1_val (d := pD q) rfl).trans sv) rfl (by decide)]
      exact h3
    · unfold evalE
      rw [h4]
theorem sc_val : ∀ (xs p : List Int) {v : Int}, scM xs p = some v → posP p ∈ P12 → p.length ≤ 20 → xs.length ≤ 20 → ∀ {L : Nat}, xs.length + 32 ≤ L → Φ L .law_schur [pD p, .lst (xs.reverse.map .int)] = some (.int v) := by
  intro xs
  induction xs with
  | nil =>
    intro p v h hP hp hx L hL
    obtain ⟨L, rfl⟩ : ∃ L', L = L' + 1 := ⟨L - 1, by omega⟩
    obtain ⟨h1, h2, -⟩ := sc_pre (L := L) (p := p) (xs := []) hp
    unfold scM at h
    by_cases e : posP p = []
    · rw [e] at h; cases h; exact h1 e
    · rw [if_neg (by rw [List.isEmpty_iff]; exact e)] at h
      cases h
      exact h2 e (List.length_pos_iff.mpr e)
  | cons x r ih =>
    intro p v h hP hp hx L hL
    rw [List.length_cons] at hx hL
    obtain ⟨L, rfl⟩ : ∃ L', L = L' + 2 := ⟨L - 2, by omega⟩
    obtain ⟨h1, h2, h3⟩ := sc_pre (L := L + 1) (p := p) (xs := (x :: r).reverse) hp
    unfold scM at h
    by_cases e : posP p = []
    · rw [e] at h; cases h; exact h1 e
    rw [if_neg (by rw [List.isEmpty_iff]; exact e)] at h
    have lr : (x :: r).reverse.length = r.length + 1 := by rw [List.length_reverse, List.length_cons]
    rw [lr] at h2 h3
    by_cases el : (posP p).length > r.length + 1
    · rw [if_pos el] at h
      cases h
      exact h2 e el
    rw [if_neg el] at h
    refine h3 e el _ ?_ hP (by omega)
    have so := List.all_eq_true.mp sm_ok _ hP
    generalize posP p = q at h so ⊢
    have xe : (x :: r).reverse.map D.int = r.reverse.map D.int ++ [.int x] := by rw [List.reverse_cons, List.map_append]; rfl
    obtain ⟨env', e1, a, b, c, e2⟩ := simL (R := fun (t : Int) env => ∃ a b c, env = [.val (pD q), .val (.lst ((x :: r).reverse.map .int)), .val (.int t), a, b, c]) (body := evalS (Φ (L + 1)) scB) (i := 3) (dec := pD) (l := smM q) (by
      rintro s hs t t' env ⟨a, b, c, rfl⟩ ht
      have so1 := List.all_eq_true.mp so s hs
      simp only [Bool.and_eq_true, decide_eq_true_eq, List.contains_iff_mem] at so1
      obtain ⟨⟨⟨⟨m1, m2⟩, m3⟩, m4⟩, m5⟩ := so1
      show ∃ env', evalS (Φ (L + 1)) scB [.val (pD q), .val (.lst ((x :: r).reverse.map .int)), .val (.int t), .val (pD s), b, c] = _ ∧ _
      cases q1 : pwM x (q.sum - s.sum).toNat with
      | none => rw [q1] at ht; cases ht
      | some g =>
        rw [q1, Option.bind_some] at ht
        have pv := pw_val q1 (by omega) L
        rw [Int.toNat_of_nonneg (by omega)] at pv
        have f1 : evalS (Φ (L + 1)) (.asg 4 (.call .law_power (.cons (.bi .ix (.cons (.var 1) (.cons (.bi .neg (.cons (.cst (.int 1)) .nil)) .nil))) (.cons (.bi .sub (.cons (.bi .sum (.cons (.var 0) .nil)) (.cons (.bi .sum (.cons (.var 3) .nil)) .nil))) .nil)))) [.val (pD q), .val (.lst ((x :: r).reverse.map .int)), .val (.int t), .val (pD s), b, c] = some (.nx [.val (pD q), .val (.lst ((x :: r).reverse.map .int)), .val (.int t), .val (pD s), .val (.int g), c]) := by
          refine asg_val ((call2_val (d := .int x) (c := .int (q.sum - s.sum)) ?_ ?_).trans pv)
          · refine (bi2_val (d := .lst ((x :: r).reverse.map .int)) (c := .int (-1)) rfl rfl).trans ?_
            rw [xe]; exact ix_last
          · exact (bi2_val ((bi1_val (d := pD q) rfl).trans sum_bi) ((bi1_val (d := pD s) rfl).trans sum_bi)).trans rfl
        have f2 : evalE (Φ (L + 1)) (.bi .ne (.cons (.var 4) (.cons (.cst (.int 0)) .nil))) [.val (pD q), .val (.lst ((x :: r).reverse.map .int)), .val (.int t), .val (pD s), .val (.int g), c] = some (.bl (!decide (g = 0))) := (bi2_val (d := .int g) (c := .int 0) rfl rfl).trans rfl
        by_cases g0 : g = 0
        · rw [if_pos g0] at ht
          cases ht
          refine ⟨_, seq_nx f1 ?_, .val (pD s), .val (.int g), c, rfl⟩
          rw [evalS, f2, decide_eq_true g0]; rfl
        · rw [if_neg g0] at ht
          cases q2 : scM r s with
          | none => rw [q2] at ht; cases ht
          | some w =>
            rw [q2, Option.bind_some] at ht
            cases q3 : mulO g w with
            | none => rw [q3] at ht; cases ht
            | some y =>
              rw [q3] at ht
              cases ht
              have sv := ih s q2 m1 m3 (by omega) (L := L + 1) (by omega)
              refine ⟨[.val (pD q), .val (.lst ((x :: r).reverse.map .int)), .val (.int (t + y)), .val (pD s), .val (.int g), c], seq_nx f1 ?_, .val (pD s), .val (.int g), c, rfl⟩
              rw [evalS, f2, decide_eq_false g0]
              refine asg_val ((bi2_val (d := .int t) (c := .int y) rfl ((bi2_val (d := .int g) (c := .int w) rfl ((call2_val (d := pD s) (c := .lst (r.reverse.map .int)) rfl ?_).trans sv)).trans ?_)).trans rfl)
              · refine (bi2_val (d := .lst ((x :: r).reverse.map .int)) (c := .int (-1)) rfl rfl).trans ?_
                rw [xe]; exact sl_init
              · rw [mul_bi, q3]; rfl) h (env := [.val (pD q), .val (.lst ((x :: r).reverse.map .int)), .val (.int 0), .non, .non, .non]) ⟨_, _, _, rfl⟩
    exact ⟨env', e1, by rw [e2]; rfl⟩
end FB

set_option Elab.async false
set_option linter.all false
set_option maxRecDepth 100000
set_option maxHeartbeats 1000000
/-! FBv3: the law's own lists of e, h, p. -/
namespace FB
open PySem L2
def liI (b : Bs) (row : List Int) (x : Int) (after : List Int) (k : Nat) : Option (List Int) :=
  if k = 0 then some (after.set 0 (row.getD 0 0)) else match b with
  | .e => (mulO x (row.getD (k - 1) 0)).map fun c => after.set k (row.getD k 0 + c)
  | .h => (mulO x (after.getD (k - 1) 0)).map fun c => after.set k (row.getD k 0 + c)
  | _ => some (after.set k (row.getD k 0))
def liX (b : Bs) (m : Nat) (row : List Int) (x : Int) : Option (List Int) := foldO (liI b row x) (List.replicate (m + 1) 0) (m + 1)
def liR (b : Bs) (m : Nat) (xs : List Int) : Option (List Int) := foldL (liX b m) xs (1 :: List.replicate m 0)
def liB1 : IS := (.setL 5 (.var 6) (.bi .ix (.cons (.var 3) (.cons (.var 6) .nil))))
def liB2 : IS := (.ite (.and (.bi .gt (.cons (.var 6) (.cons (.cst (.int 0)) .nil))) (.bi .eq (.cons (.var 0) (.cons (.cst (.str "e")) .nil)))) (.setL 5 (.var 6) (.bi .add (.cons (.ixO 5 (.var 6)) (.cons (.bi .mul (.cons (.var 4) (.cons (.bi .ix (.cons (.var 3) (.cons (.bi .sub (.cons (.var 6) (.cons (.cst (.int 1)) .nil))) .nil))) .nil))) .nil)))) .skip)
def liB3 : IS := (.ite (.and (.bi .gt (.cons (.var 6) (.cons (.cst (.int 0)) .nil))) (.bi .eq (.cons (.var 0) (.cons (.cst (.str "h")) .nil)))) (.setL 5 (.var 6) (.bi .add (.cons (.ixO 5 (.var 6)) (.cons (.bi .mul (.cons (.var 4) (.cons (.ixO 5 (.bi .sub (.cons (.var 6) (.cons (.cst (.int 1)) .nil)))) .nil))) .nil)))) .skip)
def liB : IS := (.seq liB1 (.seq liB2 liB3))
def liE (b : Bs) (xs : D) (m : Int) (row : List Int) (x : Int) (after : List Int) (s6 s7 s8 : Sl) : En := [.val (.str b.nm), .val xs, .val (.int m), .val (.lst (row.map .int)), .val (.int x), .lst (after.map .int), s6, s7, s8]
theorem ixl_int {p : List Int} {i : Nat} (h : i < p.length) : bival .ix [.lst (p.map .int), .int (i : Int)] = some (.int (p.getD i 0)) := atI_int h
theorem setL_val {Φ : Fn → List D → Option D} {a : IE} {b : Bs} {xs : D} {m : Int} {row : List Int} {x : Int} {after : List Int} {k : Nat} {s7 s8 : Sl} {v : Int} (hk : k < after.length) (h : evalE Φ a (liE b xs m row x after (.val (.int (k : Int))) s7 s8) = some (.int v)) : evalS Φ (.setL 5 (.var 6) a) (liE b xs m row x after (.val (.int (k : Int))) s7 s8) = some (.nx (liE b xs m row x (after.set k v) (.val (.int (k : Int))) s7 s8)) := by
  unfold evalS
  rw [h]
  show (ixN (after.map D.int).length (k : Int)).map _ = _
  rw [ixN_nat (by rw [List.length_map]; exact hk)]
  show some (Fl.nx [_, _, _, _, _, .lst ((after.map D.int).set k (.int v)), _, _, _]) = _
  unfold liE
  rw [List.map_set]
theorem li_cond {Φ : Fn → List D → Option D} {b c : Bs} {k : Nat} {env : En} (h6 : evalE Φ (.var 6) env = some (.int (k : Int))) (h0 : evalE Φ (.var 0) env = some (.str b.nm)) : evalE Φ (.and (.bi .gt (.cons (.var 6) (.cons (.cst (.int 0)) .nil))) (.bi .eq (.cons (.var 0) (.cons (.cst (.str c.nm)) .nil)))) env = some (.bl (decide (0 < k) && decide (b = c))) := by
  have e1 : evalE Φ (.bi .gt (.cons (.var 6) (.cons (.cst (.int 0)) .nil))) env = some (.bl (decide (0 < k))) := by
    refine (bi2_val (c := .int 0) h6 rfl).trans ?_
    show some (D.bl (decide ((0 : Int) < (k : Int)))) = _
    rw [decide_eq_decide.mpr (show (0 : Int) < (k : Int) ↔ 0 < k by omega)]
  have e2 : evalE Φ (.bi .eq (.cons (.var 0) (.cons (.cst (.str c.nm)) .nil))) env = some (.bl (decide (b = c))) := by
    refine (bi2_val (c := .str c.nm) h0 rfl).trans ?_
    rw [← nm_eq]; rfl
  rw [evalE, e1]
  cases h : decide (0 < k) with
  | true => simp only; rw [e2, Bool.true_and]
  | false => simp only; rw [Bool.false_and]
theorem li_cE {Φ : Fn → List D → Option D} {b : Bs} {k : Nat} {env : En} (h6 : evalE Φ (.var 6) env = some (.int (k : Int))) (h0 : evalE Φ (.var 0) env = some (.str b.nm)) : evalE Φ (.and (.bi .gt (.cons (.var 6) (.cons (.cst (.int 0)) .nil))) (.bi .eq (.cons (.var 0) (.cons (.cst (.str "e")) .nil)))) env = some (.bl (decide (0 < k) && decide (b = .e))) := li_cond (c := .e) h6 h0
theorem li_cH {Φ : Fn → List D → Option D} {b : Bs} {k : Nat} {env : En} (h6 : evalE Φ (.var 6) env = some (.int (k : Int))) (h0 : evalE Φ (.var 0) env = some (.str b.nm)) : evalE Φ (.and (.bi .gt (.cons (.var 6) (.cons (.cst (.int 0)) .nil))) (.bi .eq (.cons (.var 0) (.cons (.cst (.str "h")) .nil)))) env = some (.bl (decide (0 < k) && decide (b = .h))) := li_cond (c := .h) h6 h0
theorem set_get {l : List Int} {k : Nat} {v : Int} (h : k < l.length) : (l.set k v).getD k 0 = v := by
  rw [List.getD_eq_getElem?_getD, List.getElem?_set_self h]; rfl
theorem set_get_ne {l : List Int} {k j : Nat} {v : Int} (h : k ≠ j) : (l.set k v).getD j 0 = l.getD j 0 := by
  rw [List.getD_eq_getElem?_getD, List.getElem?_set_ne h, ← List.getD_eq_getElem?_getD]
theorem ixO_val {Φ : Fn → List D → Option D} {e : IE} {b : Bs} {xs : D} {m : Int} {row : List Int} {x : Int} {after : List Int} {j : Nat} {s6 s7 s8 : Sl} (hj : j < after.length) (h : evalE Φ e (liE b xs m row x after s6 s7 s8) = some (.int (j : Int))) : evalE Φ (.ixO 5 e) (liE b xs m row x after s6 s7 s8) = some (.int (after.getD j 0)) := by
  unfold evalE
  rw [h]
  exact atI_int hj
theorem li_inner {Φ : Fn → List D → Option D} {b : Bs} {xs : D} {m : Nat} {row : List Int} {x : Int} {after after' : List Int} {k : Nat} {s7 s8 : Sl} (hr : row.length = m + 1) (ha : after.length = m + 1) (hk : k < m + 1) (h : liI b row x after k = some after') : evalS Φ liB (liE b xs m row x after (.val (.int (k : Int))) s7 s8) = some (.nx (liE b xs m row x after' (.val (.int (k : Int))) s7 s8)) ∧ after'.length = m + 1 := by
  have s1 : evalS Φ liB1 (liE b xs m row x after (.val (.int (k : Int))) s7 s8) = some (.nx (liE b xs m row x (after.set k (row.getD k 0)) (.val (.int (k : Int))) s7 s8)) :=
    setL_val (by omega) ((bi2_val (d := .lst (row.map .int)) (c := .int (k : Int)) rfl rfl).trans (ixl_int (by omega)))
  have l1 : (after.set k (row.getD k 0)).length = m + 1 := by rw [List.length_set]; exact ha
  have c2 := li_cE (Φ := Φ) (b := b) (k := k) (env := liE b xs m row x (after.set k (row.getD k 0)) (.val (.int (k : Int))) s7 s8) rfl rfl
  have c3 : ∀ a2, evalE Φ _ (liE b xs m row x a2 (.val (.int (k : Int))) s7 s8) = _ := fun a2 => li_cH (Φ := Φ) (b := b) (k := k) (env := liE b xs m row x a2 (.val (.int (k : Int))) s7 s8) rfl rfl
  have km : ∀ {env : En}, evalE Φ (.var 6) env = some (.int (k : Int)) → k ≠ 0 → evalE Φ (.bi .sub (.cons (.var 6) (.cons (.cst (.int 1)) .nil))) env = some (.int ((k - 1 : Nat) : Int)) := fun {env} h h0 => by
    refine (bi2_val (c := .int 1) h rfl).trans ?_
    show some (D.int ((k : Int) - 1)) = _
    rw [show (k : Int) - 1 = ((k - 1 : Nat) : Int) by omega]
  have skip2 : (decide (0 < k) && decide (b = .e)) = false → evalS Φ liB2 (liE b xs m row x (after.set k (row.getD k 0)) (.val (.int (k : Int))) s7 s8) = some (.nx (liE b xs m row x (after.set k (row.getD k 0)) (.val (.int (k : Int))) s7 s8)) := fun h => by
    unfold liB2
    rw [evalS, c2, h]; rfl
  have skip3 : ∀ a2, (decide (0 < k) && decide (b = .h)) = false → evalS Φ liB3 (liE b xs m row x a2 (.val (.int (k : Int))) s7 s8) = some (.nx (liE b xs m row x a2 (.val (.int (k : Int))) s7 s8)) := fun a2 h => by
    unfold liB3
    rw [evalS, c3 a2, h]; rfl
  unfold liI at h
  by_cases k0 : k = 0
  · subst k0
    rw [if_pos rfl] at h
    cases h
    exact ⟨seq_nx s1 (seq_nx (skip2 rfl) (skip3 _ rfl)), l1⟩
  rw [if_neg k0] at h
  have kd : decide (0 < k) = true := decide_eq_true (by omega)
  cases b with
  | e =>
    cases q : mulO x (row.getD (k - 1) 0) with
    | none => simp only at h; rw [q] at h; cases h
    | some c =>
      simp only at h
      rw [q] at h
      cases h
      refine ⟨seq_nx s1 (seq_nx (e := liE .e xs m row x (after.set k (row.getD k 0 + c)) (.val (.int (k : Int))) s7 s8) ?_ (skip3 _ (by rw [kd]; rfl))), by rw [List.length_set]; exact ha⟩
      unfold liB2
      rw [evalS, c2, kd]
      have r := setL_val (Φ := Φ) (a := .bi .add (.cons (.ixO 5 (.var 6)) (.cons (.bi .mul (.cons (.var 4) (.cons (.bi .ix (.cons (.var 3) (.cons (.bi .sub (.cons (.var 6) (.cons (.cst (.int 1)) .nil))) .nil))) .nil))) .nil))) (b := .e) (xs := xs) (m := m) (row := row) (x := x) (after := after.set k (row.getD k 0)) (k := k) (s7 := s7) (s8 := s8) (v := row.getD k 0 + c) (by omega) (by
        refine (bi2_val (d := .int (row.getD k 0)) (c := .int c) ((ixO_val (j := k) (by omega) rfl).trans ?_) ?_).trans rfl
        · rw [set_get (by omega)]
        · refine (bi2_val (d := .int x) (c := .int (row.getD (k - 1) 0)) rfl ((bi2_val (d := .lst (row.map .int)) rfl (km rfl k0)).trans (ixl_int (by omega)))).trans ?_
          rw [mul_bi, q]; rfl)
      rw [List.set_set] at r
      exact r
  | h =>
    cases q : mulO x (after.getD (k - 1) 0) with
    | none => simp only at h; rw [q] at h; cases h
    | some c =>
      simp only at h
      rw [q] at h
      cases h
      refine ⟨seq_nx s1 (seq_nx (skip2 (by rw [kd]; rfl)) ?_), by rw [List.length_set]; exact ha⟩
      unfold liB3
      rw [evalS, c3, kd]
      have r := setL_val (Φ := Φ) (a := .bi .add (.cons (.ixO 5 (.var 6)) (.cons (.bi .mul (.cons (.var 4) (.cons (.ixO 5 (.bi .sub (.cons (.var 6) (.cons (.cst (.int 1)) .nil)))) .nil))) .nil))) (b := .h) (xs := xs) (m := m) (row := row) (x := x) (after := after.set k (row.getD k 0)) (k := k) (s7 := s7) (s8 := s8) (v := row.getD k 0 + c) (by omega) (by
        refine (bi2_val (d := .int (row.getD k 0)) (c := .int c) ((ixO_val (j := k) (by omega) rfl).trans ?_) ?_).trans rfl
        · rw [set_get (by omega)]
        · refine (bi2_val (d := .int x) (c := .int (after.getD (k - 1) 0)) rfl ((ixO_val (j := k - 1) (by omega) (km rfl k0)).trans ?_)).trans ?_
          · rw [set_get_ne (by omega)]
          · rw [mul_bi, q]; rfl)
      rw [List.set_set] at r
      exact r
  | m => cases h; exact ⟨seq_nx s1 (seq_nx (skip2 (by rw [kd]; rfl)) (skip3 _ (by rw [kd]; rfl))), l1⟩
  | p => cases h; exact ⟨seq_nx s1 (seq_nx (skip2 (by rw [kd]; rfl)) (skip3 _ (by rw [kd]; rfl))), l1⟩
  | s => cases h; exact ⟨seq_nx s1 (seq_nx (skip2 (by rw [kd]; rfl)) (skip3 _ (by rw [kd]; rfl))), l1⟩
def liZ : IE := (.lc 1 (.cons (.bi .add (.cons (.var 2) (.cons (.cst (.int 1)) .nil))) .nil) (.nm 6) (.cst (.bl true)) (.cst (.int 0)) [6])
def liC : IS := (.seq (.newL 5 liZ) (.seq (.forE 1 (.cons (.bi .add (.cons (.var 2) (.cons (.cst (.int 1)) .nil))) .nil) (.nm 6) liB) (.seq (.frz 5) (.asg 3 (.var 5)))))
theorem rep_map (n : Nat) : (List.range n).map (fun (_ : Nat) => D.int 0) = (List.replicate n 0).map D.int := by
  rw [List.map_replicate, List.map_const', List.length_range]
theorem li_ea {Φ : Fn → List D → Option D} {m : Nat} {env : En} (h : evalE Φ (.var 2) env = some (.int (m : Int))) : evalE Φ (.cons (.bi .add (.cons (.var 2) (.cons (.cst (.int 1)) .nil))) .nil) env = some (.tup [.int ((m + 1 : Nat) : Int)]) := by
  have e : evalE Φ (.bi .add (.cons (.var 2) (.cons (.cst (.int 1)) .nil))) env = some (.int ((m + 1 : Nat) : Int)) := by
    refine (bi2_val (c := .int 1) h rfl).trans ?_
    show some (D.int ((m : Int) + 1)) = _
    rw [show (m : Int) + 1 = ((m + 1 : Nat) : Int) by omega]
  rw [evalE, e]
  rfl
theorem newL_val {Φ : Fn → List D → Option D} {i : Nat} {e : IE} {env : En} {ds : List D} (h : evalE Φ e env = some (.lst ds)) : evalS Φ (.newL i e) env = some (.nx (env.set i (.lst ds))) := by
  unfold evalS; rw [h]
theorem li_z {Φ : Fn → List D → Option D} {m : Nat} (hm : m ≤ 20) {env : En} (h : evalE Φ (.var 2) env = some (.int (m : Int))) : evalE Φ liZ env = some (.lst ((List.replicate (m + 1) (0 : Int)).map D.int)) := by
  have z := lc1_val (Φ := Φ) (arg := .cons (.bi .add (.cons (.var 2) (.cons (.cst (.int 1)) .nil))) .nil) (elt := .cst (.int 0)) (i := 6) (vs := [6]) (env := env) (n := m + 1) (fun _ => .int 0) (li_ea h) (by omega) (fun _ _ => by unfold evalE; rfl)
  rw [rep_map] at z
  exact z
theorem li_turn {Φ : Fn → List D → Option D} {b : Bs} {xs : D} {m : Nat} (hm : m ≤ 20) {row row' : List Int} {x : Int} {s5 s6 s7 s8 : Sl} (hr : row.length = m + 1) (h : liX b m row x = some row') : (∃ s5' s6', evalS Φ liC [.val (.str b.nm), .val xs, .val (.int (m : Int)), .val (.lst (row.map .int)), .val (.int x), s5, s6, s7, s8] = some (.nx [.val (.str b.nm), .val xs, .val (.int (m : Int)), .val (.lst (row'.map .int)), .val (.int x), s5', s6', s7, s8])) ∧ row'.length = m + 1 := by
  obtain ⟨env', h1, a, h2, h3⟩ := sim (R := fun (after : List Int) env => ∃ a, env = liE b xs m row x after a s7 s8 ∧ after.length = m + 1) (body := evalS Φ liB) (i := 6) (n := m + 1) (by
    rintro k t t' env hk ⟨a, rfl, hl⟩ ht
    obtain ⟨e1, e2⟩ := li_inner (Φ := Φ) (xs := xs) (s7 := s7) (s8 := s8) hr hl hk ht
    exact ⟨_, e1, _, rfl, e2⟩) h (env := liE b xs m row x (List.replicate (m + 1) 0) s6 s7 s8) ⟨_, rfl, by rw [List.length_replicate]⟩
  refine ⟨⟨.val (.lst (row'.map .int)), a, ?_⟩, h3⟩
  refine seq_nx (e := liE b xs m row x (List.replicate (m + 1) 0) s6 s7 s8) ?_ ?_
  · exact newL_val (li_z hm (by unfold evalE; rfl))
  refine seq_nx (e := liE b xs m row x row' a s7 s8) ?_ rfl
  rw [for_val (x := .tup [.int ((m + 1 : Nat) : Int)]) (li_ea (by unfold evalE; rfl)) (walk1 (by omega)) (by decide)]
  rw [h2] at h1
  exact h1
end FB

set_option Elab.async false
set_option linter.all false
set_option maxRecDepth 100000
set_option maxHeartbeats 1000000
/-! FBv4: the law's own lists, values. -/
namespace FB
open PySem L2
def liPs (xs : List Int) (s : List Int × List Int) (k : Nat) : Option (List Int × List Int) :=
  if s.1.all small && xs.all small then some ((List.range xs.length).map fun i => s.1.getD i 0 * xs.getD i 0, s.2.set (1 + k) ((List.range xs.length).map fun i => s.1.getD i 0 * xs.getD i 0).sum) else none
def liP (m : Nat) (xs : List Int) : Option (List Int × List Int) := foldL (liPs xs) (List.range m) (xs.map fun _ => 1, (xs.length : Int) :: List.replicate m 0)
def liV (b : Bs) (m : Nat) (xs : List Int) : Option (List Int) := (liR b m xs).bind fun r => if b = .p then (liP m xs).map (·.2) else some r
theorem getD_mem {l : List Int} {i : Nat} (h : i < l.length) : l.getD i 0 ∈ l := by
  rw [List.getD_eq_getElem?_getD, List.getElem?_eq_getElem h]
  exact List.getElem_mem h
theorem lsum_bi {p : List Int} : bival .sum [.lst (p.map .int)] = some (.int p.sum) := by
  show ((D.lst (p.map .int)).isInts).map _ = _
  show (ints? (p.map .int)).map _ = _
  rw [ints_map]; rfl
def lpE (b : Bs) (xs : List Int) (m : Nat) (row pw : List Int) (s4 s5 s6 s8 : Sl) : En := [.val (.str b.nm), .val (.lst (xs.map .int)), .val (.int (m : Int)), .lst (row.map .int), s4, s5, s6, .val (.lst (pw.map .int)), s8]
def lpA : IE := (.lc 1 (.cons (.bi .len (.cons (.var 1) .nil)) .nil) (.nm 8) (.cst (.bl true)) (.bi .mul (.cons (.bi .ix (.cons (.var 7) (.cons (.var 8) .nil))) (.cons (.bi .ix (.cons (.var 1) (.cons (.var 8) .nil))) .nil))) [8])
def lpB : IS := (.seq (.asg 7 lpA) (.setL 3 (.var 6) (.bi .sum (.cons (.var 7) .nil))))
theorem lp_arg {Φ : Fn → List D → Option D} {xs : List Int} {env : En} (h : evalE Φ (.var 1) env = some (.lst (xs.map .int))) : evalE Φ (.cons (.bi .len (.cons (.var 1) .nil)) .nil) env = some (.tup [.int (xs.length : Int)]) := by
  have e := (bi1_val (b := .len) h).trans len_xs
  rw [evalE, e]
  rfl
theorem lp_pw {Φ : Fn → List D → Option D} {b : Bs} {xs : List Int} {m : Nat} {row pw : List Int} {s4 s5 s6 s8 : Sl} (hx : xs.length ≤ 20) (hl : pw.length = xs.length) (h1 : pw.all small = true) (h2 : xs.all small = true) : evalE Φ lpA (lpE b xs m row pw s4 s5 s6 s8) = some (.lst (((List.range xs.length).map fun i => pw.getD i 0 * xs.getD i 0).map .int)) := by
  have z := lc1_val (Φ := Φ) (arg := .cons (.bi .len (.cons (.var 1) .nil)) .nil) (elt := .bi .mul (.cons (.bi .ix (.cons (.var 7) (.cons (.var 8) .nil))) (.cons (.bi .ix (.cons (.var 1) (.cons (.var 8) .nil))) .nil))) (i := 8) (vs := [8]) (env := lpE b xs m row pw s4 s5 s6 s8) (n := xs.length) (fun i => .int (pw.getD i 0 * xs.getD i 0)) (lp_arg (by unfold evalE; rfl)) (by omega) (by
    intro i hi
    refine (bi2_val (d := .int (pw.getD i 0)) (c := .int (xs.getD i 0)) ((bi2_val (d := .lst (pw.map .int)) (c := .int (i : Int)) (by unfold evalE; rfl) (by unfold evalE; rfl)).trans (ixl_int (by omega))) ((bi2_val (d := .lst (xs.map .int)) (c := .int (i : Int)) (by unfold evalE; rfl) (by unfold evalE; rfl)).trans (ixl_int (by omega)))).trans ?_
    rw [mul_bi]
    unfold mulO
    rw [List.all_eq_true.mp h1 _ (getD_mem (by omega)), List.all_eq_true.mp h2 _ (getD_mem (by omega))]
    rfl)
  refine z.trans ?_
  rw [List.map_map]; rfl
theorem lp_step {Φ : Fn → List D → Option D} {b : Bs} {xs : List Int} {m k : Nat} {s0 s : List Int × List Int} {s4 s5 s8 : Sl} (hx : xs.length ≤ 20) (hl : s0.1.length = xs.length) (hr : s0.2.length = m + 1) (hk : k < m) (h : liPs xs s0 k = some s) : evalS Φ lpB (lpE b xs m s0.2 s0.1 s4 s5 (.val (.int (1 + (k : Int)))) s8) = some (.nx (lpE b xs m s.2 s.1 s4 s5 (.val (.int (1 + (k : Int)))) s8)) ∧ s.1.length = xs.length ∧ s.2.length = m + 1 := by
  obtain ⟨pw, row⟩ := s0
  unfold liPs at h
  simp only at h hl hr ⊢
  by_cases c : (pw.all small && xs.all small) = true
  · rw [if_pos c] at h
    rw [Bool.and_eq_true] at c
    have e := lp_pw (Φ := Φ) (b := b) (xs := xs) (m := m) (row := row) (pw := pw) (s4 := s4) (s5 := s5) (s6 := .val (.int (1 + (k : Int)))) (s8 := s8) hx hl c.1 c.2
    have pl : ((List.range xs.length).map fun i => pw.getD i 0 * xs.getD i 0).length = xs.length := by rw [List.length_map, List.length_range]
    generalize (List.range xs.length).map (fun i => pw.getD i 0 * xs.getD i 0) = q at e pl h
    have hs : s = (q, row.set (1 + k) q.sum) := (Option.some.inj h).symm
    subst hs
    simp only
    refine ⟨seq_nx (e := lpE b xs m row q s4 s5 (.val (.int (1 + (k : Int)))) s8) (asg_val e) ?_, pl, by rw [List.length_set]; exact hr⟩
    have es : evalE Φ (.bi .sum (.cons (.var 7) .nil)) (lpE b xs m row q s4 s5 (.val (.int (1 + (k : Int)))) s8) = some (.int q.sum) := (bi1_val (d := .lst (q.map .int)) (by unfold evalE; rfl)).trans lsum_bi
    have e6 : evalE Φ (.var 6) (lpE b xs m row q s4 s5 (.val (.int (1 + (k : Int)))) s8) = some (.int ((1 + k : Nat) : Int)) := by
      rw [show (1 : Int) + (k : Int) = ((1 + k : Nat) : Int) by omega]
      unfold evalE; rfl
    have e3 : (lpE b xs m row q s4 s5 (.val (.int (1 + (k : Int)))) s8)[3]? = some (.lst (row.map .int)) := rfl
    unfold evalS
    rw [es, e6, e3]
    simp only
    rw [ixN_nat (by rw [List.length_map]; omega)]
    show some (Fl.nx [_, _, _, .lst ((row.map D.int).set (1 + k) (.int q.sum)), _, _, _, _, _]) = _
    unfold lpE
    rw [List.map_set]
  · rw [if_neg c] at h; cases h
theorem foldL_simA {Φ : Fn → List D → Option D} {b : Bs} {xs : List Int} {m : Nat} (hx : xs.length ≤ 20) {s0 s : List Int × List Int} {s4 s5 s6 s8 : Sl} (hl : s0.1.length = xs.length) (hr : s0.2.length = m + 1) (h : foldL (liPs xs) (List.range m) s0 = some s) :
    ∃ s6', forGo (evalS Φ lpB) (.nm 6) ((List.range m).map fun (k : Nat) => D.int (1 + (k : Int))) (lpE b xs m s0.2 s0.1 s4 s5 s6 s8) = some (.nx (lpE b xs m s.2 s.1 s4 s5 s6' s8)) := by
  generalize hf : liPs xs = f at h
  obtain ⟨env', e1, s6', e2, -, -⟩ := simL (f := f) (dec := fun (k : Nat) => D.int (1 + (k : Int))) (R := fun s env => ∃ s6, env = lpE b xs m s.2 s.1 s4 s5 s6 s8 ∧ s.1.length = xs.length ∧ s.2.length = m + 1) (body := evalS Φ lpB) (i := 6) (l := List.range m) (by
    rintro k hk t t' env ⟨a, rfl, l1, l2⟩ ht
    rw [← hf] at ht
    obtain ⟨e1, e2, e3⟩ := lp_step (Φ := Φ) (b := b) (s4 := s4) (s5 := s5) (s8 := s8) hx l1 l2 (List.mem_range.mp hk) ht
    exact ⟨_, e1, _, rfl, e2, e3⟩) h (env := lpE b xs m s0.2 s0.1 s4 s5 s6 s8) ⟨_, rfl, hl, hr⟩
  exact ⟨s6', by rw [e1, e2]⟩
theorem walk2 {m : Nat} (hm : m ≤ 20) : walked 2 (.tup [.int 1, .int ((m + 1 : Nat) : Int)]) = some ((List.range m).map fun (k : Nat) => D.int (1 + (k : Int))) := by
  have h1 : okR 1 = true := by decide +kernel
  have h2 : okR ((m : Int) + 1) = true := by
    have := okR_nat (n := m + 1) (by omega)
    rwa [Int.natCast_add] at this
  simp [walked, h1, h2]
def lZ : IE := (.lc 1 (.cons (.var 2) .nil) (.nm 6) (.cst (.bl true)) (.cst (.int 0)) [6])
theorem lZ_val {Φ : Fn → List D → Option D} {m : Nat} (hm : m ≤ 20) {env : En} (h : evalE Φ (.var 2) env = some (.int (m : Int))) : evalE Φ lZ env = some (.lst ((List.replicate m (0 : Int)).map D.int)) := by
  have z := lc1_val (Φ := Φ) (arg := .cons (.var 2) .nil) (elt := .cst (.int 0)) (i := 6) (vs := [6]) (env := env) (n := m) (fun _ => .int 0) (by rw [evalE, h]; rfl) (by omega) (fun _ _ => by unfold evalE; rfl)
  rw [rep_map] at z
  exact z
theorem addl_val {Φ : Fn → List D → Option D} {e f : IE} {env : En} {a b : List D} (h : evalE Φ e env = some (.lst a)) (h2 : evalE Φ f env = some (.lst b)) (hl : a.length + b.length ≤ 10000) : evalE Φ (.bi .add (.cons e (.cons f .nil))) env = some (.lst (a ++ b)) := by
  have e : bival .add [.lst a, .lst b] = if (a.length + b.length).ble 10000 then some (.lst (a ++ b)) else none := by
    unfold bival
    rfl
  rw [bi2_val h h2, e, if_pos (Nat.ble_eq_true_of_le hl)]
theorem ll_val {b : Bs} {m : Nat} {xs row : List Int} (h : liV b m xs = some row) (hm : m ≤ 20) (hx : xs.length ≤ 20) (L : Nat) : Φ (L + 1) .law_list [.str b.nm, .lst (xs.map .int), .int (m : Int)] = some (.lst (row.map .int)) := by
  unfold liV at h
  cases q : liR b m xs with
  | none => rw [q] at h; cases h
  | some r =>
    rw [q, Option.bind_some] at h
    rw [Φ_succ]
    show plain 3 (Φ L) i_law_list n_law_list _ = _
    unfold plain
    rw [if_pos (by rfl)]
    refine runS_rt ?_
    show evalS (Φ L) i_law_list [.val (.str b.nm), .val (.lst (xs.map .int)), .val (.int (m : Int)), .non, .non, .non, .non, .non, .non] = _
    refine seq_nx (e := [.val (.str b.nm), .val (.lst (xs.map .int)), .val (.int (m : Int)), .val (.lst ((1 :: List.replicate m (0 : Int)).map .int)), .non, .non, .non, .non, .non]) ?_ ?_
    · refine asg_val (addl_val (a := [.int 1]) (b := (List.replicate m (0 : Int)).map .int) (by rfl) (lZ_val hm (by unfold evalE; rfl)) (by simp; omega))
    obtain ⟨env', h1, s4, s5, s6, h2, h3⟩ := simL (f := liX b m) (dec := D.int) (R := fun (row : List Int) env => ∃ s4 s5 s6, env = [.val (.str b.nm), .val (.lst (xs.map .int)), .val (.int (m : Int)), .val (.lst (row.map .int)), s4, s5, s6, .non, .non] ∧ row.length = m + 1) (body := evalS (Φ L) liC) (i := 4) (l := xs) (by
      rintro x hx t t' env ⟨s4, s5, s6, rfl, hl⟩ ht
      obtain ⟨⟨s5', s6', e1⟩, e2⟩ := li_turn (Φ := Φ L) (xs := .lst (xs.map .int)) hm hl ht (s5 := s5) (s6 := s6) (s7 := .non) (s8 := .non)
      exact ⟨_, e1, _, _, _, rfl, e2⟩) q (env := [.val (.str b.nm), .val (.lst (xs.map .int)), .val (.int (m : Int)), .val (.lst ((1 :: List.replicate m (0 : Int)).map .int)), .non, .non, .non, .non, .non]) ⟨_, _, _, rfl, by simp⟩
    refine seq_nx (e := env') ?_ ?_
    · rw [for_val (x := .lst (xs.map .int)) (by unfold evalE; rfl) rfl (by decide)]
      exact h1
    subst h2
    by_cases hb : b = .p
    · rw [if_pos hb] at h
      cases q2 : liP m xs with
      | none => rw [q2] at h; cases h
      | some s =>
        rw [q2] at h
        cases h
        subst hb
        obtain ⟨s6', e2⟩ := foldL_simA (Φ := Φ L) (b := .p) hx (by rw [List.length_map]) (by simp) q2 (s4 := s4) (s5 := s5) (s6 := s6) (s8 := .non)
        refine seq_nx (e := [.val (.str Bs.p.nm), .val (.lst (xs.map .int)), .val (.int (m : Int)), .val (.lst (s.2.map .int)), s4, s5, s6', .val (.lst (s.1.map .int)), .non]) ?_ (ret_val (by unfold evalE; rfl))
        rw [ite_str (x := Bs.p.nm) rfl, show decide (Bs.p.nm = ("p" : Str)) = true from (nm_eq .p .p).trans rfl, if_pos rfl]
        refine seq_nx (e := [.val (.str Bs.p.nm), .val (.lst (xs.map .int)), .val (.int (m : Int)), .lst (((xs.length : Int) :: List.replicate m (0 : Int)).map .int), s4, s5, s6, .non, .non]) ?_ ?_
        · refine newL_val (addl_val (a := [.int (xs.length : Int)]) (b := (List.replicate m (0 : Int)).map .int) ?_ (lZ_val hm (by unfold evalE; rfl)) (by simp; omega))
          exact (bi1_val ((bi1_val (d := .lst (xs.map .int)) (by unfold evalE; rfl)).trans len_xs)).trans rfl
        refine seq_nx (e := lpE .p xs m ((xs.length : Int) :: List.replicate m (0 : Int)) (xs.map fun _ => 1) s4 s5 s6 .non) ?_ ?_
        · have lc := lcGo_fm (fT := evalE (Φ L) (.cst (.bl true))) (fE := evalE (Φ L) (.cst (.int 1))) (tg := .nm 4) (env := [.val (.str Bs.p.nm), .val (.lst (xs.map .int)), .val (.int (m : Int)), .lst (((xs.length : Int) :: List.replicate m (0 : Int)).map .int), .non, s5, s6, .non, .non]) D.int (fun _ => true) (fun _ => .int 1) xs (fun _ _ => ⟨_, rfl, rfl, fun _ => rfl⟩)
          rw [List.filter_eq_self.mpr (fun _ _ => rfl)] at lc
          have := lc_abs (Φ := Φ L) (k := 0) (arg := .var 1) (x := .lst (xs.map .int)) (vs := [4]) (env := [.val (.str Bs.p.nm), .val (.lst (xs.map .int)), .val (.int (m : Int)), .lst (((xs.length : Int) :: List.replicate m (0 : Int)).map .int), s4, s5, s6, .non, .non]) (by decide) (by unfold evalE; rfl) rfl lc (Nat.ble_eq_true_of_le (by rw [List.length_map]; omega))
          refine (asg_val this).trans ?_
          unfold lpE
          rw [List.map_map]; rfl
        refine seq_nx (e := lpE .p xs m s.2 s.1 s4 s5 s6' .non) ?_ (seq_nx (e := [.val (.str Bs.p.nm), .val (.lst (xs.map .int)), .val (.int (m : Int)), .val (.lst (s.2.map .int)), s4, s5, s6', .val (.lst (s.1.map .int)), .non]) rfl rfl)
        have ea : evalE (Φ L) (.cons (.cst (.int 1)) (.cons (.bi .add (.cons (.var 2) (.cons (.cst (.int 1)) .nil))) .nil)) (lpE .p xs m ((xs.length : Int) :: List.replicate m (0 : Int)) (xs.map fun _ => 1) s4 s5 s6 .non) = some (.tup [.int 1, .int ((m + 1 : Nat) : Int)]) := by
          have := li_ea (Φ := Φ L) (m := m) (env := lpE .p xs m ((xs.length : Int) :: List.replicate m (0 : Int)) (xs.map fun _ => 1) s4 s5 s6 .non) (by unfold evalE; rfl)
          rw [evalE, show evalE (Φ L) (.cst (.int 1)) _ = some (D.int 1) from by unfold evalE; rfl]
          simp only
          rw [this]
        rw [for_val (x := .tup [.int 1, .int ((m + 1 : Nat) : Int)]) ea (walk2 hm) (by decide)]
        exact e2
    · rw [if_neg hb] at h
      cases h
      refine seq_nx (e := [.val (.str b.nm), .val (.lst (xs.map .int)), .val (.int (m : Int)), .val (.lst (row.map .int)), s4, s5, s6, .non, .non]) ?_ (ret_val (by unfold evalE; rfl))
      rw [ite_str (x := b.nm) rfl, show decide (b.nm = ("p" : Str)) = false from (nm_eq b .p).trans (decide_eq_false hb), if_neg (by decide)]
      rfl
/-! values -/
def lvT (row : List Int) (t : Int) (j : Int) : Option Int := if 0 ≤ j ∧ j < (row.length : Int) then mulO t (row.getD j.toNat 0) else none
def lvM (b : Bs) (p xs : List Int) : Option Int := match b with
  | .m => mnM xs p
  | .s => scM xs.reverse p
  | _ => (liV b p.sum.toNat xs).bind fun row => foldL (lvT row) p 1
theorem lv_list {b : Bs} (hb : b ≠ .m ∧ b ≠ .s) {p xs : List Int} {v : Int} (h : ((liV b p.sum.toNat xs).bind fun row => foldL (lvT row) p 1) = some v) (hp : p ∈ P12) (hx : xs.length ≤ 20) {L : Nat} : Φ (L + 2) .law_value [.str b.nm, pD p, .lst (xs.map .int)] = some (.int v) := by
  obtain ⟨h1, h2, h3⟩ := p12_pt hp
  cases q : liV b p.sum.toNat xs with
  | none => rw [q] at h; cases h
  | some row =>
    rw [q, Option.bind_some] at h
    have lv := ll_val q (by omega) hx L
    rw [Int.toNat_of_nonneg h2] at lv
    rw [Φ_succ]
    show plain 3 (Φ (L + 1)) i_law_value n_law_value _ = _
    unfold plain
    rw [if_pos (by rfl)]
    refine runS_rt ?_
    show evalS (Φ (L + 1)) i_law_value [.val (.str b.nm), .val (pD p), .val (.lst (xs.map .int)), .non, .non, .non] = _
    refine seq_nx (skip_str (x := b.nm) rfl ((nm_eq b .m).trans (decide_eq_false hb.1))) ?_
    refine seq_nx (skip_str (x := b.nm) rfl ((nm_eq b .s).trans (decide_eq_false hb.2))) ?_
    refine seq_nx (e := [.val (.str b.nm), .val (pD p), .val (.lst (xs.map .int)), .val (.lst (row.map .int)), .non, .non]) (asg_val ((call3_val (d := .str b.nm) (c := .lst (xs.map .int)) (a := .int p.sum) (by unfold evalE; rfl) (by unfold evalE; rfl) ((bi1_val (d := pD p) (by unfold evalE; rfl)).trans sum_bi)).trans lv)) ?_
    refine seq_nx (e := [.val (.str b.nm), .val (pD p), .val (.lst (xs.map .int)), .val (.lst (row.map .int)), .val (.int 1), .non]) rfl ?_
    obtain ⟨env', e1, a, e2⟩ := simL (f := lvT row) (dec := D.int) (R := fun (t : Int) env => ∃ a, env = [.val (.str b.nm), .val (pD p), .val (.lst (xs.map .int)), .val (.lst (row.map .int)), .val (.int t), a]) (body := evalS (Φ (L + 1)) (.asg 4 (.bi .mul (.cons (.var 4) (.cons (.bi .ix (.cons (.var 3) (.cons (.var 5) .nil))) .nil))))) (i := 5) (l := p) (by
      rintro j hj t t' env ⟨a, rfl⟩ ht
      refine ⟨[.val (.str b.nm), .val (pD p), .val (.lst (xs.map .int)), .val (.lst (row.map .int)), .val (.int t'), .val (.int j)], ?_, _, rfl⟩
      unfold lvT at ht
      by_cases c : 0 ≤ j ∧ j < (row.length : Int)
      · rw [if_pos c] at ht
        obtain ⟨k, rfl⟩ := Int.eq_ofNat_of_zero_le c.1
        rw [Int.toNat_natCast] at ht
        refine asg_val (d := .int t') ((bi2_val (d := .int t) (c := .int (row.getD k 0)) (by unfold evalE; rfl) ((bi2_val (d := .lst (row.map .int)) (c := .int (k : Int)) (by unfold evalE; rfl) (by unfold evalE; rfl)).trans (ixl_int (by omega)))).trans ?_)
        rw [mul_bi, ht]; rfl
      · rw [if_neg c] at ht; cases ht) h (env := [.val (.str b.nm), .val (pD p), .val (.lst (xs.map .int)), .val (.lst (row.map .int)), .val (.int 1), .non]) ⟨_, rfl⟩
    refine seq_nx (e := env') ?_ (by rw [e2]; rfl)
    rw [for_val (x := pD p) (by unfold evalE; rfl) rfl (by decide)]
    exact e1
theorem posP_self {p : List Int} (hp : p ∈ P12) : posP p = p := by
  unfold posP
  rw [List.filter_eq_self]
  intro j hj
  have := (p12_in hp hj).1
  exact decide_eq_true (by omega)
theorem lv_val {b : Bs} {p xs : List Int} {v : Int} (h : lvM b p xs = some v) (hp : p ∈ P12) (hx : xs.length ≤ 20) {L : Nat} (hL : 53 ≤ L) : Φ (L + 1) .law_value [.str b.nm, pD p, .lst (xs.map .int)] = some (.int v) := by
  have l4 := p12_len4 hp
  cases b with
  | m =>
    have := mn_val xs p h ⟨by omega, fun j hj => by have := p12_in hp hj; omega⟩ hx (L := L) (by omega)
    rw [Φ_succ]
    show plain 3 (Φ L) i_law_value n_law_value _ = _
    unfold plain
    rw [if_pos (by rfl)]
    refine runS_rt ?_
    show evalS (Φ L) i_law_value [.val (.str Bs.m.nm), .val (pD p), .val (.lst (xs.map .int)), .non, .non, .non] = _
    exact seq_rt (take_str (x := Bs.m.nm) rfl ((nm_eq .m .m).trans rfl) (ret_val ((call2_val rfl rfl).trans this)))
  | s =>
    have := sc_val xs.reverse p h (by rw [posP_self hp]; exact hp) (by omega) (by rw [List.length_reverse]; exact hx) (L := L) (by rw [List.length_reverse]; omega)
    rw [List.reverse_reverse] at this
    rw [Φ_succ]
    show plain 3 (Φ L) i_law_value n_law_value _ = _
    unfold plain
    rw [if_pos (by rfl)]
    refine runS_rt ?_
    show evalS (Φ L) i_law_value [.val (.str Bs.s.nm), .val (pD p), .val (.lst (xs.map .int)), .non, .non, .non] = _
    refine seq_nx (skip_str (x := Bs.s.nm) rfl ((nm_eq .s .m).trans rfl)) ?_
    exact seq_rt (take_str (x := Bs.s.nm) rfl ((nm_eq .s .s).trans rfl) (ret_val ((call2_val rfl rfl).trans this)))
  | e => obtain ⟨L, rfl⟩ : ∃ L', L = L' + 1 := ⟨L - 1, by omega⟩; exact lv_list (b := .e) (by decide) h hp hx
  | h => obtain ⟨L, rfl⟩ : ∃ L', L = L' + 1 := ⟨L - 1, by omega⟩; exact lv_list (b := .h) (by decide) h hp hx
  | p => obtain ⟨L, rfl⟩ : ∃ L', L = L' + 1 := ⟨L - 1, by omega⟩; exact lv_list (b := .p) (by decide) h hp hx
end FB

set_option Elab.async false
set_option linter.all false
set_option maxRecDepth 100000
set_option maxHeartbeats 1000000
/-! FBv5: the values at the letters, by the kernel. -/
namespace FB
open PySem L2
def dotI : List Int → List Int → Int
  | a :: r, b :: s => a * b + dotI r s
  | _, _ => 0
def mvs (n : Nat) (xs : List Int) : List Int := (PT n).map fun q => (lvM .m q xs).getD 0
def wv (xs : List Int) (k : Int) : Int := (lvM .p [k] xs).getD 0
def prodI (w : Int → Int) : List Int → Int
  | [] => 1
  | k :: r => w k * prodI w r
def chk1 (xs ms : List Int) (b : Bs) (p : List Int) : Bool := match lvM b p xs with
  | some v => decide (v.natAbs ≤ 24 ^ 10) && decide (v = dotI (mrow b p) ms)
  | none => false
def chkP (xs : List Int) (p : List Int) : Bool := match lvM .p p xs with
  | some v => decide (v = prodI (wv xs) p)
  | none => false
def chkN (xs : List Int) (n : Nat) : Bool := ((PT n).all fun p => bsL.all fun b => chk1 xs (mvs n xs) b p) && (PT n).all fun p => chkP xs p
def chkX (d : Nat) (xs : List Int) : Bool := (List.range (d + 1)).all fun n => chkN xs n
def L6 : List Int := [1, -1, 2, 3, -2, 0]
/-- the monomials of g in three letters -/
def ysM : Nat → Int → Int → Int → List Int
  | 0, a, b, c => [a, b, c]
  | 1, a, b, c => [a * b, a * c, b * c]
  | 2, a, b, c => [a * b, a * c, b * c, a * a, b * b, c * c]
  | 3, a, b, c => [a * a, b * b, c * c]
  | _, a, b, c => [a, b, c, a * b, a * c, b * c]
def insT : Nat → List TM
  | 0 => [([1], 1)]
  | 1 => [([2], -1/2), ([1, 1], 1/2)]
  | 2 => [([2], 1/2), ([1, 1], 1/2)]
  | 3 => [([2], 1)]
  | _ => [([1], 1), ([2], -1/2), ([1, 1], 1/2)]
def GD (pick : Nat) : Int := if pick = 0 then 1 else 2
def WR (xs : List Int) (k : Int) : Rat := (wv xs k : Rat)
def chkK (pick : Nat) (a b c : Int) : Bool := [(1 : Int), 2, 3, 4].all fun k => if k * GD pick ≤ 4 then decide (VS (PW (WR [a, b, c])) (strT k (insT pick)) = WR (ysM pick a b c) k) else true
def chkA (a b c : Int) : Bool := chkX 4 [a, b, c] && ([1, 2, 3, 4].all fun pick => chkX 2 (ysM pick a b c)) && [0, 1, 2, 3, 4].all fun pick => chkK pick a b c
theorem chk_1 : (L6.all fun b => L6.all fun c => chkA (1) b c) = true := by decide +kernel
theorem chk_2 : (L6.all fun b => L6.all fun c => chkA (-1) b c) = true := by decide +kernel
theorem chk_3 : (L6.all fun b => L6.all fun c => chkA (2) b c) = true := by decide +kernel
theorem chk_4 : (L6.all fun b => L6.all fun c => chkA (3) b c) = true := by decide +kernel
theorem chk_5 : (L6.all fun b => L6.all fun c => chkA (-2) b c) = true := by decide +kernel
theorem chk_6 : (L6.all fun b => L6.all fun c => chkA (0) b c) = true := by decide +kernel
theorem chk_all {a b c : Int} (ha : a ∈ L6) (hb : b ∈ L6) (hc : c ∈ L6) : chkA a b c = true := by
  have h : (L6.all fun b => L6.all fun c => chkA a b c) = true := by
    unfold L6 at ha
    simp only [List.mem_cons, List.not_mem_nil, or_false] at ha
    rcases ha with rfl | rfl | rfl | rfl | rfl | rfl
    · exact chk_1
    · exact chk_2
    · exact chk_3
    · exact chk_4
    · exact chk_5
    · exact chk_6
  exact List.all_eq_true.mp (List.all_eq_true.mp h b hb) c hc
end FB

set_option Elab.async false
set_option linter.all false
set_option maxRecDepth 100000
set_option maxHeartbeats 1000000
/-! FBv6: law_at. -/
namespace FB
open PySem L2
def VL (xs : List Int) : Vl := fun b p => if b = .p then PW (WR xs) p else (((lvM b p xs).getD 0 : Int) : Rat)
theorem VL_p (xs : List Int) : VL xs .p = PW (WR xs) := by
  funext p
  unfold VL
  rw [if_pos rfl]
theorem prodI_PW (xs : List Int) : ∀ p : List Int, ((prodI (wv xs) p : Int) : Rat) = PW (WR xs) p
  | [] => rfl
  | k :: r => by
    unfold prodI
    rw [Rat.intCast_mul, prodI_PW xs r]
    rfl
structure LvOk (xs : List Int) (n : Nat) (b : Bs) (p : List Int) (v : Int) : Prop where
  lv : lvM b p xs = some v
  bd : v.natAbs ≤ 24 ^ 10
  eq : VL xs b p = (v : Rat)
  dot : v = dotI (mrow b p) (mvs n xs)
theorem lv_ok {xs : List Int} {n : Nat} (h : chkN xs n = true) {p : List Int} (hp : p ∈ PT n) (b : Bs) : ∃ v, LvOk xs n b p v := by
  unfold chkN at h
  rw [Bool.and_eq_true] at h
  have h1 := List.all_eq_true.mp (List.all_eq_true.mp h.1 p hp) b (bs_all b)
  have h2 := List.all_eq_true.mp h.2 p hp
  unfold chk1 at h1
  unfold chkP at h2
  cases q : lvM b p xs with
  | none => rw [q] at h1; cases h1
  | some v =>
    rw [q] at h1
    simp only [Bool.and_eq_true, decide_eq_true_eq] at h1
    refine ⟨v, q, h1.1, ?_, h1.2⟩
    unfold VL
    by_cases hb : b = .p
    · subst hb
      rw [q] at h2
      simp only [decide_eq_true_eq] at h2
      rw [if_pos rfl, h2, prodI_PW]
    · rw [if_neg hb, q]; rfl
theorem dot_sum : ∀ (a b : List Int), a.length = b.length → ((dotI a b : Int) : Rat) = sumF (fun j => ((a.getD j 0 : Int) : Rat) * ((b.getD j 0 : Int) : Rat)) b.length
  | [], [], _ => rfl
  | [], _ :: _, h => nomatch h
  | _ :: _, [], h => nomatch h
  | x :: r, y :: s, h => by
    unfold dotI
    rw [List.length_cons, sumF_shift, Rat.intCast_add, Rat.intCast_mul, dot_sum r s (by simpa using h)]
    rfl
theorem mrow_len : ((List.range 5).all fun n => (PT n).all fun p => bsL.all fun b => decide ((mrow b p).length = pn n)) = true := by decide +kernel
theorem good_of {xs : List Int} {n : Nat} (hn : n ≤ 4) (h : chkN xs n = true) : GoodN (VL xs) n := by
  intro b i hi
  have hp : (PT n).getD i [] ∈ PT n := by
    rw [List.getD_eq_getElem?_getD, List.getElem?_eq_getElem hi]
    exact List.getElem_mem hi
  obtain ⟨v, k⟩ := lv_ok h hp b
  have ml := List.all_eq_true.mp (List.all_eq_true.mp (List.all_eq_true.mp mrow_len n (List.mem_range.mpr (by omega))) _ hp) b (bs_all b)
  rw [decide_eq_true_eq] at ml
  have l2 : (mvs n xs).length = pn n := by unfold mvs; rw [List.length_map]; rfl
  rw [k.eq, k.dot, dot_sum _ _ (by omega), l2]
  refine sumF_congr fun j hj => ?_
  have e1 : tat (TB b n) i j = (mrow b ((PT n).getD i [])).getD j 0 := by
    unfold tat TB
    congr 1
    rw [List.getD_eq_getElem?_getD, List.getD_eq_getElem?_getD, List.getElem?_map, List.getElem?_eq_getElem hi]
    rfl
  have e2 : VL xs .m ((PT n).getD j []) = (((mvs n xs).getD j 0 : Int) : Rat) := by
    unfold VL mvs
    rw [if_neg (by decide)]
    rw [List.getD_eq_getElem?_getD (l := List.map _ _), List.getElem?_map, List.getElem?_eq_getElem hj, List.getD_eq_getElem?_getD (l := PT n), List.getElem?_eq_getElem hj]
    rfl
  rw [e1, e2]
theorem chkX_N {d : Nat} {xs : List Int} (h : chkX d xs = true) {n : Nat} (hn : n ≤ d) : chkN xs n = true := List.all_eq_true.mp h n (List.mem_range.mpr (by omega))
theorem Ok.big {v : Int} (h : v.natAbs ≤ 24 ^ 10) : Ok 10 (v : Rat) := by
  refine ⟨v * ((24 ^ 10 : Nat) : Int), ?_, ?_⟩
  · have h2 : mkRat (v * ((24 ^ 10 : Nat) : Int)) (24 ^ 10) = mkRat v 1 := by
      have := Rat.mkRat_mul_right (n := v) (d := 1) (a := 24 ^ 10) (by decide)
      rwa [Nat.one_mul] at this
    rw [h2]
    have := Rat.mkRat_self (v : Rat)
    rw [Rat.num_intCast, Rat.den_intCast] at this
    exact this.symm
  · rw [Int.natAbs_mul, Int.natAbs_natCast]
    exact Nat.mul_le_mul_right _ h
theorem at_small {v : Int} (h : v.natAbs ≤ 24 ^ 10) : small v = true := small_iff.mpr (Nat.lt_of_le_of_lt h (by decide +kernel))
def atB : IS := (.asg 2 (.call .r_add (.cons (.var 2) (.cons (.call .r_mul (.cons (.var 4) (.cons (.call .ratio (.cons (.call .law_value (.cons (.fld 1 0 (.var 0)) (.cons (.var 3) (.cons (.var 1) .nil)))) (.cons (.cst (.int 1)) .nil))) .nil))) .nil))))
theorem at_val {xs : List Int} (hx : xs.length ≤ 20) {d : Nat} (hc : chkX d xs = true) (b : Bs) {k : Nat} {ts : List TM} (hin : ∀ t ∈ ts, t.1 ∈ P12 ∧ t.1.sum ≤ (d : Int)) (hok : ∀ t ∈ ts, Ok k t.2) (hlen : ts.length ≤ 12) (hk : k ≤ 150) {L : Nat} (hL : 60 ≤ L) : Φ (L + 1) .law_at [syD b.nm ts, .lst (xs.map .int)] = some (rtD (VS (VL xs b) ts)) := by
  obtain ⟨L, rfl⟩ : ∃ L', L = L' + 2 := ⟨L - 2, by omega⟩
  rw [Φ_succ]
  show plain 2 (Φ (L + 2)) i_law_at n_law_at _ = _
  unfold plain
  rw [if_pos (by rfl)]
  refine runS_rt ?_
  show evalS (Φ (L + 2)) i_law_at [.val (syD b.nm ts), .val (.lst (xs.map .int)), .non, .non, .non] = _
  have z := ratio_int (L + 1) (n := 0) (by decide +kernel)
  refine seq_nx (e := [.val (syD b.nm ts), .val (.lst (xs.map .int)), .val (rtD 0), .non, .non]) (asg_val ((call2_val (d := .int 0) (c := .int 1) (by unfold evalE; rfl) (by unfold evalE; rfl)).trans z)) ?_
  obtain ⟨env', h1, x3, x4, h2, -⟩ := forGo_list (l := ts.map tmD) (tg := .pr 3 4) (body := evalS (Φ (L + 2)) atB)
    (fun n env => ∃ s3 s4, env = [.val (syD b.nm ts), .val (.lst (xs.map .int)), .val (rtD (VS (VL xs b) (ts.take n))), s3, s4] ∧ Ok (k + 10 + n) (VS (VL xs b) (ts.take n))) (by
      rintro n e hd' hd ⟨x3, x4, rfl, ho⟩
      rw [List.getElem?_map] at hd
      rcases ht : ts[n]? with _ | t
      · rw [ht] at hd; cases hd
      rw [ht] at hd
      cases hd
      have hmem : t ∈ ts := List.mem_of_getElem? ht
      have hlt : n < ts.length := (List.getElem?_eq_some_iff.mp ht).1
      have tk : ts.take (n + 1) = ts.take n ++ [t] := by
        rw [List.take_succ, ht]; rfl
      obtain ⟨p1, p2⟩ := hin t hmem
      obtain ⟨q1, q2, q3⟩ := p12_pt p1
      obtain ⟨v, kv⟩ := lv_ok (chkX_N hc (n := t.1.sum.toNat) (by omega)) q1 b
      have lv := lv_val kv.lv p1 hx (L := L + 1) (by omega)
      have ri := ratio_int (L + 1) (at_small kv.bd)
      have ov := Ok.big kv.bd
      have m := r_mul_val L ((hok t hmem).sm (by omega)) (ov.sm (by omega))
      have om := (hok t hmem).mul ov
      have a := r_add_val L (ho.sm (by omega)) (om.sm (by omega))
      have ev : VS (VL xs b) (ts.take (n + 1)) = VS (VL xs b) (ts.take n) + t.2 * (v : Rat) := by
        rw [tk, VS_app, VS_cons, kv.eq]
        show _ + (_ + 0) = _
        rw [Rat.add_zero]
      refine ⟨[.val (syD b.nm ts), .val (.lst (xs.map .int)), .val (rtD (VS (VL xs b) (ts.take n))), .val (pD t.1), .val (rtD t.2)], [.val (syD b.nm ts), .val (.lst (xs.map .int)), .val (rtD (VS (VL xs b) (ts.take (n + 1)))), .val (pD t.1), .val (rtD t.2)], rfl, ?_, _, _, rfl, ?_⟩
      · rw [ev]
        refine asg_val ((call2_val (d := rtD (VS (VL xs b) (ts.take n))) (c := rtD (t.2 * (v : Rat))) (by unfold evalE; rfl) ?_).trans a)
        refine (call2_val (d := rtD t.2) (c := rtD (v : Rat)) (by unfold evalE; rfl) ?_).trans m
        refine (call2_val (d := .int v) (c := .int 1) ?_ (by unfold evalE; rfl)).trans ri
        refine (call3_val (d := .str b.nm) (c := pD t.1) (a := .lst (xs.map .int)) ?_ (by unfold evalE; rfl) (by unfold evalE; rfl)).trans lv
        unfold evalE evalE
        rfl
      · rw [ev]
        exact (ho.add (om.mono (by omega))).mono (by omega)) (ts.map tmD) 0 [.val (syD b.nm ts), .val (.lst (xs.map .int)), .val (rtD 0), .non, .non] (by simp) rfl ⟨_, _, rfl, Ok.zero _⟩
  rw [List.length_map, List.take_length] at h2
  refine seq_nx (e := env') ?_ (by rw [h2]; rfl)
  rw [for_val (x := .tup (ts.map tmD)) (by unfold evalE evalE; rfl) rfl (by decide)]
  exact h1
end FB

set_option Elab.async false
set_option linter.all false
set_option maxRecDepth 100000
set_option maxHeartbeats 1000000
/-! FBv7: f[g] at the letters is f at the monomials of g. -/
namespace FB
open PySem L2
def e2M : List TM := [([1, 1], 1)]
/-- g in the bases -/
def GT : Nat → Bs → List TM
  | 0, _ => [([1], 1)]
  | 1, .m => [([1, 1], 1)]
  | 1, .e => [([2], 1)]
  | 1, .h => [([2], -1), ([1, 1], 1)]
  | 1, .p => [([2], -1/2), ([1, 1], 1/2)]
  | 1, .s => [([1, 1], 1)]
  | 2, .m => [([2], 1), ([1, 1], 1)]
  | 2, .e => [([2], -1), ([1, 1], 1)]
  | 2, .h => [([2], 1)]
  | 2, .p => [([2], 1/2), ([1, 1], 1/2)]
  | 2, .s => [([2], 1)]
  | 3, .m => [([2], 1)]
  | 3, .e => [([2], -2), ([1, 1], 1)]
  | 3, .h => [([2], 2), ([1, 1], -1)]
  | 3, .p => [([2], 1)]
  | 3, .s => [([2], 1), ([1, 1], -1)]
  | _, .m => [([1], 1), ([1, 1], 1)]
  | _, .e => [([1], 1), ([2], 1)]
  | _, .h => [([1], 1), ([2], -1), ([1, 1], 1)]
  | _, .p => [([1], 1), ([2], -1/2), ([1, 1], 1/2)]
  | _, .s => [([1], 1), ([1, 1], 1)]
def gD (pick : Nat) (b : Bs) : D := syD b.nm (GT pick b)
def inD : Nat → D
  | 0 => syD Bs.e.nm [([1], 1)]
  | 1 => syD Bs.e.nm [([2], 1)]
  | 2 => syD Bs.h.nm [([2], 1)]
  | 3 => syD Bs.m.nm [([2], 1)]
  | _ => syD Bs.e.nm [([1], 1), ([2], 1)]
theorem g_tb : ([0, 1, 2, 3, 4].all fun k => bsL.all fun b => tb .in_base [inD k, .str b.nm] (gD k b) && tb .s_degree [gD k b] (.int (GD k)) && tb .in_base [gD k b, .str Bs.p.nm] (syD Bs.p.nm (insT k))) = true := by decide +kernel
theorem pick_in {k : Nat} (h : k < 5) : k ∈ [0, 1, 2, 3, 4] := by
  have : k = 0 ∨ k = 1 ∨ k = 2 ∨ k = 3 ∨ k = 4 := by omega
  rcases this with rfl | rfl | rfl | rfl | rfl <;> simp
theorem g_val {k : Nat} (hk : k < 5) (b : Bs) {L : Nat} (hL : 30 ≤ L) : Φ L .in_base [inD k, .str b.nm] = some (gD k b) ∧ Φ L .s_degree [gD k b] = some (.int (GD k)) ∧ Φ L .in_base [gD k b, .str Bs.p.nm] = some (syD Bs.p.nm (insT k)) := by
  have h := List.all_eq_true.mp (List.all_eq_true.mp g_tb k (pick_in hk)) b (bs_all b)
  rw [Bool.and_eq_true, Bool.and_eq_true] at h
  exact ⟨tb_eq h.1.1 hL, tb_eq h.1.2 hL, tb_eq h.2 hL⟩
theorem ones_tb : (tb .one [.str Bs.e.nm, pD [1]] (inD 0) && tb .one [.str Bs.e.nm, pD [2]] (inD 1) && tb .one [.str Bs.h.nm, pD [2]] (inD 2) && tb .one [.str Bs.m.nm, pD [2]] (inD 3) && tb .s_add [inD 0, inD 1] (inD 4) &&
  tb .one [.str Bs.s.nm, pD [3]] (syD Bs.s.nm [([3], 1)]) && tb .one [.str Bs.p.nm, pD [2, 1]] (syD Bs.p.nm [([2, 1], 1)]) && tb .one [.str Bs.h.nm, pD [1]] (syD Bs.h.nm [([1], 1)]) && tb .one [.str Bs.e.nm, .tup []] (syD Bs.e.nm [([], 1)]) &&
  tb .s_add [inD 0, syD Bs.e.nm [([], 1)]] (syD Bs.e.nm [([], 1), ([1], 1)]) && tb .s_degree [syD Bs.s.nm [([3], 1)]] (.int 3) && tb .s_degree [syD Bs.p.nm [([2, 1], 1)]] (.int 3) && tb .s_degree [syD Bs.h.nm [([1], 1)]] (.int 1) && tb .s_degree [syD Bs.e.nm [([], 1), ([1], 1)]] (.int 1) &&
  tb .in_base [syD Bs.e.nm [([], 1), ([1], 1)], .str Bs.p.nm] (syD Bs.p.nm [([], 1), ([1], 1)]) && tb .s_multiple [syD Bs.p.nm [([], 1), ([1], 1)], .tup []] (rtD 1) && tb .r_is_zero [rtD 1] (.bl false)) = true := by decide +kernel
theorem half_ok : Ok 2 (1/2 : Rat) ∧ Ok 2 (-1/2 : Rat) := by
  refine ⟨⟨288, by decide +kernel, by decide⟩, ⟨-288, by decide +kernel, by decide⟩⟩
theorem one_ok : Ok 2 (1 : Rat) := (Ok.int (t := 1) (by decide)).mono (by decide)
theorem ins_ok {k : Nat} (hk : k < 5) : InsOk (GD k) (insT k) ∧ fstT (insT k) [] = 0 := by
  have h : k = 0 ∨ k = 1 ∨ k = 2 ∨ k = 3 ∨ k = 4 := by omega
  have h1 := half_ok
  have h2 := one_ok
  rcases h with rfl | rfl | rfl | rfl | rfl
  all_goals
    refine ⟨⟨?_, ?_, ?_, by simp [insT], by simp [GD]⟩, by decide +kernel⟩
    · simp [insT]; try decide
    · simp [insT, GD]
    · simp [insT, h1, h2]
theorem mul_sm {a b : Int} (ha : a.natAbs ≤ 24) (hb : b.natAbs ≤ 24) : bival .mul [.int a, .int b] = some (.int (a * b)) := by
  rw [mul_bi]
  unfold mulO
  rw [small24 ha, small24 hb]
  rfl
theorem L6_sm {a : Int} (h : a ∈ L6) : a.natAbs ≤ 24 := by
  unfold L6 at h
  simp only [List.mem_cons, List.not_mem_nil, or_false] at h
  omega
theorem ml_tb : ([0, 1, 2, 3, 4].all fun k => L6.all fun a => L6.all fun b => L6.all fun c => tb .law_monomial_list [.int ((k : Nat) : Int), .lst ([a, b, c].map .int)] (.lst ((ysM k a b c).map .int))) = true := by decide +kernel
theorem ml_val {k : Nat} (hk : k < 5) {a b c : Int} (ha : a ∈ L6) (hb : b ∈ L6) (hc : c ∈ L6) {L : Nat} (hL : 30 ≤ L) : Φ L .law_monomial_list [.int (k : Int), .lst ([a, b, c].map .int)] = some (.lst ((ysM k a b c).map .int)) :=
  tb_eq (List.all_eq_true.mp (List.all_eq_true.mp (List.all_eq_true.mp (List.all_eq_true.mp ml_tb k (pick_in hk)) a ha) b hb) c hc) hL
theorem ys_len (k : Nat) (a b c : Int) : (ysM k a b c).length ≤ 20 := by
  unfold ysM
  split <;> simp
def fd3 (k : Nat) : Int := if k = 0 then 3 else 2
theorem core {L : Nat} (hL : 70 ≤ L) {k : Nat} (hk : k < 5) (bf bg : Bs) {prs : List TM} (hprs : ∀ t ∈ prs, t.1 ∈ P12 ∧ t.1.sum ≤ fd3 k ∧ Ok 1 t.2) (hl : prs.length ≤ 2) {a b c : Int} (ha : a ∈ L6) (hb : b ∈ L6) (hc : c ∈ L6) : ∃ ts' q,
    Φ L .put [syD bf.nm (nfT prs), gD k bg] = some (syD bf.nm ts') ∧ Φ L .law_at [syD bf.nm ts', .lst ([a, b, c].map .int)] = some (rtD q) ∧
    Φ L .law_monomial_list [.int (k : Int), .lst ([a, b, c].map .int)] = some (.lst ((ysM k a b c).map .int)) ∧ Φ L .law_at [syD bf.nm (nfT prs), .lst ((ysM k a b c).map .int)] = some (rtD q) := by
  obtain ⟨L, rfl⟩ : ∃ L', L = L' + 1 := ⟨L - 1, by omega⟩
  obtain ⟨I, hz⟩ := ins_ok hk
  obtain ⟨g1, g2, g3⟩ := g_val hk bg (L := L) (by omega)
  have cA := chk_all ha hb hc
  unfold chkA at cA
  rw [Bool.and_eq_true, Bool.and_eq_true] at cA
  obtain ⟨⟨c1, c2⟩, c3⟩ := cA
  have c3 := List.all_eq_true.mp c3 k (pick_in hk)
  have fmem : ∀ t ∈ nfT prs, t.1 ∈ P12 ∧ t.1.sum ≤ fd3 k := fun t ht => by
    obtain ⟨h1, h2, -, -⟩ := nf_mem ht
    obtain ⟨u, h3, h4⟩ := has_mem h2
    exact ⟨h1, by rw [← h4]; exact (hprs u h3).2.1⟩
  have fk : 2 ≤ fd3 k ∧ fd3 k ≤ 3 := by unfold fd3; split <;> omega
  have fdg : dg (nfT prs) ≤ fd3 k := dg_le (by omega) fun t ht => (fmem t ht).2
  have fG : fd3 k * GD k ≤ 4 := by unfold fd3 GD; split <;> decide
  have G12 : GD k = 1 ∨ GD k = 2 := by unfold GD; split <;> simp
  have fok : ∀ t ∈ nfT prs, Ok 3 t.2 := nf_ok (fun t ht => (hprs t ht).2.2) (by omega)
  have fl : (nfT prs).length ≤ 7 := nf_len7 fun t ht => by have := (hprs t ht).2.1; omega
  have dG4 : dg (nfT prs) * GD k ≤ 4 := by
    have : dg (nfT prs) * GD k ≤ fd3 k * GD k := Int.mul_le_mul_of_nonneg_right fdg (by omega)
    omega
  obtain ⟨ts', v, P⟩ := put_val (L := L) (by omega) (a := bf) I (gD := gD k bg) (fun t ht => (fmem t ht).1) fok fl (by omega) dG4 g2 g3 hz (by omega)
  have ysX : chkX (fd3 k).toNat (ysM k a b c) = true := by
    by_cases h0 : k = 0
    · subst h0
      refine List.all_eq_true.mpr fun n hn => ?_
      have : n < 5 := by have := List.mem_range.mp hn; simp [fd3] at this; omega
      exact chkX_N (xs := [a, b, c]) c1 (by omega)
    · have e : fd3 k = 2 := by unfold fd3; rw [if_neg h0]
      rw [e]
      have hm : k ∈ [1, 2, 3, 4] := by
        have := pick_in hk
        simp at this ⊢
        omega
      exact List.all_eq_true.mp c2 k hm
  have a1 := at_val (xs := [a, b, c]) (by simp) c1 bf (k := 110) (ts := ts') (fun t ht => ⟨P.mem t ht, (p12_pt (P.mem t ht)).2.2⟩) P.ok P.len (by omega) (L := L) (by omega)
  have a2 := at_val (xs := ysM k a b c) (ys_len k a b c) ysX bf (k := 3) (ts := nfT prs) (fun t ht => ⟨(fmem t ht).1, by have := (fmem t ht).2; omega⟩) fok (by omega) (by omega) (L := L) (by omega)
  have ev : VS (VL [a, b, c] bf) ts' = VS (VL (ysM k a b c) bf) (nfT prs) := by
    refine P.val (VL [a, b, c]) (VL (ysM k a b c)) (WR [a, b, c]) (WR (ysM k a b c)) (VL_p _) (VL_p _) (fun x hx h4 => ?_) (fun i hi => good_of hi (chkX_N c1 hi)) (fun i hi => good_of (by omega) (chkX_N ysX (by omega)))
    unfold chkK at c3
    have xm : x ∈ [(1 : Int), 2, 3, 4] := by
      have : x ≤ 4 := by rcases G12 with e | e <;> rw [e] at h4 <;> omega
      have : x = 1 ∨ x = 2 ∨ x = 3 ∨ x = 4 := by omega
      rcases this with rfl | rfl | rfl | rfl <;> simp
    have := List.all_eq_true.mp c3 x xm
    rw [if_pos h4] at this
    exact of_decide_eq_true this
  rw [ev] at a1
  exact ⟨ts', _, v, a1, ml_val hk ha hb hc (by omega), a2⟩
end FB

set_option Elab.async false
set_option linter.all false
set_option maxRecDepth 100000
set_option maxHeartbeats 4000000

/-! FBb0: the bodies of the defs (printed by gen_b.py). -/
namespace FB
open PySem PySem.Spec PyProof.Rows L2
variable {M : Md} {Φ : Fn → List D → Option D}

theorem d_is_integer : n_is_integer.Nodup := by decide +kernel
theorem b_is_integer (W : Facts M Φ) : SndB M Φ n_is_integer (defScope (top 9)) (defScope (top 9)) (defBody (top 9)) i_is_integer :=
  have nd := d_is_integer
  (sb_one (ss_ret (sn_andG (sn_isi (sn_var) W.isinstance (pe_tyN W.int) (.ty "int") isi_int) (sn_one (sn_not (sn_isi (sn_var) W.isinstance (pe_tyN W.bool) (.ty "bool") isi_bool))))))
theorem d_r_over : n_r_over.Nodup := by decide +kernel
theorem b_r_over (W : Facts M Φ) : SndB M Φ n_r_over (defScope (inClass (top 11) 8)) (defScope (inClass (top 11) 8)) (defBody (inClass (top 11) 8)) i_r_over :=
  have nd := d_r_over
  (sb_one (ss_ret (sn_make W.m_ratio (sa_cons (sn_bin (fun X hX => od_mul hX) (sn_fld 0 0 (sn_var) W.c0) (sn_fld 0 1 (sn_var) W.c0)) (sa_cons (sn_bin (fun X hX => od_mul hX) (sn_fld 0 1 (sn_var) W.c0) (sn_fld 0 0 (sn_var) W.c0)) sa_nil)) (.cons (.cons .nil)))))
theorem d_partitions : n_partitions.Nodup := by decide +kernel
theorem b_partitions (W : Facts M Φ) : SndB M Φ n_partitions (defScope (top 18)) (defScope (top 18)) (defBody (top 18)) i_partitions :=
  have nd := d_partitions
  (sb_cons (ss_if (st_w (sw_or (st_not (st_val (sn_isi (sn_var) W.isinstance (pe_tyN W.int) (.ty "int") isi_int))) (sw_or (st_val (sn_isi (sn_var) W.isinstance (pe_tyN W.bool) (.ty "bool") isi_bool)) (sw_or (st_cmp (fun X hX => od_lt hX) (sn_var) sn_int) (sw_or1 (st_cmp (fun X hX => od_gt hX) (sn_var) W.g_most_partition)))))) (sb_one ss_fail) sb_nil) (sb_one (ss_ret (sn_callTy (fun X hX => cd_ptupOf hX) rfl W.tuple rfl (sa_cons (sn_call W.f_partitions_below (sa_cons (sn_var) (sa_cons (sn_var) sa_nil)) (.cons (.cons .nil))) sa_nil)))))
theorem d_with_strip : n_with_strip.Nodup := by decide +kernel
theorem b_with_strip (W : Facts M Φ) : SndB M Φ n_with_strip (defScope (top 24)) (defScope (top 24)) (defBody (top 24)) i_with_strip :=
  have nd := d_with_strip
  (sb_cons (ss_if (st_val (sn_var)) (sb_one ss_fail) sb_nil) (sb_cons (ss_asg nd (sn_bin (fun X hX => od_add hX) (sn_callTy (fun X hX => cd_lstOf hX) rfl W.list rfl (sa_cons (sn_var) sa_nil)) (sn_lst (sl_lst (sa_cons sn_int sa_nil)) lst_of_lstD))) (sb_cons (ss_asg nd (sn_bin (fun X hX => od_add hX) (sn_lst (sl_lst (sa_cons (sn_bin (fun X hX => od_add hX) (sn_call W.f_part_at (sa_cons (sn_var) (sa_cons sn_int sa_nil)) (.cons (.cons .nil))) (sn_var)) sa_nil)) lst_of_lstD) (sn_callTy (fun X hX => cd_lstOf hX) rfl W.list rfl (sa_cons (sn_var) sa_nil)))) (sb_one (ss_ret (sn_callTy (fun X hX => cd_tupOf hX) rfl W.tuple rfl (sa_cons (sn_lst (sl_lc (own := [("row", 5)]) (by decide) nd (si_val (sn_call W.f_rows (sa_cons (sn_var) (sa_cons (sn_var) (sa_cons (sn_bin (fun X hX => od_add hX) (sn_callB (fun X hX => cd_sum hX) rfl W.sum rfl (sa_cons (sn_var) sa_nil)) (sn_var)) sa_nil))) (.cons (.cons (.cons .nil))))) (by decide +kernel) (sg_nm nd) sts_nil (sn_call W.f_trimmed (sa_cons (sn_var) sa_nil) (.cons .nil)) (by first | exact List.Mem.head _ | exact ⟨List.Mem.head _, List.Mem.tail _ (List.Mem.head _)⟩)) (lst_of_lc (by decide))) sa_nil)))))))
theorem d_whole_matrices : n_whole_matrices.Nodup := by decide +kernel
theorem b_whole_matrices (W : Facts M Φ) : SndB M Φ n_whole_matrices (defScope (top 32)) (defScope (top 32)) (defBody (top 32)) i_whole_matrices :=
  have nd := d_whole_matrices
  (sb_one (ss_ret (sn_call W.f_count_matrices (sa_cons (sn_var) (sa_cons (sn_var) (sa_cons (sn_callB (fun X hX => cd_sum hX) rfl W.sum rfl (sa_cons (sn_var) sa_nil)) sa_nil))) (.cons (.cons (.cons .nil))))))
theorem d_forward : n_forward.Nodup := by decide +kernel
theorem b_forward (W : Facts M Φ) : SndB M Φ n_forward (defScope (top 38)) (defScope (top 38)) (defBody (top 38)) i_forward :=
  have nd := d_forward
  (sb_cons (ss_newL nd (sl_lst sa_nil)) (sb_cons (ss_for (by decide) (si_r1 (sa_cons (sn_callB (fun X hX => cd_len hX) rfl W.len rfl (sa_cons (sn_var) sa_nil)) sa_nil) W.range) (sg_nm nd) (sb_cons (ss_asg nd (sn_ix (sn_var) (sn_var))) (sb_cons (ss_for (by decide) (si_r1 (sa_cons (sn_var) sa_nil) W.range) (sg_nm nd) (sb_one (ss_asg nd (sn_own W.o_r_sub (sn_var) (sn_own W.o_r_mul (sn_ixO (sn_var)) (sn_ix (sn_ix (sn_var) (sn_var)) (sn_var))))))) (sb_one (ss_app (sn_meth W.t_r_over W.c0 (sn_var) (sa_cons (sn_ix (sn_ix (sn_var) (sn_var)) (sn_var)) sa_nil))))))) (sb_one (ss_frz 2 (ss_ret (sn_callTy (fun X hX => cd_tupOf hX) rfl W.tuple rfl (sa_cons (sn_var) sa_nil)))))))
theorem d_check_part : n_check_part.Nodup := by decide +kernel
theorem b_check_part (W : Facts M Φ) : SndB M Φ n_check_part (defScope (top 53)) (defScope (top 53)) (defBody (top 53)) i_check_part :=
  have nd := d_check_part
  (sb_cons (ss_if (st_not (st_val (sn_call W.f_is_partition (sa_cons (sn_var) sa_nil) (.cons .nil)))) (sb_one ss_fail) sb_nil) (sb_one (ss_if (st_cmp (fun X hX => od_gt hX) (sn_call W.f_size (sa_cons (sn_var) sa_nil) (.cons .nil)) W.g_most_degree) (sb_one ss_fail) sb_nil)))
theorem d_s_is_zero : n_s_is_zero.Nodup := by decide +kernel
theorem b_s_is_zero (W : Facts M Φ) : SndB M Φ n_s_is_zero (defScope (inClass (top 59) 9)) (defScope (inClass (top 59) 9)) (defBody (inClass (top 59) 9)) i_s_is_zero :=
  have nd := d_s_is_zero
  (sb_one (ss_ret (sn_cmp (fun X hX => od_eq hX) (sn_callB (fun X hX => cd_len hX) rfl W.len rfl (sa_cons (sn_fld 1 1 (sn_var) W.c1) sa_nil)) sn_int)))
theorem d_put : n_put.Nodup := by decide +kernel
theorem b_put (W : Facts M Φ) : SndB M Φ n_put (defScope (top 67)) (defScope (top 67)) (defBody (top 67)) i_put :=
  have nd := d_put
  (sb_cons (ss_exp (sn_call W.f_check_degree (sa_cons (sn_bin (fun X hX => od_mul hX) (sn_callB (fun X hX => cd_max2 hX) rfl W.max rfl (sa_cons (sn_meth0 W.t_s_degree W.c1 (sn_var)) (sa_cons sn_int sa_nil))) (sn_callB (fun X hX => cd_max2 hX) rfl W.max rfl (sa_cons (sn_meth0 W.t_s_degree W.c1 (sn_var)) (sa_cons sn_int sa_nil)))) sa_nil) (.cons .nil))) (sb_cons (ss_asg nd (sn_call W.f_in_base (sa_cons (sn_var) (sa_cons sn_str sa_nil)) (.cons (.cons .nil)))) (sb_cons (ss_if (st_not (st_val (sn_meth0 W.t_r_is_zero W.c0 (sn_meth W.t_s_multiple W.c1 (sn_var) (sa_cons (sn_tup sa_nil) sa_nil))))) (sb_one ss_fail) sb_nil) (sb_cons (ss_asg nd (sn_lst (sl_lst sa_nil) lst_of_lstD)) (sb_cons (ss_for (by decide) (si_val (sn_fld 1 1 (sn_call W.f_in_base (sa_cons (sn_var) (sa_cons sn_str sa_nil)) (.cons (.cons .nil))) W.c1)) (sg_pr nd) (sb_cons (ss_asg nd (sn_lst (sl_lst (sa_cons (sn_tup (sa_cons (sn_tup sa_nil) (sa_cons (sn_var) sa_nil))) sa_nil)) lst_of_lstD)) (sb_cons (ss_for (by decide) (si_val (sn_var)) (sg_nm nd) (sb_cons (ss_newLc (own := [("own", 9), ("y", 10)]) (by decide) nd (si_val (sn_fld 1 1 (sn_var) W.c1)) (by decide +kernel) (sg_pr nd) sts_nil (sn_tup (sa_cons (sn_callTy (fun X hX => cd_tupOf hX) rfl W.tuple rfl (sa_cons (sn_lst (sl_lc (own := [("j", 11)]) (by decide) nd (si_val (sn_var)) (by decide +kernel) (sg_nm nd) sts_nil (sn_bin (fun X hX => od_mul hX) (sn_var) (sn_var)) (by first | exact List.Mem.head _ | exact ⟨List.Mem.head _, List.Mem.tail _ (List.Mem.head _)⟩)) (lst_of_lc (by decide))) sa_nil)) (sa_cons (sn_var) sa_nil))) (by first | exact List.Mem.head _ | exact ⟨List.Mem.head _, List.Mem.tail _ (List.Mem.head _)⟩)) (sb_one (ss_frz 8 (ss_asg nd (sn_call W.f_multiplied (sa_cons (sn_var) (sa_cons (sn_var) sa_nil)) (.cons (.cons .nil)))))))) (sb_one (ss_asg nd (sn_bin (fun X hX => od_add hX) (sn_var) (sn_var))))))) (sb_one (ss_ret (sn_call W.f_in_base (sa_cons (sn_make W.m_symmetric (sa_cons sn_str (sa_cons (sn_var) sa_nil)) (.cons (.cons .nil))) (sa_cons (sn_fld 1 0 (sn_var) W.c1) sa_nil)) (.cons (.cons .nil))))))))))
theorem d_law_schur : n_law_schur.Nodup := by decide +kernel
theorem b_law_schur (W : Facts M Φ) : SndB M Φ n_law_schur (defScope (top 76)) (defScope (top 76)) (defBody (top 76)) i_law_schur :=
  have nd := d_law_schur
  (sb_cons (ss_asg nd (sn_callTy (fun X hX => cd_tupOf hX) rfl W.tuple rfl (sa_cons (sn_lst (sl_lc (own := [("_law_k", 5)]) (by decide) nd (si_val (sn_var)) (by decide +kernel) (sg_nm nd) (sts_one (st_cmp (fun X hX => od_gt hX) (sn_var) sn_int)) (sn_var) (by first | exact List.Mem.head _ | exact ⟨List.Mem.head _, List.Mem.tail _ (List.Mem.head _)⟩)) (lst_of_lc (by decide))) sa_nil))) (sb_cons (ss_if (st_cmp (fun X hX => od_eq hX) (sn_callB (fun X hX => cd_len hX) rfl W.len rfl (sa_cons (sn_var) sa_nil)) sn_int) (sb_one (ss_ret sn_int)) sb_nil) (sb_cons (ss_if (st_cmp (fun X hX => od_gt hX) (sn_callB (fun X hX => cd_len hX) rfl W.len rfl (sa_cons (sn_var) sa_nil)) (sn_callB (fun X hX => cd_len hX) rfl W.len rfl (sa_cons (sn_var) sa_nil))) (sb_one (ss_ret sn_int)) sb_nil) (sb_cons (ss_asg nd sn_int) (sb_cons (ss_for (by decide) (si_val (sn_call W.f_law_smaller (sa_cons (sn_var) sa_nil) (.cons .nil))) (sg_nm nd) (sb_cons (ss_asg nd (sn_call W.f_law_power (sa_cons (sn_ix (sn_var) (sn_un (fun X hX => ud_neg) sn_int)) (sa_cons (sn_bin (fun X hX => od_sub hX) (sn_callB (fun X hX => cd_sum hX) rfl W.sum rfl (sa_cons (sn_var) sa_nil)) (sn_callB (fun X hX => cd_sum hX) rfl W.sum rfl (sa_cons (sn_var) sa_nil))) sa_nil)) (.cons (.cons .nil)))) (sb_one (ss_if (st_cmp (fun X hX => od_ne hX) (sn_var) sn_int) (sb_one (ss_asg nd (sn_bin (fun X hX => od_add hX) (sn_var) (sn_bin (fun X hX => od_mul hX) (sn_var) (sn_call W.f_law_schur (sa_cons (sn_var) (sa_cons (sn_sl_hi (sn_var) (sn_un (fun X hX => ud_neg) sn_int)) sa_nil)) (.cons (.cons .nil))))))) sb_nil)))) (sb_one (ss_ret (sn_var))))))))
end FB

set_option Elab.async false
set_option linter.all false
set_option maxRecDepth 100000
set_option maxHeartbeats 4000000

/-! FBb1: the bodies of the defs (printed by gen_b.py). -/
namespace FB
open PySem PySem.Spec PyProof.Rows L2
variable {M : Md} {Φ : Fn → List D → Option D}

theorem d_ratio : n_ratio.Nodup := by decide +kernel
theorem b_ratio (W : Facts M Φ) : SndB M Φ n_ratio (defScope (inClass (top 11) 0)) (defScope (inClass (top 11) 0)) (defBody (inClass (top 11) 0)) i_ratio :=
  have nd := d_ratio
  (sb_cons (ss_if (st_cmp (fun X hX => od_eq hX) (sn_var) sn_int) (sb_one ss_fail) sb_nil) (sb_cons (ss_asg nd (sn_ite (st_cmp (fun X hX => od_gt hX) (sn_var) sn_int) (W.gcd rfl (sa_cons (sn_var) (sa_cons (sn_var) sa_nil))) (sn_un (fun X hX => ud_neg) (W.gcd rfl (sa_cons (sn_var) (sa_cons (sn_var) sa_nil)))))) (sb_cons (ss_fld 0 0 (sn_bin (fun X hX => od_fdiv hX) (sn_var) (sn_var)) W.c0) (sb_one (ss_fld 0 1 (sn_bin (fun X hX => od_fdiv hX) (sn_var) (sn_var)) W.c0)))))
theorem d_r_is_zero : n_r_is_zero.Nodup := by decide +kernel
theorem b_r_is_zero (W : Facts M Φ) : SndB M Φ n_r_is_zero (defScope (inClass (top 11) 13)) (defScope (inClass (top 11) 13)) (defBody (inClass (top 11) 13)) i_r_is_zero :=
  have nd := d_r_is_zero
  (sb_one (ss_ret (sn_cmp (fun X hX => od_eq hX) (sn_fld 0 0 (sn_var) W.c0) sn_int)))
theorem d_part_at : n_part_at.Nodup := by decide +kernel
theorem b_part_at (W : Facts M Φ) : SndB M Φ n_part_at (defScope (top 19)) (defScope (top 19)) (defBody (top 19)) i_part_at :=
  have nd := d_part_at
  (sb_one (ss_ret (sn_ite (st_cmp (fun X hX => od_lt hX) (sn_var) (sn_callB (fun X hX => cd_len hX) rfl W.len rfl (sa_cons (sn_var) sa_nil))) (sn_ix (sn_var) (sn_var)) sn_int)))
theorem d_joined : n_joined.Nodup := by decide +kernel
theorem b_joined (W : Facts M Φ) : SndB M Φ n_joined (defScope (top 25)) (defScope (top 25)) (defBody (top 25)) i_joined :=
  have nd := d_joined
  (sb_one (ss_ret (sn_callTy (fun X hX => cd_tupOf hX) rfl W.tuple rfl (sa_cons (sn_sortR (sn_bin (fun X hX => od_add hX) (sn_var) (sn_var)) (hm := W.sorted)) sa_nil))))
theorem d_mergings : n_mergings.Nodup := by decide +kernel
theorem b_mergings (W : Facts M Φ) : SndB M Φ n_mergings (defScope (top 33)) (defScope (top 33)) (defBody (top 33)) i_mergings :=
  have nd := d_mergings
  (sb_cons (ss_newD1 nd (sn_callTy (fun X hX => cd_tupOf hX) rfl W.tuple rfl (sa_cons (sn_callB (fun X hX => cd_sorted hX) rfl W.sorted rfl (sa_cons (sn_var) sa_nil)) sa_nil)) sn_int) (sb_cons (ss_for (by decide) (si_val (sn_var)) (sg_nm nd) (sb_cons (ss_newD nd) (sb_cons (ss_forD (sg_nm nd) (sb_one (ss_for (by decide) (si_r1 (sa_cons (sn_callB (fun X hX => cd_len hX) rfl W.len rfl (sa_cons (sn_var) sa_nil)) sa_nil) W.range) (sg_nm nd) (sb_one (ss_if (st_cmp (fun X hX => od_ge hX) (sn_ix (sn_var) (sn_var)) (sn_var)) (sb_cons (ss_asg nd (sn_callTy (fun X hX => cd_tupOf hX) rfl W.tuple rfl (sa_cons (sn_callB (fun X hX => cd_sorted hX) rfl W.sorted rfl (sa_cons (sn_bin (fun X hX => od_add hX) (sn_bin (fun X hX => od_add hX) (sn_sl_hi (sn_var) (sn_var)) (sn_tup (sa_cons (sn_bin (fun X hX => od_sub hX) (sn_ix (sn_var) (sn_var)) (sn_var)) sa_nil))) (sn_sl_lo (sn_var) (sn_bin (fun X hX => od_add hX) (sn_var) sn_int))) sa_nil)) sa_nil))) (sb_one (ss_setD (sn_var) (sn_bin (fun X hX => od_add hX) (sn_dget2 (sn_var) sn_int) (sn_dget (sn_var)))))) sb_nil))))) (sb_one (ss_movD nd (by decide)))))) (sb_one (ss_ret (sn_callB (fun X hX => cd_sum hX) rfl W.sum rfl (sa_cons (sn_lst (sl_lcD (own := [("left", 5)]) nd (by decide +kernel) (sg_nm nd) (sts_one (st_cmp (fun X hX => od_eq hX) (sn_callB (fun X hX => cd_sum hX) rfl W.sum rfl (sa_cons (sn_var) sa_nil)) sn_int)) (sn_dget (sn_var)) (by first | exact List.Mem.head _ | exact ⟨List.Mem.head _, List.Mem.tail _ (List.Mem.head _)⟩)) (lst_of_lcD)) sa_nil))))))
theorem d_backward : n_backward.Nodup := by decide +kernel
theorem b_backward (W : Facts M Φ) : SndB M Φ n_backward (defScope (top 39)) (defScope (top 39)) (defBody (top 39)) i_backward :=
  have nd := d_backward
  (sb_cons (ss_asg nd (sn_callB (fun X hX => cd_len hX) rfl W.len rfl (sa_cons (sn_var) sa_nil))) (sb_cons (ss_asg nd (sn_callTy (fun X hX => cd_tupOf hX) rfl W.tuple rfl (sa_cons (sn_lst (sl_lc (own := [("i", 4)]) (by decide) nd (si_r1 (sa_cons (sn_var) sa_nil) W.range) (by decide +kernel) (sg_nm nd) sts_nil (sn_callTy (fun X hX => cd_tupOf hX) rfl W.tuple rfl (sa_cons (sn_lst (sl_lc (own := [("j", 5)]) (by decide) nd (si_r1 (sa_cons (sn_var) sa_nil) W.range) (by decide +kernel) (sg_nm nd) sts_nil (sn_ix (sn_ix (sn_var) (sn_bin (fun X hX => od_sub hX) (sn_bin (fun X hX => od_sub hX) (sn_var) sn_int) (sn_var))) (sn_bin (fun X hX => od_sub hX) (sn_bin (fun X hX => od_sub hX) (sn_var) sn_int) (sn_var))) (by first | exact List.Mem.head _ | exact ⟨List.Mem.head _, List.Mem.tail _ (List.Mem.head _)⟩)) (lst_of_lc (by decide))) sa_nil)) (by first | exact List.Mem.head _ | exact ⟨List.Mem.head _, List.Mem.tail _ (List.Mem.head _)⟩)) (lst_of_lc (by decide))) sa_nil))) (sb_one (ss_ret (sn_rev (sn_call W.f_forward (sa_cons (sn_rev (sn_var)) (sa_cons (sn_var) sa_nil)) (.cons (.cons .nil))))))))
theorem d_added_parts : n_added_parts.Nodup := by decide +kernel
theorem b_added_parts (W : Facts M Φ) : SndB M Φ n_added_parts (defScope (top 57)) (defScope (top 57)) (defBody (top 57)) i_added_parts :=
  have nd := d_added_parts
  (sb_cons (ss_newD nd) (sb_cons (ss_for (by decide) (si_val (sn_var)) (sg_pr nd) (sb_one (ss_if (st_din .In rfl (sn_var)) (sb_one (ss_setD (sn_var) (sn_own W.o_r_add (sn_dget (sn_var)) (sn_var)))) (sb_one (ss_setD (sn_var) (sn_var)))))) (sb_cons (ss_newL nd (sl_lst sa_nil)) (sb_cons (ss_for (by decide) (si_r1 (sa_cons (sn_bin (fun X hX => od_add hX) W.g_most_degree sn_int) sa_nil) W.range) (sg_nm nd) (sb_one (ss_ext (sn_lst (sl_lc (own := [("part", 4)]) (by decide) nd (si_val (sn_call W.f_partitions (sa_cons (sn_var) sa_nil) (.cons .nil))) (by decide +kernel) (sg_nm nd) (sts_one (st_w (sw_and (st_din .In rfl (sn_var)) (sw_and1 (st_not (st_val (sn_meth0 W.t_r_is_zero W.c0 (sn_dget (sn_var))))))))) (sn_tup (sa_cons (sn_var) (sa_cons (sn_dget (sn_var)) sa_nil))) (by first | exact List.Mem.head _ | exact ⟨List.Mem.head _, List.Mem.tail _ (List.Mem.head _)⟩)) (lst_of_lc (by decide)))))) (sb_one (ss_frz 2 (ss_ret (sn_callTy (fun X hX => cd_tupOf hX) rfl W.tuple rfl (sa_cons (sn_var) sa_nil)))))))))
theorem d_s_part_of : n_s_part_of.Nodup := by decide +kernel
theorem b_s_part_of (W : Facts M Φ) : SndB M Φ n_s_part_of (defScope (inClass (top 59) 10)) (defScope (inClass (top 59) 10)) (defBody (inClass (top 59) 10)) i_s_part_of :=
  have nd := d_s_part_of
  (sb_one (ss_ret (sn_make W.m_symmetric (sa_cons (sn_fld 1 0 (sn_var) W.c1) (sa_cons (sn_lst (sl_lc (own := [("part", 2), ("c", 3)]) (by decide) nd (si_val (sn_fld 1 1 (sn_var) W.c1)) (by decide +kernel) (sg_pr nd) (sts_one (st_cmp (fun X hX => od_eq hX) (sn_call W.f_size (sa_cons (sn_var) sa_nil) (.cons .nil)) (sn_var))) (sn_tup (sa_cons (sn_var) (sa_cons (sn_var) sa_nil))) (by first | exact List.Mem.head _ | exact ⟨List.Mem.head _, List.Mem.tail _ (List.Mem.head _)⟩)) (lst_of_lc (by decide))) sa_nil)) (.cons (.cons .nil)))))
theorem d_law_partitions : n_law_partitions.Nodup := by decide +kernel
theorem b_law_partitions (W : Facts M Φ) : SndB M Φ n_law_partitions (defScope (top 71)) (defScope (top 71)) (defBody (top 71)) i_law_partitions :=
  have nd := d_law_partitions
  (sb_cons (ss_if (st_cmp (fun X hX => od_eq hX) (sn_var) sn_int) (sb_one (ss_ret (sn_lst (sl_lst (sa_cons (sn_tup sa_nil) sa_nil)) lst_of_lstD))) sb_nil) (sb_cons (ss_newL nd (sl_lst sa_nil)) (sb_cons (ss_for (by decide) (si_r3 (sn_callB (fun X hX => cd_min2 hX) rfl W.min rfl (sa_cons (sn_var) (sa_cons (sn_var) sa_nil))) sn_int W.range) (sg_nm nd) (sb_one (ss_for (by decide) (si_val (sn_call W.f_law_partitions (sa_cons (sn_bin (fun X hX => od_sub hX) (sn_var) (sn_var)) (sa_cons (sn_var) sa_nil)) (.cons (.cons .nil)))) (sg_nm nd) (sb_one (ss_app (sn_bin (fun X hX => od_add hX) (sn_tup (sa_cons (sn_var) sa_nil)) (sn_var))))))) (sb_one (ss_frz 2 (ss_ret (sn_var)))))))
theorem d_law_value : n_law_value.Nodup := by decide +kernel
theorem b_law_value (W : Facts M Φ) : SndB M Φ n_law_value (defScope (top 77)) (defScope (top 77)) (defBody (top 77)) i_law_value :=
  have nd := d_law_value
  (sb_cons (ss_if (st_cmp (fun X hX => od_eq hX) (sn_var) sn_str) (sb_one (ss_ret (sn_call W.f_law_monomials (sa_cons (sn_var) (sa_cons (sn_var) sa_nil)) (.cons (.cons .nil))))) sb_nil) (sb_cons (ss_if (st_cmp (fun X hX => od_eq hX) (sn_var) sn_str) (sb_one (ss_ret (sn_call W.f_law_schur (sa_cons (sn_var) (sa_cons (sn_var) sa_nil)) (.cons (.cons .nil))))) sb_nil) (sb_cons (ss_asg nd (sn_call W.f_law_list (sa_cons (sn_var) (sa_cons (sn_var) (sa_cons (sn_callB (fun X hX => cd_sum hX) rfl W.sum rfl (sa_cons (sn_var) sa_nil)) sa_nil))) (.cons (.cons (.cons .nil))))) (sb_cons (ss_asg nd sn_int) (sb_cons (ss_for (by decide) (si_val (sn_var)) (sg_nm nd) (sb_one (ss_asg nd (sn_bin (fun X hX => od_mul hX) (sn_var) (sn_ix (sn_var) (sn_var)))))) (sb_one (ss_ret (sn_var))))))))
end FB

set_option Elab.async false
set_option linter.all false
set_option maxRecDepth 100000
set_option maxHeartbeats 4000000

/-! FBb2: the bodies of the defs (printed by gen_b.py). -/
namespace FB
open PySem PySem.Spec PyProof.Rows L2
variable {M : Md} {Φ : Fn → List D → Option D}

theorem d_r_add : n_r_add.Nodup := by decide +kernel
theorem b_r_add (W : Facts M Φ) : SndB M Φ n_r_add (defScope (inClass (top 11) 1)) (defScope (inClass (top 11) 1)) (defBody (inClass (top 11) 1)) i_r_add :=
  have nd := d_r_add
  (sb_one (ss_ret (sn_make W.m_ratio (sa_cons (sn_bin (fun X hX => od_add hX) (sn_bin (fun X hX => od_mul hX) (sn_fld 0 0 (sn_var) W.c0) (sn_fld 0 1 (sn_var) W.c0)) (sn_bin (fun X hX => od_mul hX) (sn_fld 0 0 (sn_var) W.c0) (sn_fld 0 1 (sn_var) W.c0))) (sa_cons (sn_bin (fun X hX => od_mul hX) (sn_fld 0 1 (sn_var) W.c0) (sn_fld 0 1 (sn_var) W.c0)) sa_nil)) (.cons (.cons .nil)))))
theorem d_zero : n_zero.Nodup := by decide +kernel
theorem b_zero (W : Facts M Φ) : SndB M Φ n_zero (defScope (top 12)) (defScope (top 12)) (defBody (top 12)) i_zero :=
  have nd := d_zero
  (sb_one (ss_ret (sn_make W.m_ratio1 (sa_cons sn_int sa_nil) (.cons .nil))))
theorem d_turned : n_turned.Nodup := by decide +kernel
theorem b_turned (W : Facts M Φ) : SndB M Φ n_turned (defScope (top 20)) (defScope (top 20)) (defBody (top 20)) i_turned :=
  have nd := d_turned
  (sb_one (ss_ret (sn_callTy (fun X hX => cd_tupOf hX) rfl W.tuple rfl (sa_cons (sn_lst (sl_lc (own := [("j", 1)]) (by decide) nd (si_r1 (sa_cons (sn_call W.f_part_at (sa_cons (sn_var) (sa_cons sn_int sa_nil)) (.cons (.cons .nil))) sa_nil) W.range) (by decide +kernel) (sg_nm nd) sts_nil (sn_callB (fun X hX => cd_len hX) rfl W.len rfl (sa_cons (sn_lst (sl_lc (own := [("part", 2)]) (by decide) nd (si_val (sn_var)) (by decide +kernel) (sg_nm nd) (sts_one (st_cmp (fun X hX => od_gt hX) (sn_var) (sn_var))) (sn_var) (by first | exact List.Mem.head _ | exact ⟨List.Mem.head _, List.Mem.tail _ (List.Mem.head _)⟩)) (lst_of_lc (by decide))) sa_nil)) (by first | exact List.Mem.head _ | exact ⟨List.Mem.head _, List.Mem.tail _ (List.Mem.head _)⟩)) (lst_of_lc (by decide))) sa_nil))))
theorem d_count_fillings : n_count_fillings.Nodup := by decide +kernel
theorem b_count_fillings (W : Facts M Φ) : SndB M Φ n_count_fillings (defScope (top 27)) (defScope (top 27)) (defBody (top 27)) i_count_fillings :=
  have nd := d_count_fillings
  (sb_cons (ss_newDk nd (sn_var) sn_int) (sb_cons (ss_for (by decide) (si_val (sn_var)) (sg_nm nd) (sb_cons (ss_newD nd) (sb_cons (ss_for (by decide) (si_val (sn_sortD W.sorted)) (sg_nm nd) (sb_one (ss_for (by decide) (si_val (sn_call W.f_with_strip (sa_cons (sn_var) (sa_cons (sn_var) sa_nil)) (.cons (.cons .nil)))) (sg_nm nd) (sb_one (ss_if (st_val (sn_call W.f_holds (sa_cons (sn_var) (sa_cons (sn_var) sa_nil)) (.cons (.cons .nil)))) (sb_one (ss_setD (sn_var) (sn_bin (fun X hX => od_add hX) (sn_dget2 (sn_var) sn_int) (sn_dget (sn_var))))) sb_nil))))) (sb_one (ss_cpyD nd W.dict))))) (sb_one (ss_ret (sn_dget2 (sn_var) sn_int)))))
theorem d_entry : n_entry.Nodup := by decide +kernel
theorem b_entry (W : Facts M Φ) : SndB M Φ n_entry (defScope (top 34)) (defScope (top 34)) (defBody (top 34)) i_entry :=
  have nd := d_entry
  (sb_cons (ss_if (st_cmp (fun X hX => od_eq hX) (sn_var) sn_str) (sb_one (ss_ret (sn_callTy (fun X hX => cd_intOf hX) rfl W.int rfl (sa_cons (sn_cmp (fun X hX => od_eq hX) (sn_var) (sn_var)) sa_nil)))) sb_nil) (sb_cons (ss_if (st_cmp (fun X hX => od_eq hX) (sn_var) sn_str) (sb_one (ss_ret (sn_call W.f_zero_one_matrices (sa_cons (sn_var) (sa_cons (sn_var) sa_nil)) (.cons (.cons .nil))))) sb_nil) (sb_cons (ss_if (st_cmp (fun X hX => od_eq hX) (sn_var) sn_str) (sb_one (ss_ret (sn_call W.f_whole_matrices (sa_cons (sn_var) (sa_cons (sn_var) sa_nil)) (.cons (.cons .nil))))) sb_nil) (sb_cons (ss_if (st_cmp (fun X hX => od_eq hX) (sn_var) sn_str) (sb_one (ss_ret (sn_call W.f_mergings (sa_cons (sn_var) (sa_cons (sn_var) sa_nil)) (.cons (.cons .nil))))) sb_nil) (sb_one (ss_ret (sn_call W.f_count_fillings (sa_cons (sn_var) (sa_cons (sn_var) sa_nil)) (.cons (.cons .nil)))))))))
theorem d_fillings_table : n_fillings_table.Nodup := by decide +kernel
theorem b_fillings_table (W : Facts M Φ) : SndB M Φ n_fillings_table (defScope (top 40)) (defScope (top 40)) (defBody (top 40)) i_fillings_table :=
  have nd := d_fillings_table
  (sb_one (ss_ret (sn_callTy (fun X hX => cd_tupOf hX) rfl W.tuple rfl (sa_cons (sn_lst (sl_lc (own := [("part", 1)]) (by decide) nd (si_val (sn_var)) (by decide +kernel) (sg_nm nd) sts_nil (sn_call W.f_monomial_row (sa_cons sn_str (sa_cons (sn_var) sa_nil)) (.cons (.cons .nil))) (by first | exact List.Mem.head _ | exact ⟨List.Mem.head _, List.Mem.tail _ (List.Mem.head _)⟩)) (lst_of_lc (by decide))) sa_nil))))
theorem d_symmetric : n_symmetric.Nodup := by decide +kernel
theorem b_symmetric (W : Facts M Φ) : SndB M Φ n_symmetric (defScope (inClass (top 59) 0)) (defScope (inClass (top 59) 0)) (defBody (inClass (top 59) 0)) i_symmetric :=
  have nd := d_symmetric
  (sb_cons (ss_if (st_w (sw_or (st_not (st_val (sn_isi (sn_var) W.isinstance (pe_tyN W.str) (.ty "str") isi_str))) (sw_or (st_cmp (fun X hX => od_ne hX) (sn_callB (fun X hX => cd_len hX) rfl W.len rfl (sa_cons (sn_var) sa_nil)) sn_int) (sw_or (st_cmp (fun X hX => od_notInS hX) (sn_var) W.g_bases) (sw_or1 (st_not (st_val (sn_isSeq (sn_var) W.isinstance W.list W.tuple)))))))) (sb_one ss_fail) sb_nil) (sb_cons (ss_newL nd (sl_lst sa_nil)) (sb_cons (ss_for (by decide) (si_val (sn_var)) (sg_nm nd) (sb_cons (ss_if (st_w (sw_or (st_not (st_val (sn_isi (sn_var) W.isinstance (pe_tyN W.tuple) (.ty "tuple") isi_tuple))) (sw_or (st_cmp (fun X hX => od_ne hX) (sn_callB (fun X hX => cd_len hX) rfl W.len rfl (sa_cons (sn_var) sa_nil)) sn_int) (sw_or1 (st_not (st_val (sn_call W.f_is_partition (sa_cons (sn_ix (sn_var) sn_int) sa_nil) (.cons .nil)))))))) (sb_one ss_fail) sb_nil) (sb_one (ss_app (sn_tup (sa_cons (sn_ix (sn_var) sn_int) (sa_cons (sn_call W.f_as_ratio (sa_cons (sn_ix (sn_var) sn_int) sa_nil) (.cons .nil)) sa_nil))))))) (sb_cons (ss_frz 3 (ss_for (by decide) (si_val (sn_var)) (sg_pr nd) (sb_one (ss_exp (sn_call W.f_check_part (sa_cons (sn_var) sa_nil) (.cons .nil)))))) (sb_cons (ss_fld 1 0 (sn_var) W.c1) (sb_one (ss_fld 1 1 (sn_call W.f_added_parts (sa_cons (sn_var) sa_nil) (.cons .nil)) W.c1)))))))
theorem d_one : n_one.Nodup := by decide +kernel
theorem b_one (W : Facts M Φ) : SndB M Φ n_one (defScope (top 61)) (defScope (top 61)) (defBody (top 61)) i_one :=
  have nd := d_one
  (sb_one (ss_ret (sn_make W.m_symmetric (sa_cons (sn_var) (sa_cons (sn_lst (sl_lst (sa_cons (sn_tup (sa_cons (sn_var) (sa_cons sn_int sa_nil))) sa_nil)) lst_of_lstD) sa_nil)) (.cons (.cons .nil)))))
theorem d_law_list : n_law_list.Nodup := by decide +kernel
theorem b_law_list (W : Facts M Φ) : SndB M Φ n_law_list (defScope (top 72)) (defScope (top 72)) (defBody (top 72)) i_law_list :=
  have nd := d_law_list
  (sb_cons (ss_asg nd (sn_bin (fun X hX => od_add hX) (sn_lst (sl_lst (sa_cons sn_int sa_nil)) lst_of_lstD) (sn_lst (sl_lc (own := [("_law_k", 6)]) (by decide) nd (si_r1 (sa_cons (sn_var) sa_nil) W.range) (by decide +kernel) (sg_nm nd) sts_nil sn_int (by first | exact List.Mem.head _ | exact ⟨List.Mem.head _, List.Mem.tail _ (List.Mem.head _)⟩)) (lst_of_lc (by decide))))) (sb_cons (ss_for (by decide) (si_val (sn_var)) (sg_nm nd) (sb_cons (ss_newLc (own := [("_law_k", 6)]) (by decide) nd (si_r1 (sa_cons (sn_bin (fun X hX => od_add hX) (sn_var) sn_int) sa_nil) W.range) (by decide +kernel) (sg_nm nd) sts_nil sn_int (by first | exact List.Mem.head _ | exact ⟨List.Mem.head _, List.Mem.tail _ (List.Mem.head _)⟩)) (sb_cons (ss_for (by decide) (si_r1 (sa_cons (sn_bin (fun X hX => od_add hX) (sn_var) sn_int) sa_nil) W.range) (sg_nm nd) (sb_cons (ss_setL (sn_var) (sn_ix (sn_var) (sn_var))) (sb_cons (ss_if (st_w (sw_and (st_cmp (fun X hX => od_gt hX) (sn_var) sn_int) (sw_and1 (st_cmp (fun X hX => od_eq hX) (sn_var) sn_str)))) (sb_one (ss_setL (sn_var) (sn_bin (fun X hX => od_add hX) (sn_ixO (sn_var)) (sn_bin (fun X hX => od_mul hX) (sn_var) (sn_ix (sn_var) (sn_bin (fun X hX => od_sub hX) (sn_var) sn_int)))))) sb_nil) (sb_one (ss_if (st_w (sw_and (st_cmp (fun X hX => od_gt hX) (sn_var) sn_int) (sw_and1 (st_cmp (fun X hX => od_eq hX) (sn_var) sn_str)))) (sb_one (ss_setL (sn_var) (sn_bin (fun X hX => od_add hX) (sn_ixO (sn_var)) (sn_bin (fun X hX => od_mul hX) (sn_var) (sn_ixO (sn_bin (fun X hX => od_sub hX) (sn_var) sn_int)))))) sb_nil))))) (sb_one (ss_frz 5 (ss_asg nd (sn_var))))))) (sb_cons (ss_if (st_cmp (fun X hX => od_eq hX) (sn_var) sn_str) (sb_cons (ss_newL nd (sl_add (sn_lst (sl_lst (sa_cons (sn_callB (fun X hX => cd_len hX) rfl W.len rfl (sa_cons (sn_var) sa_nil)) sa_nil)) lst_of_lstD) (sn_lst (sl_lc (own := [("_law_k", 6)]) (by decide) nd (si_r1 (sa_cons (sn_var) sa_nil) W.range) (by decide +kernel) (sg_nm nd) sts_nil sn_int (by first | exact List.Mem.head _ | exact ⟨List.Mem.head _, List.Mem.tail _ (List.Mem.head _)⟩)) (lst_of_lc (by decide))))) (sb_cons (ss_asgC nd (sn_lst (sl_lc (own := [("_law_x", 4)]) (by decide) nd (si_val (sn_var)) (by decide +kernel) (sg_nm nd) sts_nil sn_int (by first | exact List.Mem.head _ | exact ⟨List.Mem.head _, List.Mem.tail _ (List.Mem.head _)⟩)) (lst_of_lc (by decide)))) (sb_cons (ss_for (by decide) (si_r2 (sa_cons sn_int (sa_cons (sn_bin (fun X hX => od_add hX) (sn_var) sn_int) sa_nil)) W.range) (sg_nm nd) (sb_cons (ss_asgC nd (sn_lst (sl_lc (own := [("_law_i", 8)]) (by decide) nd (si_r1 (sa_cons (sn_callB (fun X hX => cd_len hX) rfl W.len rfl (sa_cons (sn_var) sa_nil)) sa_nil) W.range) (by decide +kernel) (sg_nm nd) sts_nil (sn_bin (fun X hX => od_mul hX) (sn_ix (sn_var) (sn_var)) (sn_ix (sn_var) (sn_var))) (by first | exact List.Mem.head _ | exact ⟨List.Mem.head _, List.Mem.tail _ (List.Mem.head _)⟩)) (lst_of_lc (by decide)))) (sb_one (ss_setL (sn_var) (sn_callB (fun X hX => cd_sum hX) rfl W.sum rfl (sa_cons (sn_var) sa_nil)))))) (sb_frz 3 sb_nil)))) sb_nil) (sb_one (ss_ret (sn_var))))))
theorem d_law_at : n_law_at.Nodup := by decide +kernel
theorem b_law_at (W : Facts M Φ) : SndB M Φ n_law_at (defScope (top 80)) (defScope (top 80)) (defBody (top 80)) i_law_at :=
  have nd := d_law_at
  (sb_cons (ss_asg nd (sn_make W.m_ratio1 (sa_cons sn_int sa_nil) (.cons .nil))) (sb_cons (ss_for (by decide) (si_val (sn_fld 1 1 (sn_var) W.c1)) (sg_pr nd) (sb_one (ss_asg nd (sn_own W.o_r_add (sn_var) (sn_own W.o_r_mul (sn_var) (sn_make W.m_ratio1 (sa_cons (sn_call W.f_law_value (sa_cons (sn_fld 1 0 (sn_var) W.c1) (sa_cons (sn_var) (sa_cons (sn_var) sa_nil))) (.cons (.cons (.cons .nil)))) sa_nil) (.cons .nil))))))) (sb_one (ss_ret (sn_var)))))
end FB

set_option Elab.async false
set_option linter.all false
set_option maxRecDepth 100000
set_option maxHeartbeats 4000000

/-! FBb3: the bodies of the defs (printed by gen_b.py). -/
namespace FB
open PySem PySem.Spec PyProof.Rows L2
variable {M : Md} {Φ : Fn → List D → Option D}

theorem d_r_sub : n_r_sub.Nodup := by decide +kernel
theorem b_r_sub (W : Facts M Φ) : SndB M Φ n_r_sub (defScope (inClass (top 11) 2)) (defScope (inClass (top 11) 2)) (defBody (inClass (top 11) 2)) i_r_sub :=
  have nd := d_r_sub
  (sb_one (ss_ret (sn_make W.m_ratio (sa_cons (sn_bin (fun X hX => od_sub hX) (sn_bin (fun X hX => od_mul hX) (sn_fld 0 0 (sn_var) W.c0) (sn_fld 0 1 (sn_var) W.c0)) (sn_bin (fun X hX => od_mul hX) (sn_fld 0 0 (sn_var) W.c0) (sn_fld 0 1 (sn_var) W.c0))) (sa_cons (sn_bin (fun X hX => od_mul hX) (sn_fld 0 1 (sn_var) W.c0) (sn_fld 0 1 (sn_var) W.c0)) sa_nil)) (.cons (.cons .nil)))))
theorem d_is_partition : n_is_partition.Nodup := by decide +kernel
theorem b_is_partition (W : Facts M Φ) : SndB M Φ n_is_partition (defScope (top 15)) (defScope (top 15)) (defBody (top 15)) i_is_partition :=
  have nd := d_is_partition
  (sb_cons (ss_if (st_not (st_val (sn_isi (sn_var) W.isinstance (pe_tyN W.tuple) (.ty "tuple") isi_tuple))) (sb_one (ss_ret sn_bl)) sb_nil) (sb_cons (ss_asg nd (sn_un (fun X hX => ud_neg) sn_int)) (sb_cons (ss_for (by decide) (si_val (sn_var)) (sg_nm nd) (sb_cons (ss_if (st_w (sw_or (st_not (st_val (sn_isi (sn_var) W.isinstance (pe_tyN W.int) (.ty "int") isi_int))) (sw_or (st_val (sn_isi (sn_var) W.isinstance (pe_tyN W.bool) (.ty "bool") isi_bool)) (sw_or1 (st_cmp (fun X hX => od_lt hX) (sn_var) sn_int))))) (sb_one (ss_ret sn_bl)) sb_nil) (sb_cons (ss_if (st_chain (fun X hX => od_le hX) (fun X hX => od_lt hX) sn_int (sn_var) (sn_var)) (sb_one (ss_ret sn_bl)) sb_nil) (sb_one (ss_asg nd (sn_var)))))) (sb_one (ss_ret sn_bl)))))
theorem d_holds : n_holds.Nodup := by decide +kernel
theorem b_holds (W : Facts M Φ) : SndB M Φ n_holds (defScope (top 21)) (defScope (top 21)) (defBody (top 21)) i_holds :=
  have nd := d_holds
  (sb_cons (ss_if (st_cmp (fun X hX => od_gt hX) (sn_callB (fun X hX => cd_len hX) rfl W.len rfl (sa_cons (sn_var) sa_nil)) (sn_callB (fun X hX => cd_len hX) rfl W.len rfl (sa_cons (sn_var) sa_nil))) (sb_one (ss_ret sn_bl)) sb_nil) (sb_one (ss_ret (sn_cmp (fun X hX => od_eq hX) (sn_callB (fun X hX => cd_len hX) rfl W.len rfl (sa_cons (sn_lst (sl_lc (own := [("i", 2)]) (by decide) nd (si_r1 (sa_cons (sn_callB (fun X hX => cd_len hX) rfl W.len rfl (sa_cons (sn_var) sa_nil)) sa_nil) W.range) (by decide +kernel) (sg_nm nd) (sts_one (st_cmp (fun X hX => od_gt hX) (sn_ix (sn_var) (sn_var)) (sn_ix (sn_var) (sn_var)))) (sn_var) (by first | exact List.Mem.head _ | exact ⟨List.Mem.head _, List.Mem.tail _ (List.Mem.head _)⟩)) (lst_of_lc (by decide))) sa_nil)) sn_int))))
theorem d_spreads : n_spreads.Nodup := by decide +kernel
theorem b_spreads (W : Facts M Φ) : SndB M Φ n_spreads (defScope (top 29)) (defScope (top 29)) (defBody (top 29)) i_spreads :=
  have nd := d_spreads
  (sb_cons (ss_if (st_cmp (fun X hX => od_eq hX) (sn_callB (fun X hX => cd_len hX) rfl W.len rfl (sa_cons (sn_var) sa_nil)) sn_int) (sb_cons (ss_if (st_cmp (fun X hX => od_eq hX) (sn_var) sn_int) (sb_one (ss_ret (sn_lst (sl_lst (sa_cons (sn_tup sa_nil) sa_nil)) lst_of_lstD))) sb_nil) (sb_one (ss_ret (sn_lst (sl_lst sa_nil) lst_of_lstD)))) sb_nil) (sb_cons (ss_newL nd (sl_lst sa_nil)) (sb_cons (ss_for (by decide) (si_r1 (sa_cons (sn_bin (fun X hX => od_add hX) (sn_callB (fun X hX => cd_min3 hX) rfl W.min rfl (sa_cons (sn_var) (sa_cons (sn_var) (sa_cons (sn_ix (sn_var) sn_int) sa_nil)))) sn_int) sa_nil) W.range) (sg_nm nd) (sb_one (ss_for (by decide) (si_val (sn_call W.f_spreads (sa_cons (sn_sl_lo (sn_var) sn_int) (sa_cons (sn_bin (fun X hX => od_sub hX) (sn_var) (sn_var)) (sa_cons (sn_var) sa_nil))) (.cons (.cons (.cons .nil))))) (sg_nm nd) (sb_one (ss_app (sn_bin (fun X hX => od_add hX) (sn_tup (sa_cons (sn_bin (fun X hX => od_sub hX) (sn_ix (sn_var) sn_int) (sn_var)) sa_nil)) (sn_var))))))) (sb_one (ss_frz 3 (ss_ret (sn_var)))))))
theorem d_check : n_check.Nodup := by decide +kernel
theorem b_check (W : Facts M Φ) : SndB M Φ n_check (defScope (top 35)) (defScope (top 35)) (defBody (top 35)) i_check :=
  have nd := d_check
  (sb_cons (ss_if (st_w (sw_or (st_cmp (fun X hX => od_lt hX) (sn_var) sn_int) (sw_or1 (st_cmp (fun X hX => od_gt hX) (sn_var) sn_int)))) (sb_one ss_fail) sb_nil) (sb_one (ss_for (by decide) (si_val (sn_var)) (sg_nm nd) (sb_one (ss_if (st_cmp (fun X hX => od_notInT hX) (sn_var) (sn_tup (sa_cons sn_str (sa_cons sn_str (sa_cons sn_str (sa_cons sn_str (sa_cons sn_str sa_nil))))))) (sb_one ss_fail) sb_nil)))))
theorem d_from_monomials : n_from_monomials.Nodup := by decide +kernel
theorem b_from_monomials (W : Facts M Φ) : SndB M Φ n_from_monomials (defScope (top 41)) (defScope (top 41)) (defBody (top 41)) i_from_monomials :=
  have nd := d_from_monomials
  (sb_cons (ss_if (st_cmp (fun X hX => od_eq hX) (sn_var) sn_str) (sb_one (ss_ret (sn_var))) sb_nil) (sb_cons (ss_if (st_cmp (fun X hX => od_eq hX) (sn_var) sn_str) (sb_one (ss_ret (sn_call W.f_backward (sa_cons (sn_var) (sa_cons (sn_callTy (fun X hX => cd_tupOf hX) rfl W.tuple rfl (sa_cons (sn_lst (sl_lc (own := [("part", 8)]) (by decide) nd (si_val (sn_var)) (by decide +kernel) (sg_nm nd) sts_nil (sn_call W.f_monomial_row (sa_cons sn_str (sa_cons (sn_var) sa_nil)) (.cons (.cons .nil))) (by first | exact List.Mem.head _ | exact ⟨List.Mem.head _, List.Mem.tail _ (List.Mem.head _)⟩)) (lst_of_lc (by decide))) sa_nil)) sa_nil)) (.cons (.cons .nil))))) sb_nil) (sb_cons (ss_if (st_cmp (fun X hX => od_eq hX) (sn_var) sn_str) (sb_cons (ss_asg nd (sn_callTy (fun X hX => cd_tupOf hX) rfl W.tuple rfl (sa_cons (sn_lst (sl_lc (own := [("part", 8)]) (by decide) nd (si_val (sn_var)) (by decide +kernel) (sg_nm nd) sts_nil (sn_call W.f_monomial_row (sa_cons sn_str (sa_cons (sn_call W.f_turned (sa_cons (sn_var) sa_nil) (.cons .nil)) sa_nil)) (.cons (.cons .nil))) (by first | exact List.Mem.head _ | exact ⟨List.Mem.head _, List.Mem.tail _ (List.Mem.head _)⟩)) (lst_of_lc (by decide))) sa_nil))) (sb_cons (ss_asg nd (sn_call W.f_forward (sa_cons (sn_var) (sa_cons (sn_var) sa_nil)) (.cons (.cons .nil)))) (sb_one (ss_ret (sn_callTy (fun X hX => cd_tupOf hX) rfl W.tuple rfl (sa_cons (sn_lst (sl_lc (own := [("part", 8)]) (by decide) nd (si_val (sn_var)) (by decide +kernel) (sg_nm nd) sts_nil (sn_ix (sn_var) (sn_index (sn_var) (sn_call W.f_turned (sa_cons (sn_var) sa_nil) (.cons .nil)))) (by first | exact List.Mem.head _ | exact ⟨List.Mem.head _, List.Mem.tail _ (List.Mem.head _)⟩)) (lst_of_lc (by decide))) sa_nil)))))) sb_nil) (sb_cons (ss_asg nd (sn_call W.f_fillings_table (sa_cons (sn_var) sa_nil) (.cons .nil))) (sb_cons (ss_asg nd (sn_call W.f_forward (sa_cons (sn_var) (sa_cons (sn_var) sa_nil)) (.cons (.cons .nil)))) (sb_cons (ss_if (st_cmp (fun X hX => od_eq hX) (sn_var) sn_str) (sb_one (ss_ret (sn_var))) sb_nil) (sb_cons (ss_asg nd (sn_callB (fun X hX => cd_len hX) rfl W.len rfl (sa_cons (sn_var) sa_nil))) (sb_cons (ss_asg nd (sn_callTy (fun X hX => cd_tupOf hX) rfl W.tuple rfl (sa_cons (sn_lst (sl_lc (own := [("i", 7)]) (by decide) nd (si_r1 (sa_cons (sn_var) sa_nil) W.range) (by decide +kernel) (sg_nm nd) sts_nil (sn_callTy (fun X hX => cd_tupOf hX) rfl W.tuple rfl (sa_cons (sn_lst (sl_lc (own := [("j", 9)]) (by decide) nd (si_r1 (sa_cons (sn_var) sa_nil) W.range) (by decide +kernel) (sg_nm nd) sts_nil (sn_ix (sn_ix (sn_var) (sn_var)) (sn_var)) (by first | exact List.Mem.head _ | exact ⟨List.Mem.head _, List.Mem.tail _ (List.Mem.head _)⟩)) (lst_of_lc (by decide))) sa_nil)) (by first | exact List.Mem.head _ | exact ⟨List.Mem.head _, List.Mem.tail _ (List.Mem.head _)⟩)) (lst_of_lc (by decide))) sa_nil))) (sb_one (ss_ret (sn_call W.f_backward (sa_cons (sn_var) (sa_cons (sn_var) sa_nil)) (.cons (.cons .nil)))))))))))))
theorem d_s_add : n_s_add.Nodup := by decide +kernel
theorem b_s_add (W : Facts M Φ) : SndB M Φ n_s_add (defScope (inClass (top 59) 3)) (defScope (inClass (top 59) 3)) (defBody (inClass (top 59) 3)) i_s_add :=
  have nd := d_s_add
  (sb_cons (ss_if (st_cmp (fun X hX => od_eq hX) (sn_fld 1 0 (sn_var) W.c1) (sn_fld 1 0 (sn_var) W.c1)) (sb_one (ss_ret (sn_make W.m_symmetric (sa_cons (sn_fld 1 0 (sn_var) W.c1) (sa_cons (sn_bin (fun X hX => od_add hX) (sn_fld 1 1 (sn_var) W.c1) (sn_fld 1 1 (sn_var) W.c1)) sa_nil)) (.cons (.cons .nil))))) sb_nil) (sb_one ss_fail))
theorem d_in_base : n_in_base.Nodup := by decide +kernel
theorem b_in_base (W : Facts M Φ) : SndB M Φ n_in_base (defScope (top 63)) (defScope (top 63)) (defBody (top 63)) i_in_base :=
  have nd := d_in_base
  (sb_cons (ss_exp (sn_call W.f_check (sa_cons sn_int (sa_cons (sn_tup (sa_cons (sn_var) sa_nil)) sa_nil)) (.cons (.cons .nil)))) (sb_cons (ss_if (st_cmp (fun X hX => od_eq hX) (sn_fld 1 0 (sn_var) W.c1) (sn_var)) (sb_one (ss_ret (sn_var))) sb_nil) (sb_cons (ss_asg nd (sn_lst (sl_lst sa_nil) lst_of_lstD)) (sb_cons (ss_for (by decide) (si_r1 (sa_cons (sn_bin (fun X hX => od_add hX) (sn_meth0 W.t_s_degree W.c1 (sn_var)) sn_int) sa_nil) W.range) (sg_nm nd) (sb_cons (ss_asg nd (sn_meth W.t_s_part_of W.c1 (sn_var) (sa_cons (sn_var) sa_nil))) (sb_one (ss_if (st_not (st_val (sn_meth0 W.t_s_is_zero W.c1 (sn_var)))) (sb_cons (ss_asg nd (sn_call W.f_partitions (sa_cons (sn_var) sa_nil) (.cons .nil))) (sb_cons (ss_asg nd (sn_call W.f_converted (sa_cons (sn_var) (sa_cons (sn_callTy (fun X hX => cd_tupOf hX) rfl W.tuple rfl (sa_cons (sn_lst (sl_lc (own := [("own", 7)]) (by decide) nd (si_val (sn_var)) (by decide +kernel) (sg_nm nd) sts_nil (sn_meth W.t_s_multiple W.c1 (sn_var) (sa_cons (sn_var) sa_nil)) (by first | exact List.Mem.head _ | exact ⟨List.Mem.head _, List.Mem.tail _ (List.Mem.head _)⟩)) (lst_of_lc (by decide))) sa_nil)) (sa_cons (sn_fld 1 0 (sn_var) W.c1) (sa_cons (sn_var) sa_nil)))) (.cons (.cons (.cons (.cons .nil)))))) (sb_one (ss_asg nd (sn_bin (fun X hX => od_add hX) (sn_var) (sn_zipL (sn_var) (sn_var) W.list W.zip)))))) sb_nil)))) (sb_one (ss_ret (sn_make W.m_symmetric (sa_cons (sn_var) (sa_cons (sn_var) sa_nil)) (.cons (.cons .nil)))))))))
theorem d_law_power : n_law_power.Nodup := by decide +kernel
theorem b_law_power (W : Facts M Φ) : SndB M Φ n_law_power (defScope (top 73)) (defScope (top 73)) (defBody (top 73)) i_law_power :=
  have nd := d_law_power
  (sb_cons (ss_asg nd sn_int) (sb_cons (ss_for (by decide) (si_r1 (sa_cons (sn_var) sa_nil) W.range) (sg_nm nd) (sb_one (ss_asg nd (sn_bin (fun X hX => od_mul hX) (sn_var) (sn_var))))) (sb_one (ss_ret (sn_var)))))
theorem d_law_monomial_list : n_law_monomial_list.Nodup := by decide +kernel
theorem b_law_monomial_list (W : Facts M Φ) : SndB M Φ n_law_monomial_list (defScope (top 81)) (defScope (top 81)) (defBody (top 81)) i_law_monomial_list :=
  have nd := d_law_monomial_list
  (sb_cons (ss_asg nd (sn_lst (sl_lst (sa_cons (sn_bin (fun X hX => od_mul hX) (sn_ix (sn_var) sn_int) (sn_ix (sn_var) sn_int)) (sa_cons (sn_bin (fun X hX => od_mul hX) (sn_ix (sn_var) sn_int) (sn_ix (sn_var) sn_int)) (sa_cons (sn_bin (fun X hX => od_mul hX) (sn_ix (sn_var) sn_int) (sn_ix (sn_var) sn_int)) sa_nil)))) lst_of_lstD)) (sb_cons (ss_newLc (own := [("_law_x", 4)]) (by decide) nd (si_val (sn_var)) (by decide +kernel) (sg_nm nd) sts_nil (sn_bin (fun X hX => od_mul hX) (sn_var) (sn_var)) (by first | exact List.Mem.head _ | exact ⟨List.Mem.head _, List.Mem.tail _ (List.Mem.head _)⟩)) (sb_cons (ss_if (st_cmp (fun X hX => od_eq hX) (sn_var) sn_int) (sb_one (ss_ret (sn_var))) sb_nil) (sb_cons (ss_if (st_cmp (fun X hX => od_eq hX) (sn_var) sn_int) (sb_one (ss_ret (sn_var))) sb_nil) (sb_cons (ss_if (st_cmp (fun X hX => od_eq hX) (sn_var) sn_int) (sb_one (ss_frz 3 (ss_ret (sn_bin (fun X hX => od_add hX) (sn_var) (sn_var))))) sb_nil) (sb_cons (ss_if (st_cmp (fun X hX => od_eq hX) (sn_var) sn_int) (sb_one (ss_frz 3 (ss_ret (sn_var)))) sb_nil) (sb_one (ss_ret (sn_bin (fun X hX => od_add hX) (sn_var) (sn_var))))))))))
end FB

set_option Elab.async false
set_option linter.all false
set_option maxRecDepth 100000
set_option maxHeartbeats 4000000

/-! FBb4: the bodies of the defs (printed by gen_b.py). -/
namespace FB
open PySem PySem.Spec PyProof.Rows L2
variable {M : Md} {Φ : Fn → List D → Option D}

theorem d_r_mul : n_r_mul.Nodup := by decide +kernel
theorem b_r_mul (W : Facts M Φ) : SndB M Φ n_r_mul (defScope (inClass (top 11) 3)) (defScope (inClass (top 11) 3)) (defBody (inClass (top 11) 3)) i_r_mul :=
  have nd := d_r_mul
  (sb_one (ss_ret (sn_make W.m_ratio (sa_cons (sn_bin (fun X hX => od_mul hX) (sn_fld 0 0 (sn_var) W.c0) (sn_fld 0 0 (sn_var) W.c0)) (sa_cons (sn_bin (fun X hX => od_mul hX) (sn_fld 0 1 (sn_var) W.c0) (sn_fld 0 1 (sn_var) W.c0)) sa_nil)) (.cons (.cons .nil)))))
theorem d_size : n_size.Nodup := by decide +kernel
theorem b_size (W : Facts M Φ) : SndB M Φ n_size (defScope (top 16)) (defScope (top 16)) (defBody (top 16)) i_size :=
  have nd := d_size
  (sb_one (ss_ret (sn_callB (fun X hX => cd_sum hX) rfl W.sum rfl (sa_cons (sn_var) sa_nil))))
theorem d_trimmed : n_trimmed.Nodup := by decide +kernel
theorem b_trimmed (W : Facts M Φ) : SndB M Φ n_trimmed (defScope (top 22)) (defScope (top 22)) (defBody (top 22)) i_trimmed :=
  have nd := d_trimmed
  (sb_one (ss_ret (sn_callTy (fun X hX => cd_tupOf hX) rfl W.tuple rfl (sa_cons (sn_lst (sl_lc (own := [("part", 1)]) (by decide) nd (si_val (sn_var)) (by decide +kernel) (sg_nm nd) (sts_one (st_cmp (fun X hX => od_gt hX) (sn_var) sn_int)) (sn_var) (by first | exact List.Mem.head _ | exact ⟨List.Mem.head _, List.Mem.tail _ (List.Mem.head _)⟩)) (lst_of_lc (by decide))) sa_nil))))
theorem d_count_matrices : n_count_matrices.Nodup := by decide +kernel
theorem b_count_matrices (W : Facts M Φ) : SndB M Φ n_count_matrices (defScope (top 30)) (defScope (top 30)) (defBody (top 30)) i_count_matrices :=
  have nd := d_count_matrices
  (sb_cons (ss_newD1 nd (sn_callTy (fun X hX => cd_tupOf hX) rfl W.tuple rfl (sa_cons (sn_callB (fun X hX => cd_sorted hX) rfl W.sorted rfl (sa_cons (sn_var) sa_nil)) sa_nil)) sn_int) (sb_cons (ss_for (by decide) (si_val (sn_var)) (sg_nm nd) (sb_cons (ss_newD nd) (sb_cons (ss_forD (sg_nm nd) (sb_one (ss_for (by decide) (si_val (sn_call W.f_spreads (sa_cons (sn_var) (sa_cons (sn_var) (sa_cons (sn_callB (fun X hX => cd_min2 hX) rfl W.min rfl (sa_cons (sn_var) (sa_cons (sn_var) sa_nil))) sa_nil))) (.cons (.cons (.cons .nil))))) (sg_nm nd) (sb_cons (ss_asg nd (sn_callTy (fun X hX => cd_tupOf hX) rfl W.tuple rfl (sa_cons (sn_callB (fun X hX => cd_sorted hX) rfl W.sorted rfl (sa_cons (sn_var) sa_nil)) sa_nil))) (sb_one (ss_setD (sn_var) (sn_bin (fun X hX => od_add hX) (sn_dget2 (sn_var) sn_int) (sn_dget (sn_var))))))))) (sb_one (ss_movD nd (by decide)))))) (sb_one (ss_ret (sn_callB (fun X hX => cd_sum hX) rfl W.sum rfl (sa_cons (sn_lst (sl_lcD (own := [("left", 9)]) nd (by decide +kernel) (sg_nm nd) (sts_one (st_cmp (fun X hX => od_eq hX) (sn_callB (fun X hX => cd_sum hX) rfl W.sum rfl (sa_cons (sn_var) sa_nil)) sn_int)) (sn_dget (sn_var)) (by first | exact List.Mem.head _ | exact ⟨List.Mem.head _, List.Mem.tail _ (List.Mem.head _)⟩)) (lst_of_lcD)) sa_nil))))))
theorem d_monomial_row : n_monomial_row.Nodup := by decide +kernel
theorem b_monomial_row (W : Facts M Φ) : SndB M Φ n_monomial_row (defScope (top 36)) (defScope (top 36)) (defBody (top 36)) i_monomial_row :=
  have nd := d_monomial_row
  (sb_cons (ss_exp (sn_call W.f_check (sa_cons (sn_callB (fun X hX => cd_sum hX) rfl W.sum rfl (sa_cons (sn_var) sa_nil)) (sa_cons (sn_tup (sa_cons (sn_var) sa_nil)) sa_nil)) (.cons (.cons .nil)))) (sb_one (ss_ret (sn_callTy (fun X hX => cd_tupOf hX) rfl W.tuple rfl (sa_cons (sn_lst (sl_lc (own := [("other", 2)]) (by decide) nd (si_val (sn_call W.f_partitions (sa_cons (sn_callB (fun X hX => cd_sum hX) rfl W.sum rfl (sa_cons (sn_var) sa_nil)) sa_nil) (.cons .nil))) (by decide +kernel) (sg_nm nd) sts_nil (sn_make W.m_ratio1 (sa_cons (sn_call W.f_entry (sa_cons (sn_var) (sa_cons (sn_var) (sa_cons (sn_var) sa_nil))) (.cons (.cons (.cons .nil)))) sa_nil) (.cons .nil)) (by first | exact List.Mem.head _ | exact ⟨List.Mem.head _, List.Mem.tail _ (List.Mem.head _)⟩)) (lst_of_lc (by decide))) sa_nil)))))
theorem d_converted : n_converted.Nodup := by decide +kernel
theorem b_converted (W : Facts M Φ) : SndB M Φ n_converted (defScope (top 42)) (defScope (top 42)) (defBody (top 42)) i_converted :=
  have nd := d_converted
  (sb_cons (ss_exp (sn_call W.f_check (sa_cons (sn_var) (sa_cons (sn_tup (sa_cons (sn_var) (sa_cons (sn_var) sa_nil))) sa_nil)) (.cons (.cons .nil)))) (sb_cons (ss_asg nd (sn_call W.f_partitions (sa_cons (sn_var) sa_nil) (.cons .nil))) (sb_cons (ss_if (st_cmp (fun X hX => od_ne hX) (sn_callB (fun X hX => cd_len hX) rfl W.len rfl (sa_cons (sn_var) sa_nil)) (sn_callB (fun X hX => cd_len hX) rfl W.len rfl (sa_cons (sn_var) sa_nil))) (sb_one ss_fail) sb_nil) (sb_cons (ss_if (st_cmp (fun X hX => od_eq hX) (sn_var) (sn_var)) (sb_one (ss_ret (sn_callTy (fun X hX => cd_tupOf hX) rfl W.tuple rfl (sa_cons (sn_var) sa_nil)))) sb_nil) (sb_cons (ss_if (st_cmp (fun X hX => od_ne hX) (sn_var) sn_str) (sb_one (ss_asg nd (sn_call W.f_combined (sa_cons (sn_var) (sa_cons (sn_callTy (fun X hX => cd_tupOf hX) rfl W.tuple rfl (sa_cons (sn_lst (sl_lc (own := [("part", 5)]) (by decide) nd (si_val (sn_var)) (by decide +kernel) (sg_nm nd) sts_nil (sn_call W.f_monomial_row (sa_cons (sn_var) (sa_cons (sn_var) sa_nil)) (.cons (.cons .nil))) (by first | exact List.Mem.head _ | exact ⟨List.Mem.head _, List.Mem.tail _ (List.Mem.head _)⟩)) (lst_of_lc (by decide))) sa_nil)) sa_nil)) (.cons (.cons .nil))))) sb_nil) (sb_one (ss_ret (sn_call W.f_from_monomials (sa_cons (sn_callTy (fun X hX => cd_tupOf hX) rfl W.tuple rfl (sa_cons (sn_var) sa_nil)) (sa_cons (sn_var) (sa_cons (sn_var) sa_nil))) (.cons (.cons (.cons .nil)))))))))))
theorem d_s_multiple : n_s_multiple.Nodup := by decide +kernel
theorem b_s_multiple (W : Facts M Φ) : SndB M Φ n_s_multiple (defScope (inClass (top 59) 7)) (defScope (inClass (top 59) 7)) (defBody (inClass (top 59) 7)) i_s_multiple :=
  have nd := d_s_multiple
  (sb_cons (ss_for (by decide) (si_val (sn_fld 1 1 (sn_var) W.c1)) (sg_pr nd) (sb_one (ss_if (st_cmp (fun X hX => od_eq hX) (sn_var) (sn_var)) (sb_one (ss_ret (sn_var))) sb_nil))) (sb_one (ss_ret (sn_call0 W.f_zero))))
theorem d_check_degree : n_check_degree.Nodup := by decide +kernel
theorem b_check_degree (W : Facts M Φ) : SndB M Φ n_check_degree (defScope (top 64)) (defScope (top 64)) (defBody (top 64)) i_check_degree :=
  have nd := d_check_degree
  (sb_one (ss_if (st_cmp (fun X hX => od_gt hX) (sn_var) sn_int) (sb_one ss_fail) sb_nil))
theorem d_law_monomials : n_law_monomials.Nodup := by decide +kernel
theorem b_law_monomials (W : Facts M Φ) : SndB M Φ n_law_monomials (defScope (top 74)) (defScope (top 74)) (defBody (top 74)) i_law_monomials :=
  have nd := d_law_monomials
  (sb_cons (ss_if (st_cmp (fun X hX => od_eq hX) (sn_callB (fun X hX => cd_len hX) rfl W.len rfl (sa_cons (sn_var) sa_nil)) sn_int) (sb_one (ss_ret sn_int)) sb_nil) (sb_cons (ss_if (st_cmp (fun X hX => od_gt hX) (sn_callB (fun X hX => cd_len hX) rfl W.len rfl (sa_cons (sn_var) sa_nil)) (sn_callB (fun X hX => cd_len hX) rfl W.len rfl (sa_cons (sn_var) sa_nil))) (sb_one (ss_ret sn_int)) sb_nil) (sb_cons (ss_asg nd (sn_call W.f_law_monomials (sa_cons (sn_var) (sa_cons (sn_sl_lo (sn_var) sn_int) sa_nil)) (.cons (.cons .nil)))) (sb_cons (ss_for (by decide) (si_r1 (sa_cons (sn_callB (fun X hX => cd_len hX) rfl W.len rfl (sa_cons (sn_var) sa_nil)) sa_nil) W.range) (sg_nm nd) (sb_one (ss_if (st_w (sw_or (st_cmp (fun X hX => od_eq hX) (sn_var) sn_int) (sw_or1 (st_cmp (fun X hX => od_ne hX) (sn_ix (sn_var) (sn_var)) (sn_ix (sn_var) (sn_bin (fun X hX => od_sub hX) (sn_var) sn_int)))))) (sb_one (ss_asg nd (sn_bin (fun X hX => od_add hX) (sn_var) (sn_bin (fun X hX => od_mul hX) (sn_call W.f_law_power (sa_cons (sn_ix (sn_var) sn_int) (sa_cons (sn_ix (sn_var) (sn_var)) sa_nil)) (.cons (.cons .nil))) (sn_call W.f_law_monomials (sa_cons (sn_bin (fun X hX => od_add hX) (sn_sl_hi (sn_var) (sn_var)) (sn_sl_lo (sn_var) (sn_bin (fun X hX => od_add hX) (sn_var) sn_int))) (sa_cons (sn_sl_lo (sn_var) sn_int) sa_nil)) (.cons (.cons .nil))))))) sb_nil))) (sb_one (ss_ret (sn_var)))))))
end FB

set_option Elab.async false
set_option linter.all false
set_option maxRecDepth 100000
set_option maxHeartbeats 4000000

/-! FBb5: the bodies of the defs (printed by gen_b.py). -/
namespace FB
open PySem PySem.Spec PyProof.Rows L2
variable {M : Md} {Φ : Fn → List D → Option D}

theorem d_r_eq : n_r_eq.Nodup := by decide +kernel
theorem b_r_eq (W : Facts M Φ) : SndB M Φ n_r_eq (defScope (inClass (top 11) 5)) (defScope (inClass (top 11) 5)) (defBody (inClass (top 11) 5)) i_r_eq :=
  have nd := d_r_eq
  (sb_one (ss_ret (sn_andG (sn_isi (sn_var) W.isinstance (pe_clN W.g_ratio) (.own _) (isi_C W.i0)) (sn_andG (sn_cmp (fun X hX => od_eq hX) (sn_fld 0 0 (sn_var) W.c0) (sn_fld 0 0 (sn_var) W.c0)) (sn_one (sn_cmp (fun X hX => od_eq hX) (sn_fld 0 1 (sn_var) W.c0) (sn_fld 0 1 (sn_var) W.c0)))))))
theorem d_partitions_below : n_partitions_below.Nodup := by decide +kernel
theorem b_partitions_below (W : Facts M Φ) : SndB M Φ n_partitions_below (defScope (top 17)) (defScope (top 17)) (defBody (top 17)) i_partitions_below :=
  have nd := d_partitions_below
  (sb_cons (ss_if (st_cmp (fun X hX => od_eq hX) (sn_var) sn_int) (sb_one (ss_ret (sn_lst (sl_lst (sa_cons (sn_tup sa_nil) sa_nil)) lst_of_lstD))) sb_nil) (sb_cons (ss_newL nd (sl_lst sa_nil)) (sb_cons (ss_for (by decide) (si_r3 (sn_callB (fun X hX => cd_min2 hX) rfl W.min rfl (sa_cons (sn_var) (sa_cons (sn_var) sa_nil))) sn_int W.range) (sg_nm nd) (sb_one (ss_for (by decide) (si_val (sn_call W.f_partitions_below (sa_cons (sn_bin (fun X hX => od_sub hX) (sn_var) (sn_var)) (sa_cons (sn_var) sa_nil)) (.cons (.cons .nil)))) (sg_nm nd) (sb_one (ss_app (sn_bin (fun X hX => od_add hX) (sn_tup (sa_cons (sn_var) sa_nil)) (sn_var))))))) (sb_one (ss_frz 2 (ss_ret (sn_var)))))))
theorem d_rows : n_rows.Nodup := by decide +kernel
theorem b_rows (W : Facts M Φ) : SndB M Φ n_rows (defScope (top 23)) (defScope (top 23)) (defBody (top 23)) i_rows :=
  have nd := d_rows
  (sb_cons (ss_if (st_cmp (fun X hX => od_eq hX) (sn_callB (fun X hX => cd_len hX) rfl W.len rfl (sa_cons (sn_var) sa_nil)) sn_int) (sb_one (ss_ret (sn_ite (st_cmp (fun X hX => od_eq hX) (sn_var) sn_int) (sn_lst (sl_lst (sa_cons (sn_tup sa_nil) sa_nil)) lst_of_lstD) (sn_lst (sl_lst sa_nil) lst_of_lstD)))) sb_nil) (sb_cons (ss_newL nd (sl_lst sa_nil)) (sb_cons (ss_for (by decide) (si_r3 (sn_ix (sn_var) sn_int) (sn_bin (fun X hX => od_sub hX) (sn_ix (sn_var) sn_int) sn_int) W.range) (sg_nm nd) (sb_one (ss_for (by decide) (si_val (sn_call W.f_rows (sa_cons (sn_sl_lo (sn_var) sn_int) (sa_cons (sn_sl_lo (sn_var) sn_int) (sa_cons (sn_bin (fun X hX => od_sub hX) (sn_var) (sn_var)) sa_nil))) (.cons (.cons (.cons .nil))))) (sg_nm nd) (sb_one (ss_app (sn_bin (fun X hX => od_add hX) (sn_tup (sa_cons (sn_var) sa_nil)) (sn_var))))))) (sb_one (ss_frz 3 (ss_ret (sn_var)))))))
theorem d_zero_one_matrices : n_zero_one_matrices.Nodup := by decide +kernel
theorem b_zero_one_matrices (W : Facts M Φ) : SndB M Φ n_zero_one_matrices (defScope (top 31)) (defScope (top 31)) (defBody (top 31)) i_zero_one_matrices :=
  have nd := d_zero_one_matrices
  (sb_one (ss_ret (sn_call W.f_count_matrices (sa_cons (sn_var) (sa_cons (sn_var) (sa_cons sn_int sa_nil))) (.cons (.cons (.cons .nil))))))
theorem d_combined : n_combined.Nodup := by decide +kernel
theorem b_combined (W : Facts M Φ) : SndB M Φ n_combined (defScope (top 37)) (defScope (top 37)) (defBody (top 37)) i_combined :=
  have nd := d_combined
  (sb_cons (ss_newLc (own := [("_", 4)]) (by decide) nd (si_val (sn_var)) (by decide +kernel) (sg_nm nd) sts_nil (sn_call0 W.f_zero) (by first | exact List.Mem.head _ | exact ⟨List.Mem.head _, List.Mem.tail _ (List.Mem.head _)⟩)) (sb_cons (ss_for (by decide) (si_r1 (sa_cons (sn_callB (fun X hX => cd_len hX) rfl W.len rfl (sa_cons (sn_var) sa_nil)) sa_nil) W.range) (sg_nm nd) (sb_one (ss_if (st_not (st_val (sn_meth0 W.t_r_is_zero W.c0 (sn_ix (sn_var) (sn_var))))) (sb_one (ss_for (by decide) (si_r1 (sa_cons (sn_callB (fun X hX => cd_len hX) rfl W.len rfl (sa_cons (sn_var) sa_nil)) sa_nil) W.range) (sg_nm nd) (sb_one (ss_setL (sn_var) (sn_own W.o_r_add (sn_ixO (sn_var)) (sn_own W.o_r_mul (sn_ix (sn_var) (sn_var)) (sn_ix (sn_ix (sn_var) (sn_var)) (sn_var)))))))) sb_nil))) (sb_one (ss_frz 2 (ss_ret (sn_callTy (fun X hX => cd_tupOf hX) rfl W.tuple rfl (sa_cons (sn_var) sa_nil)))))))
theorem d_as_ratio : n_as_ratio.Nodup := by decide +kernel
theorem b_as_ratio (W : Facts M Φ) : SndB M Φ n_as_ratio (defScope (top 46)) (defScope (top 46)) (defBody (top 46)) i_as_ratio :=
  have nd := d_as_ratio
  (sb_cons (ss_if (st_val (sn_isi (sn_var) W.isinstance (pe_clN W.g_ratio) (.own _) (isi_C W.i0))) (sb_one (ss_ret (sn_var))) sb_nil) (sb_cons (ss_if (st_not (st_val (sn_call W.f_is_integer (sa_cons (sn_var) sa_nil) (.cons .nil)))) (sb_one ss_fail) sb_nil) (sb_one (ss_ret (sn_make W.m_ratio1 (sa_cons (sn_var) sa_nil) (.cons .nil))))))
theorem d_s_degree : n_s_degree.Nodup := by decide +kernel
theorem b_s_degree (W : Facts M Φ) : SndB M Φ n_s_degree (defScope (inClass (top 59) 8)) (defScope (inClass (top 59) 8)) (defBody (inClass (top 59) 8)) i_s_degree :=
  have nd := d_s_degree
  (sb_one (ss_ret (sn_callB (fun X hX => cd_maxL hX) rfl W.max rfl (sa_cons (sn_bin (fun X hX => od_add hX) (sn_lst (sl_lc (own := [("part", 1), ("_", 2)]) (by decide) nd (si_val (sn_fld 1 1 (sn_var) W.c1)) (by decide +kernel) (sg_pr nd) sts_nil (sn_call W.f_size (sa_cons (sn_var) sa_nil) (.cons .nil)) (by first | exact List.Mem.head _ | exact ⟨List.Mem.head _, List.Mem.tail _ (List.Mem.head _)⟩)) (lst_of_lc (by decide))) (sn_lst (sl_lst (sa_cons (sn_un (fun X hX => ud_neg) sn_int) sa_nil)) lst_of_lstD)) sa_nil))))
theorem d_multiplied : n_multiplied.Nodup := by decide +kernel
theorem b_multiplied (W : Facts M Φ) : SndB M Φ n_multiplied (defScope (top 66)) (defScope (top 66)) (defBody (top 66)) i_multiplied :=
  have nd := d_multiplied
  (sb_cons (ss_newL nd (sl_lst sa_nil)) (sb_cons (ss_for (by decide) (si_val (sn_var)) (sg_pr nd) (sb_one (ss_for (by decide) (si_val (sn_var)) (sg_pr nd) (sb_one (ss_app (sn_tup (sa_cons (sn_call W.f_joined (sa_cons (sn_var) (sa_cons (sn_var) sa_nil)) (.cons (.cons .nil))) (sa_cons (sn_own W.o_r_mul (sn_var) (sn_var)) sa_nil)))))))) (sb_one (ss_frz 2 (ss_ret (sn_callTy (fun X hX => cd_lstOf hX) rfl W.list rfl (sa_cons (sn_fld 1 1 (sn_make W.m_symmetric (sa_cons sn_str (sa_cons (sn_var) sa_nil)) (.cons (.cons .nil))) W.c1) sa_nil)))))))
theorem d_law_smaller : n_law_smaller.Nodup := by decide +kernel
theorem b_law_smaller (W : Facts M Φ) : SndB M Φ n_law_smaller (defScope (top 75)) (defScope (top 75)) (defBody (top 75)) i_law_smaller :=
  have nd := d_law_smaller
  (sb_cons (ss_asg nd (sn_lst (sl_lst (sa_cons (sn_tup sa_nil) sa_nil)) lst_of_lstD)) (sb_cons (ss_for (by decide) (si_r1 (sa_cons (sn_callB (fun X hX => cd_len hX) rfl W.len rfl (sa_cons (sn_var) sa_nil)) sa_nil) W.range) (sg_nm nd) (sb_cons (ss_asg nd sn_int) (sb_cons (ss_if (st_cmp (fun X hX => od_lt hX) (sn_bin (fun X hX => od_add hX) (sn_var) sn_int) (sn_callB (fun X hX => cd_len hX) rfl W.len rfl (sa_cons (sn_var) sa_nil))) (sb_one (ss_asg nd (sn_ix (sn_var) (sn_bin (fun X hX => od_add hX) (sn_var) sn_int)))) sb_nil) (sb_cons (ss_newL nd (sl_lst sa_nil)) (sb_cons (ss_for (by decide) (si_val (sn_var)) (sg_nm nd) (sb_one (ss_for (by decide) (si_r2 (sa_cons (sn_var) (sa_cons (sn_bin (fun X hX => od_add hX) (sn_ix (sn_var) (sn_var)) sn_int) sa_nil)) W.range) (sg_nm nd) (sb_one (ss_app (sn_bin (fun X hX => od_add hX) (sn_var) (sn_tup (sa_cons (sn_var) sa_nil)))))))) (sb_one (ss_frz 4 (ss_asg nd (sn_var))))))))) (sb_one (ss_ret (sn_var)))))
end FB

set_option Elab.async false
set_option linter.all false
set_option maxRecDepth 100000
set_option maxHeartbeats 4000000
/-! FBr: the defs, level by level (printed by gen_r.py). -/
namespace FB
open PySem PySem.Spec PyProof.Rows L2
abbrev lv (M : Md) (L : Nat) : Md := { M with k := 2 * L }
/-- a def of the module as it stands -/
def DefS (M : Md) (x : Str) (st : Stmt) (ps : List Str) (ds : List D) : Prop := ∃ (nm qual : Str) (f : Addr) (fd : FuncData) (dvs : List V) (kws : List (Str × V)) (vs : List V) (us : List Value), M.mg x = some (.ref f) ∧ PySem.W.keepIn M.K (.ref f) = true ∧
  FunD M.K nm qual (defArgs st) (defBody st) (defScope st) dvs kws f fd ∧ Binds M.K fd ps us ∧ Vals vs us ∧ ∀ F : Hp, EncLM M F vs ds
def MethS (M : Md) (c : Nat) (m : Str) (st : Stmt) (ps : List Str) : Prop := ∃ (nm qual : Str) (f : Addr) (fd : FuncData) (dvs : List V) (kws : List (Str × V)), Meth M.K (M.CA c) m f ∧
  FunD M.K nm qual (defArgs st) (defBody st) (defScope st) dvs kws f fd ∧ Binds M.K fd ps []
def OpS (M : Md) (c : Nat) (op : Operator) (st : Stmt) (ps : List Str) : Prop := ∃ (nm qual : Str) (f : Addr) (fd : FuncData) (dvs : List V) (kws : List (Str × V)), PySem.W.findIn M.K (.ref (M.CA c)) (PySem.dunder op.info.2) = some (some (.ref f)) ∧ PySem.W.isFn M.K (.ref f) = true ∧ PySem.W.selfFirst M.K (M.CA c) = true ∧
  FunD M.K nm qual (defArgs st) (defBody st) (defScope st) dvs kws f fd ∧ Binds M.K fd ps []
def MkS (M : Md) (x : Str) (c : Nat) (st : Stmt) (ps : List Str) (ds : List D) : Prop := ∃ (nm qual : Str) (f : Addr) (fd : FuncData) (dvs : List V) (kws : List (Str × V)) (vs : List V) (us : List Value), M.mg x = some (.ref (M.CA c)) ∧ Mk M.K (M.CA c) f ∧
  FunD M.K nm qual (defArgs st) (defBody st) (defScope st) dvs kws f fd ∧ Binds M.K fd ps us ∧ Vals vs us ∧ ∀ F : Hp, EncLM M F vs ds
variable {M : Md} {N ps : List Str} {st : Stmt} {is : IS} {L n c : Nat}
theorem none_ok {j : Nat} {f : Addr} {fd : FuncData} {ps : List Str} {g : List D → Option D} (h : ∀ ds, g ds = none) : FnOk M.P M.w M.K M.mg M.base CX0 j f fd ps (spD M n g) :=
  ⟨(fun vs H Q E q => by obtain ⟨_, _, _, _, _, _, e, _⟩ := q; rw [h] at e; cases e), fun A outer s H args us vs Q E _ _ _ _ q => by obtain ⟨_, _, _, _, _, _, e, _⟩ := q; rw [h] at e; cases e⟩
theorem plain_some {Φ : Fn → List D → Option D} {ds : List D} {d : D} (h : plain n Φ is N ds = some d) : ds.length = n ∧ runS Φ is N ds = some d := by
  unfold plain at h
  split at h
  · exact ⟨by assumption, h⟩
  · cases h
theorem meth_some {Φ : Fn → List D → Option D} {ds : List D} {d : D} (h : meth n c Φ is N ds = some d) : ds.length = n ∧ (∃ fs r, ds = .ins c fs :: r) ∧ runS Φ is N ds = some d := by
  unfold meth at h
  split at h
  · split at h
    · rename_i hc
      obtain ⟨h1, h2⟩ := hc
      subst h1
      exact ⟨h2, ⟨_, _, rfl⟩, h⟩
    · cases h
  · cases h
theorem oper_some {Φ : Fn → List D → Option D} {ds : List D} {d : D} (h : oper c Φ is N ds = some d) : (∃ fs gs, ds = [.ins c fs, .ins c gs]) ∧ runS Φ is N ds = some d := by
  unfold oper at h
  split at h
  · split at h
    · rename_i hc
      obtain ⟨h1, h2⟩ := hc
      subst h1 h2
      exact ⟨⟨_, _, rfl⟩, h⟩
    · cases h
  · cases h
theorem init_some {Φ : Fn → List D → Option D} {ds : List D} {d : D} (h : init n c Φ is N ds = some d) : ds.length + 1 = n ∧ (∃ fs, d = .ins c fs) ∧ runI c Φ is N ds = some d := by
  unfold init at h
  split at h
  · refine ⟨by assumption, ?_, h⟩
    unfold runI at h
    split at h
    · split at h
      · cases h; exact ⟨_, rfl⟩
      · cases h
    · cases h
  · cases h
theorem sp_imp {g g' : List D → Option D} (h : ∀ ds d, g ds = some d → g' ds = some d) : ∀ vs H Q E, spD M n g vs H Q E → spD M n g' vs H Q E := fun vs H Q E q => by
  obtain ⟨F, ds, d, h1, h2, h3, h4, h5⟩ := q
  exact ⟨F, ds, d, h1, h2, h3, h _ _ h4, h5⟩
theorem spI_imp {g g' : List D → Option D} (h : ∀ ds d, g ds = some d → g' ds = some d) : ∀ vs H Q E, spI M n c g vs H Q E → spI M n c g' vs H Q E := fun vs H Q E q => by
  obtain ⟨H1, x, dx, vs', F, ds, fs, h1, h2, h3, h4, h5, h6, h7, h8, h9, h10⟩ := q
  exact ⟨H1, x, dx, vs', F, ds, fs, h1, h2, h3, h4, h5, h6, h7, h8, h _ _ h9, h10⟩
theorem fnAt0 {x : Str} {ds : List D} {g : List D → Option D} (S : DefS M x st ps ds) (h : ∀ ds, g ds = none) : FnAt (lv M 0) x n g ds := by
  obtain ⟨nm, qual, f, fd, dvs, kws, vs, us, h1, h2, h3, h4, h5, h6⟩ := S
  exact ⟨⟨f, fd, ps, vs, us, h1, h2, h4, h5, h6, none_ok (M := lv M 0) h⟩, fun ds d e => by rw [h] at e; cases e⟩
theorem fnAt1 {x : Str} {ds : List D} {g : List D → Option D} (S : DefS M x st ps ds) (sc : FnScope N ps (defScope st)) (hn : ps.length = n) (hb : SndB (lv M L) (Φ L) N (defScope st) (defScope st) (defBody st) is) (hg : g = plain n (Φ L) is N) : FnAt (lv M (L + 1)) x n g ds := by
  obtain ⟨nm, qual, f, fd, dvs, kws, vs, us, h1, h2, h3, h4, h5, h6⟩ := S
  subst hg hn
  exact ⟨⟨f, fd, ps, vs, us, h1, h2, h4, h5, h6, ((fn_body (M := lv M L) h3 sc hb).imp (sp_imp fun ds d e => (plain_some e).2)).mono (by show 2 * L + 1 ≤ 2 * (L + 1); omega)⟩, fun ds d e => (plain_some e).1⟩
theorem mtAt0 {m : Str} {g : List D → Option D} (S : MethS M c m st ps) (no : m ∉ cnames c) (h : ∀ ds, g ds = none) : MtAt (lv M 0) c m n g := by
  obtain ⟨nm, qual, f, fd, dvs, kws, h1, h3, h4⟩ := S
  exact ⟨⟨f, fd, ps, h1, h4, none_ok (M := lv M 0) h⟩, (fun ds d e => by rw [h] at e; cases e), (fun ds d e => by rw [h] at e; cases e), no⟩
theorem mtAt1 {m : Str} {g : List D → Option D} (S : MethS M c m st ps) (no : m ∉ cnames c) (sc : FnScope N ps (defScope st)) (hn : ps.length = n) (hb : SndB (lv M L) (Φ L) N (defScope st) (defScope st) (defBody st) is) (hg : g = meth n c (Φ L) is N) : MtAt (lv M (L + 1)) c m n g := by
  obtain ⟨nm, qual, f, fd, dvs, kws, h1, h3, h4⟩ := S
  subst hg hn
  exact ⟨⟨f, fd, ps, h1, h4, ((fn_body (M := lv M L) h3 sc hb).imp (sp_imp fun ds d e => (meth_some e).2.2)).mono (by show 2 * L + 1 ≤ 2 * (L + 1); omega)⟩, fun ds d e => (meth_some e).1, fun ds d e => (meth_some e).2.1, no⟩
theorem opAt0 {op : Operator} {g : List D → Option D} (S : OpS M c op st ps) (h : ∀ ds, g ds = none) : OpAt (lv M 0) c op g := by
  obtain ⟨nm, qual, f, fd, dvs, kws, h1, h2, h2', h3, h4⟩ := S
  exact ⟨⟨f, fd, ps, h1, h2, h2', h4, none_ok (M := lv M 0) h⟩, fun ds d e => by rw [h] at e; cases e⟩
theorem opAt1 {op : Operator} {g : List D → Option D} (S : OpS M c op st ps) (sc : FnScope N ps (defScope st)) (hn : ps.length = 2) (hb : SndB (lv M L) (Φ L) N (defScope st) (defScope st) (defBody st) is) (hg : g = oper c (Φ L) is N) : OpAt (lv M (L + 1)) c op g := by
  obtain ⟨nm, qual, f, fd, dvs, kws, h1, h2, h2', h3, h4⟩ := S
  subst hg
  refine ⟨⟨f, fd, ps, h1, h2, h2', h4, ?_⟩, fun ds d e => (oper_some e).1⟩
  have := ((fn_body (M := lv M L) h3 sc hb).imp (sp_imp (g := oper c (Φ L) is N) fun ds d e => (oper_some e).2)).mono (k := 2 * (L + 1)) (by show 2 * L + 1 ≤ 2 * (L + 1); omega)
  rw [hn] at this
  exact this
theorem mkAt0 {x : Str} {ds : List D} {g : List D → Option D} (h : ∀ ds, g ds = none) : MkAt (lv M 0) x n c g ds :=
  ⟨.inl h, (fun ds d e => by rw [h] at e; cases e), fun ds d e => by rw [h] at e; cases e⟩
theorem mkAt1 {x : Str} {ds : List D} {g : List D → Option D} (S : MkS M x c st ps ds) (sc : FnScope N ps (defScope st)) (hn : ps.length = n) (hb : ∀ a, SndB { lv M L with self := a } (Φ L) N (defScope st) (defScope st) (defBody st) is) (hg : g = init n c (Φ L) is N) : MkAt (lv M (L + 1)) x n c g ds := by
  obtain ⟨nm, qual, f, fd, dvs, kws, vs, us, h1, h2, h3, h4, h5, h6⟩ := S
  subst hg hn
  exact ⟨.inr ⟨f, fd, ps, vs, us, 2 * L + 1, rfl, h1, h2, h4, h5, h6, (init_body (M := lv M L) h3 sc hb).imp (spI_imp fun ds d e => (init_some e).2.2)⟩, fun ds d e => (init_some e).1, fun ds d e => (init_some e).2.1⟩
theorem sc_is_integer : FnScope n_is_integer ["value"] (defScope (top 9)) := ⟨rfl, rfl, rfl, d_is_integer, rfl, by decide +kernel, by decide +kernel⟩
theorem sc_ratio : FnScope n_ratio ["self", "n", "d"] (defScope (inClass (top 11) 0)) := ⟨rfl, rfl, rfl, d_ratio, rfl, by decide +kernel, by decide +kernel⟩
theorem sc_r_add : FnScope n_r_add ["self", "other"] (defScope (inClass (top 11) 1)) := ⟨rfl, rfl, rfl, d_r_add, rfl, by decide +kernel, by decide +kernel⟩
theorem sc_r_sub : FnScope n_r_sub ["self", "other"] (defScope (inClass (top 11) 2)) := ⟨rfl, rfl, rfl, d_r_sub, rfl, by decide +kernel, by decide +kernel⟩
theorem sc_r_mul : FnScope n_r_mul ["self", "other"] (defScope (inClass (top 11) 3)) := ⟨rfl, rfl, rfl, d_r_mul, rfl, by decide +kernel, by decide +kernel⟩
theorem sc_r_eq : FnScope n_r_eq ["self", "other"] (defScope (inClass (top 11) 5)) := ⟨rfl, rfl, rfl, d_r_eq, rfl, by decide +kernel, by decide +kernel⟩
theorem sc_r_over : FnScope n_r_over ["self", "other"] (defScope (inClass (top 11) 8)) := ⟨rfl, rfl, rfl, d_r_over, rfl, by decide +kernel, by decide +kernel⟩
theorem sc_r_is_zero : FnScope n_r_is_zero ["self"] (defScope (inClass (top 11) 13)) := ⟨rfl, rfl, rfl, d_r_is_zero, rfl, by decide +kernel, by decide +kernel⟩
theorem sc_zero : FnScope n_zero [] (defScope (top 12)) := ⟨rfl, rfl, rfl, d_zero, rfl, by decide +kernel, by decide +kernel⟩
theorem sc_is_partition : FnScope n_is_partition ["value"] (defScope (top 15)) := ⟨rfl, rfl, rfl, d_is_partition, rfl, by decide +kernel, by decide +kernel⟩
theorem sc_size : FnScope n_size ["a"] (defScope (top 16)) := ⟨rfl, rfl, rfl, d_size, rfl, by decide +kernel, by decide +kernel⟩
theorem sc_partitions_below : FnScope n_partitions_below ["n", "most"] (defScope (top 17)) := ⟨rfl, rfl, rfl, d_partitions_below, rfl, by decide +kernel, by decide +kernel⟩
theorem sc_partitions : FnScope n_partitions ["n"] (defScope (top 18)) := ⟨rfl, rfl, rfl, d_partitions, rfl, by decide +kernel, by decide +kernel⟩
theorem sc_part_at : FnScope n_part_at ["a", "i"] (defScope (top 19)) := ⟨rfl, rfl, rfl, d_part_at, rfl, by decide +kernel, by decide +kernel⟩
theorem sc_turned : FnScope n_turned ["a"] (defScope (top 20)) := ⟨rfl, rfl, rfl, d_turned, rfl, by decide +kernel, by decide +kernel⟩
theorem sc_holds : FnScope n_holds ["a", "b"] (defScope (top 21)) := ⟨rfl, rfl, rfl, d_holds, rfl, by decide +kernel, by decide +kernel⟩
theorem sc_trimmed : FnScope n_trimmed ["row"] (defScope (top 22)) := ⟨rfl, rfl, rfl, d_trimmed, rfl, by decide +kernel, by decide +kernel⟩
theorem sc_rows : FnScope n_rows ["lows", "highs", "total"] (defScope (top 23)) := ⟨rfl, rfl, rfl, d_rows, rfl, by decide +kernel, by decide +kernel⟩
theorem sc_with_strip : FnScope n_with_strip ["b", "k", "upright"] (defScope (top 24)) := ⟨rfl, rfl, rfl, d_with_strip, rfl, by decide +kernel, by decide +kernel⟩
theorem sc_joined : FnScope n_joined ["a", "b"] (defScope (top 25)) := ⟨rfl, rfl, rfl, d_joined, rfl, by decide +kernel, by decide +kernel⟩
theorem sc_count_fillings : FnScope n_count_fillings ["outer", "content", "inner"] (defScope (top 27)) := ⟨rfl, rfl, rfl, d_count_fillings, rfl, by decide +kernel, by decide +kernel⟩
theorem sc_spreads : FnScope n_spreads ["columns", "amount", "most"] (defScope (top 29)) := ⟨rfl, rfl, rfl, d_spreads, rfl, by decide +kernel, by decide +kernel⟩
theorem sc_count_matrices : FnScope n_count_matrices ["rows", "columns", "most"] (defScope (top 30)) := ⟨rfl, rfl, rfl, d_count_matrices, rfl, by decide +kernel, by decide +kernel⟩
theorem sc_zero_one_matrices : FnScope n_zero_one_matrices ["rows", "columns"] (defScope (top 31)) := ⟨rfl, rfl, rfl, d_zero_one_matrices, rfl, by decide +kernel, by decide +kernel⟩
theorem sc_whole_matrices : FnScope n_whole_matrices ["rows", "columns"] (defScope (top 32)) := ⟨rfl, rfl, rfl, d_whole_matrices, rfl, by decide +kernel, by decide +kernel⟩
theorem sc_mergings : FnScope n_mergings ["parts", "sums"] (defScope (top 33)) := ⟨rfl, rfl, rfl, d_mergings, rfl, by decide +kernel, by decide +kernel⟩
theorem sc_entry : FnScope n_entry ["base", "part", "other"] (defScope (top 34)) := ⟨rfl, rfl, rfl, d_entry, rfl, by decide +kernel, by decide +kernel⟩
theorem sc_check : FnScope n_check ["n", "bases"] (defScope (top 35)) := ⟨rfl, rfl, rfl, d_check, rfl, by decide +kernel, by decide +kernel⟩
theorem sc_monomial_row : FnScope n_monomial_row ["base", "part"] (defScope (top 36)) := ⟨rfl, rfl, rfl, d_monomial_row, rfl, by decide +kernel, by decide +kernel⟩
theorem sc_combined : FnScope n_combined ["row", "table"] (defScope (top 37)) := ⟨rfl, rfl, rfl, d_combined, rfl, by decide +kernel, by decide +kernel⟩
theorem sc_forward : FnScope n_forward ["row", "table"] (defScope (top 38)) := ⟨rfl, rfl, rfl, d_forward, rfl, by decide +kernel, by decide +kernel⟩
theorem sc_backward : FnScope n_backward ["row", "table"] (defScope (top 39)) := ⟨rfl, rfl, rfl, d_backward, rfl, by decide +kernel, by decide +kernel⟩
theorem sc_fillings_table : FnScope n_fillings_table ["parts"] (defScope (top 40)) := ⟨rfl, rfl, rfl, d_fillings_table, rfl, by decide +kernel, by decide +kernel⟩
theorem sc_from_monomials : FnScope n_from_monomials ["row", "two", "parts"] (defScope (top 41)) := ⟨rfl, rfl, rfl, d_from_monomials, rfl, by decide +kernel, by decide +kernel⟩
theorem sc_converted : FnScope n_converted ["n", "row", "one", "two"] (defScope (top 42)) := ⟨rfl, rfl, rfl, d_converted, rfl, by decide +kernel, by decide +kernel⟩
theorem sc_as_ratio : FnScope n_as_ratio ["value"] (defScope (top 46)) := ⟨rfl, rfl, rfl, d_as_ratio, rfl, by decide +kernel, by decide +kernel⟩
theorem sc_check_part : FnScope n_check_part ["part"] (defScope (top 53)) := ⟨rfl, rfl, rfl, d_check_part, rfl, by decide +kernel, by decide +kernel⟩
theorem sc_added_parts : FnScope n_added_parts ["pairs"] (defScope (top 57)) := ⟨rfl, rfl, rfl, d_added_parts, rfl, by decide +kernel, by decide +kernel⟩
theorem sc_symmetric : FnScope n_symmetric ["self", "base", "pairs"] (defScope (inClass (top 59) 0)) := ⟨rfl, rfl, rfl, d_symmetric, rfl, by decide +kernel, by decide +kernel⟩
theorem sc_s_add : FnScope n_s_add ["self", "other"] (defScope (inClass (top 59) 3)) := ⟨rfl, rfl, rfl, d_s_add, rfl, by decide +kernel, by decide +kernel⟩
theorem sc_s_multiple : FnScope n_s_multiple ["self", "part"] (defScope (inClass (top 59) 7)) := ⟨rfl, rfl, rfl, d_s_multiple, rfl, by decide +kernel, by decide +kernel⟩
theorem sc_s_degree : FnScope n_s_degree ["self"] (defScope (inClass (top 59) 8)) := ⟨rfl, rfl, rfl, d_s_degree, rfl, by decide +kernel, by decide +kernel⟩
theorem sc_s_is_zero : FnScope n_s_is_zero ["self"] (defScope (inClass (top 59) 9)) := ⟨rfl, rfl, rfl, d_s_is_zero, rfl, by decide +kernel, by decide +kernel⟩
theorem sc_s_part_of : FnScope n_s_part_of ["self", "d"] (defScope (inClass (top 59) 10)) := ⟨rfl, rfl, rfl, d_s_part_of, rfl, by decide +kernel, by decide +kernel⟩
theorem sc_one : FnScope n_one ["base", "part"] (defScope (top 61)) := ⟨rfl, rfl, rfl, d_one, rfl, by decide +kernel, by decide +kernel⟩
theorem sc_in_base : FnScope n_in_base ["f", "base"] (defScope (top 63)) := ⟨rfl, rfl, rfl, d_in_base, rfl, by decide +kernel, by decide +kernel⟩
theorem sc_check_degree : FnScope n_check_degree ["degree"] (defScope (top 64)) := ⟨rfl, rfl, rfl, d_check_degree, rfl, by decide +kernel, by decide +kernel⟩
theorem sc_multiplied : FnScope n_multiplied ["left", "right"] (defScope (top 66)) := ⟨rfl, rfl, rfl, d_multiplied, rfl, by decide +kernel, by decide +kernel⟩
theorem sc_put : FnScope n_put ["f", "g"] (defScope (top 67)) := ⟨rfl, rfl, rfl, d_put, rfl, by decide +kernel, by decide +kernel⟩
theorem sc_law_partitions : FnScope n_law_partitions ["_law_n", "_law_most"] (defScope (top 71)) := ⟨rfl, rfl, rfl, d_law_partitions, rfl, by decide +kernel, by decide +kernel⟩
theorem sc_law_list : FnScope n_law_list ["_law_base", "_law_xs", "_law_most"] (defScope (top 72)) := ⟨rfl, rfl, rfl, d_law_list, rfl, by decide +kernel, by decide +kernel⟩
theorem sc_law_power : FnScope n_law_power ["_law_x", "_law_k"] (defScope (top 73)) := ⟨rfl, rfl, rfl, d_law_power, rfl, by decide +kernel, by decide +kernel⟩
theorem sc_law_monomials : FnScope n_law_monomials ["_law_part", "_law_xs"] (defScope (top 74)) := ⟨rfl, rfl, rfl, d_law_monomials, rfl, by decide +kernel, by decide +kernel⟩
theorem sc_law_smaller : FnScope n_law_smaller ["_law_part"] (defScope (top 75)) := ⟨rfl, rfl, rfl, d_law_smaller, rfl, by decide +kernel, by decide +kernel⟩
theorem sc_law_schur : FnScope n_law_schur ["_law_part", "_law_xs"] (defScope (top 76)) := ⟨rfl, rfl, rfl, d_law_schur, rfl, by decide +kernel, by decide +kernel⟩
theorem sc_law_value : FnScope n_law_value ["_law_base", "_law_part", "_law_xs"] (defScope (top 77)) := ⟨rfl, rfl, rfl, d_law_value, rfl, by decide +kernel, by decide +kernel⟩
theorem sc_law_at : FnScope n_law_at ["_law_f", "_law_xs"] (defScope (top 80)) := ⟨rfl, rfl, rfl, d_law_at, rfl, by decide +kernel, by decide +kernel⟩
theorem sc_law_monomial_list : FnScope n_law_monomial_list ["_law_pick", "_law_xs"] (defScope (top 81)) := ⟨rfl, rfl, rfl, d_law_monomial_list, rfl, by decide +kernel, by decide +kernel⟩
/-- what stands behind the top -/
structure St (M : Md) : Prop where
  len : M.mg "len" = none
  sum : M.mg "sum" = none
  min : M.mg "min" = none
  max : M.mg "max" = none
  range : M.mg "range" = none
  isinstance : M.mg "isinstance" = none
  tuple : M.mg "tuple" = none
  list : M.mg "list" = none
  dict : M.mg "dict" = none
  sorted : M.mg "sorted" = none
  int : M.mg "int" = none
  bool : M.mg "bool" = none
  str : M.mg "str" = none
  zip : M.mg "zip" = none
  gcdN : M.mg "gcd" = some (.builtin "math.gcd")
  mp : ∃ u, M.mg "MOST_partition" = some u ∧ RelV (.int 12) u
  md : ∃ u, M.mg "MOST_DEGREE" = some u ∧ RelV (.int 8) u
  bs : ∃ u, M.mg "BASES" = some u ∧ RelV (.str "mehps") u
  g_ratio : M.mg "Ratio" = some (.ref (M.CA 0))
  c0 : ClsAt M 0
  c1 : ClsAt M 1
  i0 : IsiC M 0
  m_ratio : MkS M "Ratio" 0 (inClass (top 11) 0) ["self", "n", "d"] []
  m_ratio1 : MkS M "Ratio" 0 (inClass (top 11) 0) ["self", "n", "d"] [.int 1]
  m_symmetric : MkS M "Symmetric" 1 (inClass (top 59) 0) ["self", "base", "pairs"] []
  o_r_add : OpS M 0 .Add (inClass (top 11) 1) ["self", "other"]
  o_r_sub : OpS M 0 .Sub (inClass (top 11) 2) ["self", "other"]
  o_r_mul : OpS M 0 .Mult (inClass (top 11) 3) ["self", "other"]
  t_r_is_zero : MethS M 0 "is_zero" (inClass (top 11) 13) ["self"]
  t_r_over : MethS M 0 "over" (inClass (top 11) 8) ["self", "other"]
  t_s_multiple : MethS M 1 "multiple" (inClass (top 59) 7) ["self", "part"]
  t_s_degree : MethS M 1 "degree" (inClass (top 59) 8) ["self"]
  t_s_is_zero : MethS M 1 "is_zero" (inClass (top 59) 9) ["self"]
  t_s_part_of : MethS M 1 "part_of" (inClass (top 59) 10) ["self", "d"]
  f_is_integer : DefS M "is_integer" (top 9) ["value"] []
  f_zero : DefS M "zero" (top 12) [] []
  f_is_partition : DefS M "is_partition" (top 15) ["value"] []
  f_size : DefS M "size" (top 16) ["a"] []
  f_partitions_below : DefS M "_partitions_below" (top 17) ["n", "most"] []
  f_partitions : DefS M "partitions" (top 18) ["n"] []
  f_part_at : DefS M "part_at" (top 19) ["a", "i"] []
  f_turned : DefS M "turned" (top 20) ["a"] []
  f_holds : DefS M "holds" (top 21) ["a", "b"] []
  f_trimmed : DefS M "_trimmed" (top 22) ["row"] []
  f_rows : DefS M "_rows" (top 23) ["lows", "highs", "total"] []
  f_with_strip : DefS M "with_strip" (top 24) ["b", "k", "upright"] [.bl false]
  f_joined : DefS M "joined" (top 25) ["a", "b"] []
  f_count_fillings : DefS M "count_fillings" (top 27) ["outer", "content", "inner"] [.ktup]
  f_spreads : DefS M "spreads" (top 29) ["columns", "amount", "most"] []
  f_count_matrices : DefS M "count_matrices" (top 30) ["rows", "columns", "most"] []
  f_zero_one_matrices : DefS M "zero_one_matrices" (top 31) ["rows", "columns"] []
  f_whole_matrices : DefS M "whole_matrices" (top 32) ["rows", "columns"] []
  f_mergings : DefS M "mergings" (top 33) ["parts", "sums"] []
  f_entry : DefS M "entry" (top 34) ["base", "part", "other"] []
  f_check : DefS M "check" (top 35) ["n", "bases"] []
  f_monomial_row : DefS M "monomial_row" (top 36) ["base", "part"] []
  f_combined : DefS M "combined" (top 37) ["row", "table"] []
  f_forward : DefS M "forward" (top 38) ["row", "table"] []
  f_backward : DefS M "backward" (top 39) ["row", "table"] []
  f_fillings_table : DefS M "fillings_table" (top 40) ["parts"] []
  f_from_monomials : DefS M "from_monomials" (top 41) ["row", "two", "parts"] []
  f_converted : DefS M "converted" (top 42) ["n", "row", "one", "two"] []
  f_as_ratio : DefS M "as_ratio" (top 46) ["value"] []
  f_check_part : DefS M "check_part" (top 53) ["part"] []
  f_added_parts : DefS M "added_parts" (top 57) ["pairs"] []
  f_one : DefS M "one" (top 61) ["base", "part"] []
  f_in_base : DefS M "in_base" (top 63) ["f", "base"] []
  f_check_degree : DefS M "check_degree" (top 64) ["degree"] []
  f_multiplied : DefS M "multiplied" (top 66) ["left", "right"] []
  f_put : DefS M "put" (top 67) ["f", "g"] []
  f_law_partitions : DefS M "_law_partitions" (top 71) ["_law_n", "_law_most"] []
  f_law_list : DefS M "_law_list" (top 72) ["_law_base", "_law_xs", "_law_most"] []
  f_law_power : DefS M "_law_power" (top 73) ["_law_x", "_law_k"] []
  f_law_monomials : DefS M "_law_monomials" (top 74) ["_law_part", "_law_xs"] []
  f_law_smaller : DefS M "_law_smaller" (top 75) ["_law_part"] []
  f_law_schur : DefS M "_law_schur" (top 76) ["_law_part", "_law_xs"] []
  f_law_value : DefS M "_law_value" (top 77) ["_law_base", "_law_part", "_law_xs"] []
  f_law_at : DefS M "_law_at" (top 80) ["_law_f", "_law_xs"] []
  f_law_monomial_list : DefS M "_law_monomial_list" (top 81) ["_law_pick", "_law_xs"] []
theorem Facts.self {M : Md} {Φ : Fn → List D → Option D} (W : Facts M Φ) (a : Addr) : Facts { M with self := a } Φ where
  len := W.len
  sum := W.sum
  min := W.min
  max := W.max
  range := W.range
  isinstance := W.isinstance
  tuple := W.tuple
  list := W.list
  dict := W.dict
  sorted := W.sorted
  int := W.int
  bool := W.bool
  str := W.str
  zip := W.zip
  gcdN := W.gcdN
  mp := W.mp
  md := W.md
  bs := W.bs
  g_ratio := W.g_ratio
  c0 := ⟨W.c0.1, W.c0.2⟩
  c1 := ⟨W.c1.1, W.c1.2⟩
  i0 := ⟨W.i0.1, W.i0.2, W.i0.3, W.i0.4, W.i0.5, W.i0.6⟩
  m_ratio := ⟨W.m_ratio.1, W.m_ratio.2, W.m_ratio.3⟩
  m_ratio1 := ⟨W.m_ratio1.1, W.m_ratio1.2, W.m_ratio1.3⟩
  m_symmetric := ⟨W.m_symmetric.1, W.m_symmetric.2, W.m_symmetric.3⟩
  o_r_add := ⟨W.o_r_add.1, W.o_r_add.2⟩
  o_r_sub := ⟨W.o_r_sub.1, W.o_r_sub.2⟩
  o_r_mul := ⟨W.o_r_mul.1, W.o_r_mul.2⟩
  t_r_is_zero := ⟨W.t_r_is_zero.1, W.t_r_is_zero.2, W.t_r_is_zero.3, W.t_r_is_zero.4⟩
  t_r_over := ⟨W.t_r_over.1, W.t_r_over.2, W.t_r_over.3, W.t_r_over.4⟩
  t_s_multiple := ⟨W.t_s_multiple.1, W.t_s_multiple.2, W.t_s_multiple.3, W.t_s_multiple.4⟩
  t_s_degree := ⟨W.t_s_degree.1, W.t_s_degree.2, W.t_s_degree.3, W.t_s_degree.4⟩
  t_s_is_zero := ⟨W.t_s_is_zero.1, W.t_s_is_zero.2, W.t_s_is_zero.3, W.t_s_is_zero.4⟩
  t_s_part_of := ⟨W.t_s_part_of.1, W.t_s_part_of.2, W.t_s_part_of.3, W.t_s_part_of.4⟩
  f_is_integer := ⟨W.f_is_integer.1, W.f_is_integer.2⟩
  f_zero := ⟨W.f_zero.1, W.f_zero.2⟩
  f_is_partition := ⟨W.f_is_partition.1, W.f_is_partition.2⟩
  f_size := ⟨W.f_size.1, W.f_size.2⟩
  f_partitions_below := ⟨W.f_partitions_below.1, W.f_partitions_below.2⟩
  f_partitions := ⟨W.f_partitions.1, W.f_partitions.2⟩
  f_part_at := ⟨W.f_part_at.1, W.f_part_at.2⟩
  f_turned := ⟨W.f_turned.1, W.f_turned.2⟩
  f_holds := ⟨W.f_holds.1, W.f_holds.2⟩
  f_trimmed := ⟨W.f_trimmed.1, W.f_trimmed.2⟩
  f_rows := ⟨W.f_rows.1, W.f_rows.2⟩
  f_with_strip := ⟨W.f_with_strip.1, W.f_with_strip.2⟩
  f_joined := ⟨W.f_joined.1, W.f_joined.2⟩
  f_count_fillings := ⟨W.f_count_fillings.1, W.f_count_fillings.2⟩
  f_spreads := ⟨W.f_spreads.1, W.f_spreads.2⟩
  f_count_matrices := ⟨W.f_count_matrices.1, W.f_count_matrices.2⟩
  f_zero_one_matrices := ⟨W.f_zero_one_matrices.1, W.f_zero_one_matrices.2⟩
  f_whole_matrices := ⟨W.f_whole_matrices.1, W.f_whole_matrices.2⟩
  f_mergings := ⟨W.f_mergings.1, W.f_mergings.2⟩
  f_entry := ⟨W.f_entry.1, W.f_entry.2⟩
  f_check := ⟨W.f_check.1, W.f_check.2⟩
  f_monomial_row := ⟨W.f_monomial_row.1, W.f_monomial_row.2⟩
  f_combined := ⟨W.f_combined.1, W.f_combined.2⟩
  f_forward := ⟨W.f_forward.1, W.f_forward.2⟩
  f_backward := ⟨W.f_backward.1, W.f_backward.2⟩
  f_fillings_table := ⟨W.f_fillings_table.1, W.f_fillings_table.2⟩
  f_from_monomials := ⟨W.f_from_monomials.1, W.f_from_monomials.2⟩
  f_converted := ⟨W.f_converted.1, W.f_converted.2⟩
  f_as_ratio := ⟨W.f_as_ratio.1, W.f_as_ratio.2⟩
  f_check_part := ⟨W.f_check_part.1, W.f_check_part.2⟩
  f_added_parts := ⟨W.f_added_parts.1, W.f_added_parts.2⟩
  f_one := ⟨W.f_one.1, W.f_one.2⟩
  f_in_base := ⟨W.f_in_base.1, W.f_in_base.2⟩
  f_check_degree := ⟨W.f_check_degree.1, W.f_check_degree.2⟩
  f_multiplied := ⟨W.f_multiplied.1, W.f_multiplied.2⟩
  f_put := ⟨W.f_put.1, W.f_put.2⟩
  f_law_partitions := ⟨W.f_law_partitions.1, W.f_law_partitions.2⟩
  f_law_list := ⟨W.f_law_list.1, W.f_law_list.2⟩
  f_law_power := ⟨W.f_law_power.1, W.f_law_power.2⟩
  f_law_monomials := ⟨W.f_law_monomials.1, W.f_law_monomials.2⟩
  f_law_smaller := ⟨W.f_law_smaller.1, W.f_law_smaller.2⟩
  f_law_schur := ⟨W.f_law_schur.1, W.f_law_schur.2⟩
  f_law_value := ⟨W.f_law_value.1, W.f_law_value.2⟩
  f_law_at := ⟨W.f_law_at.1, W.f_law_at.2⟩
  f_law_monomial_list := ⟨W.f_law_monomial_list.1, W.f_law_monomial_list.2⟩
theorem facts0 (S : St M) : Facts (lv M 0) (Φ 0) where
  len := S.len
  sum := S.sum
  min := S.min
  max := S.max
  range := S.range
  isinstance := S.isinstance
  tuple := S.tuple
  list := S.list
  dict := S.dict
  sorted := S.sorted
  int := S.int
  bool := S.bool
  str := S.str
  zip := S.zip
  gcdN := S.gcdN
  mp := S.mp
  md := S.md
  bs := S.bs
  g_ratio := S.g_ratio
  c0 := ⟨S.c0.1, S.c0.2⟩
  c1 := ⟨S.c1.1, S.c1.2⟩
  i0 := ⟨S.i0.1, S.i0.2, S.i0.3, S.i0.4, S.i0.5, S.i0.6⟩
  m_ratio := mkAt0 fun _ => rfl
  m_ratio1 := mkAt0 fun _ => rfl
  m_symmetric := mkAt0 fun _ => rfl
  o_r_add := opAt0 S.o_r_add fun _ => rfl
  o_r_sub := opAt0 S.o_r_sub fun _ => rfl
  o_r_mul := opAt0 S.o_r_mul fun _ => rfl
  t_r_is_zero := mtAt0 S.t_r_is_zero (by decide +kernel) fun _ => rfl
  t_r_over := mtAt0 S.t_r_over (by decide +kernel) fun _ => rfl
  t_s_multiple := mtAt0 S.t_s_multiple (by decide +kernel) fun _ => rfl
  t_s_degree := mtAt0 S.t_s_degree (by decide +kernel) fun _ => rfl
  t_s_is_zero := mtAt0 S.t_s_is_zero (by decide +kernel) fun _ => rfl
  t_s_part_of := mtAt0 S.t_s_part_of (by decide +kernel) fun _ => rfl
  f_is_integer := fnAt0 S.f_is_integer fun _ => rfl
  f_zero := fnAt0 S.f_zero fun _ => rfl
  f_is_partition := fnAt0 S.f_is_partition fun _ => rfl
  f_size := fnAt0 S.f_size fun _ => rfl
  f_partitions_below := fnAt0 S.f_partitions_below fun _ => rfl
  f_partitions := fnAt0 S.f_partitions fun _ => rfl
  f_part_at := fnAt0 S.f_part_at fun _ => rfl
  f_turned := fnAt0 S.f_turned fun _ => rfl
  f_holds := fnAt0 S.f_holds fun _ => rfl
  f_trimmed := fnAt0 S.f_trimmed fun _ => rfl
  f_rows := fnAt0 S.f_rows fun _ => rfl
  f_with_strip := fnAt0 S.f_with_strip fun _ => rfl
  f_joined := fnAt0 S.f_joined fun _ => rfl
  f_count_fillings := fnAt0 S.f_count_fillings fun _ => rfl
  f_spreads := fnAt0 S.f_spreads fun _ => rfl
  f_count_matrices := fnAt0 S.f_count_matrices fun _ => rfl
  f_zero_one_matrices := fnAt0 S.f_zero_one_matrices fun _ => rfl
  f_whole_matrices := fnAt0 S.f_whole_matrices fun _ => rfl
  f_mergings := fnAt0 S.f_mergings fun _ => rfl
  f_entry := fnAt0 S.f_entry fun _ => rfl
  f_check := fnAt0 S.f_check fun _ => rfl
  f_monomial_row := fnAt0 S.f_monomial_row fun _ => rfl
  f_combined := fnAt0 S.f_combined fun _ => rfl
  f_forward := fnAt0 S.f_forward fun _ => rfl
  f_backward := fnAt0 S.f_backward fun _ => rfl
  f_fillings_table := fnAt0 S.f_fillings_table fun _ => rfl
  f_from_monomials := fnAt0 S.f_from_monomials fun _ => rfl
  f_converted := fnAt0 S.f_converted fun _ => rfl
  f_as_ratio := fnAt0 S.f_as_ratio fun _ => rfl
  f_check_part := fnAt0 S.f_check_part fun _ => rfl
  f_added_parts := fnAt0 S.f_added_parts fun _ => rfl
  f_one := fnAt0 S.f_one fun _ => rfl
  f_in_base := fnAt0 S.f_in_base fun _ => rfl
  f_check_degree := fnAt0 S.f_check_degree fun _ => rfl
  f_multiplied := fnAt0 S.f_multiplied fun _ => rfl
  f_put := fnAt0 S.f_put fun _ => rfl
  f_law_partitions := fnAt0 S.f_law_partitions fun _ => rfl
  f_law_list := fnAt0 S.f_law_list fun _ => rfl
  f_law_power := fnAt0 S.f_law_power fun _ => rfl
  f_law_monomials := fnAt0 S.f_law_monomials fun _ => rfl
  f_law_smaller := fnAt0 S.f_law_smaller fun _ => rfl
  f_law_schur := fnAt0 S.f_law_schur fun _ => rfl
  f_law_value := fnAt0 S.f_law_value fun _ => rfl
  f_law_at := fnAt0 S.f_law_at fun _ => rfl
  f_law_monomial_list := fnAt0 S.f_law_monomial_list fun _ => rfl
theorem facts1 (S : St M) (W : Facts (lv M L) (Φ L)) : Facts (lv M (L + 1)) (Φ (L + 1)) where
  len := S.len
  sum := S.sum
  min := S.min
  max := S.max
  range := S.range
  isinstance := S.isinstance
  tuple := S.tuple
  list := S.list
  dict := S.dict
  sorted := S.sorted
  int := S.int
  bool := S.bool
  str := S.str
  zip := S.zip
  gcdN := S.gcdN
  mp := S.mp
  md := S.md
  bs := S.bs
  g_ratio := S.g_ratio
  c0 := ⟨S.c0.1, S.c0.2⟩
  c1 := ⟨S.c1.1, S.c1.2⟩
  i0 := ⟨S.i0.1, S.i0.2, S.i0.3, S.i0.4, S.i0.5, S.i0.6⟩
  m_ratio := mkAt1 S.m_ratio sc_ratio rfl (fun a => b_ratio (W.self a)) rfl
  m_ratio1 := mkAt1 S.m_ratio1 sc_ratio rfl (fun a => b_ratio (W.self a)) rfl
  m_symmetric := mkAt1 S.m_symmetric sc_symmetric rfl (fun a => b_symmetric (W.self a)) rfl
  o_r_add := opAt1 S.o_r_add sc_r_add rfl (b_r_add W) rfl
  o_r_sub := opAt1 S.o_r_sub sc_r_sub rfl (b_r_sub W) rfl
  o_r_mul := opAt1 S.o_r_mul sc_r_mul rfl (b_r_mul W) rfl
  t_r_is_zero := mtAt1 S.t_r_is_zero (by decide +kernel) sc_r_is_zero rfl (b_r_is_zero W) rfl
  t_r_over := mtAt1 S.t_r_over (by decide +kernel) sc_r_over rfl (b_r_over W) rfl
  t_s_multiple := mtAt1 S.t_s_multiple (by decide +kernel) sc_s_multiple rfl (b_s_multiple W) rfl
  t_s_degree := mtAt1 S.t_s_degree (by decide +kernel) sc_s_degree rfl (b_s_degree W) rfl
  t_s_is_zero := mtAt1 S.t_s_is_zero (by decide +kernel) sc_s_is_zero rfl (b_s_is_zero W) rfl
  t_s_part_of := mtAt1 S.t_s_part_of (by decide +kernel) sc_s_part_of rfl (b_s_part_of W) rfl
  f_is_integer := fnAt1 S.f_is_integer sc_is_integer rfl (b_is_integer W) rfl
  f_zero := fnAt1 S.f_zero sc_zero rfl (b_zero W) rfl
  f_is_partition := fnAt1 S.f_is_partition sc_is_partition rfl (b_is_partition W) rfl
  f_size := fnAt1 S.f_size sc_size rfl (b_size W) rfl
  f_partitions_below := fnAt1 S.f_partitions_below sc_partitions_below rfl (b_partitions_below W) rfl
  f_partitions := fnAt1 S.f_partitions sc_partitions rfl (b_partitions W) rfl
  f_part_at := fnAt1 S.f_part_at sc_part_at rfl (b_part_at W) rfl
  f_turned := fnAt1 S.f_turned sc_turned rfl (b_turned W) rfl
  f_holds := fnAt1 S.f_holds sc_holds rfl (b_holds W) rfl
  f_trimmed := fnAt1 S.f_trimmed sc_trimmed rfl (b_trimmed W) rfl
  f_rows := fnAt1 S.f_rows sc_rows rfl (b_rows W) rfl
  f_with_strip := fnAt1 S.f_with_strip sc_with_strip rfl (b_with_strip W) rfl
  f_joined := fnAt1 S.f_joined sc_joined rfl (b_joined W) rfl
  f_count_fillings := fnAt1 S.f_count_fillings sc_count_fillings rfl (b_count_fillings W) rfl
  f_spreads := fnAt1 S.f_spreads sc_spreads rfl (b_spreads W) rfl
  f_count_matrices := fnAt1 S.f_count_matrices sc_count_matrices rfl (b_count_matrices W) rfl
  f_zero_one_matrices := fnAt1 S.f_zero_one_matrices sc_zero_one_matrices rfl (b_zero_one_matrices W) rfl
  f_whole_matrices := fnAt1 S.f_whole_matrices sc_whole_matrices rfl (b_whole_matrices W) rfl
  f_mergings := fnAt1 S.f_mergings sc_mergings rfl (b_mergings W) rfl
  f_entry := fnAt1 S.f_entry sc_entry rfl (b_entry W) rfl
  f_check := fnAt1 S.f_check sc_check rfl (b_check W) rfl
  f_monomial_row := fnAt1 S.f_monomial_row sc_monomial_row rfl (b_monomial_row W) rfl
  f_combined := fnAt1 S.f_combined sc_combined rfl (b_combined W) rfl
  f_forward := fnAt1 S.f_forward sc_forward rfl (b_forward W) rfl
  f_backward := fnAt1 S.f_backward sc_backward rfl (b_backward W) rfl
  f_fillings_table := fnAt1 S.f_fillings_table sc_fillings_table rfl (b_fillings_table W) rfl
  f_from_monomials := fnAt1 S.f_from_monomials sc_from_monomials rfl (b_from_monomials W) rfl
  f_converted := fnAt1 S.f_converted sc_converted rfl (b_converted W) rfl
  f_as_ratio := fnAt1 S.f_as_ratio sc_as_ratio rfl (b_as_ratio W) rfl
  f_check_part := fnAt1 S.f_check_part sc_check_part rfl (b_check_part W) rfl
  f_added_parts := fnAt1 S.f_added_parts sc_added_parts rfl (b_added_parts W) rfl
  f_one := fnAt1 S.f_one sc_one rfl (b_one W) rfl
  f_in_base := fnAt1 S.f_in_base sc_in_base rfl (b_in_base W) rfl
  f_check_degree := fnAt1 S.f_check_degree sc_check_degree rfl (b_check_degree W) rfl
  f_multiplied := fnAt1 S.f_multiplied sc_multiplied rfl (b_multiplied W) rfl
  f_put := fnAt1 S.f_put sc_put rfl (b_put W) rfl
  f_law_partitions := fnAt1 S.f_law_partitions sc_law_partitions rfl (b_law_partitions W) rfl
  f_law_list := fnAt1 S.f_law_list sc_law_list rfl (b_law_list W) rfl
  f_law_power := fnAt1 S.f_law_power sc_law_power rfl (b_law_power W) rfl
  f_law_monomials := fnAt1 S.f_law_monomials sc_law_monomials rfl (b_law_monomials W) rfl
  f_law_smaller := fnAt1 S.f_law_smaller sc_law_smaller rfl (b_law_smaller W) rfl
  f_law_schur := fnAt1 S.f_law_schur sc_law_schur rfl (b_law_schur W) rfl
  f_law_value := fnAt1 S.f_law_value sc_law_value rfl (b_law_value W) rfl
  f_law_at := fnAt1 S.f_law_at sc_law_at rfl (b_law_at W) rfl
  f_law_monomial_list := fnAt1 S.f_law_monomial_list sc_law_monomial_list rfl (b_law_monomial_list W) rfl
theorem facts (S : St M) : ∀ L, Facts (lv M L) (Φ L)
  | 0 => facts0 S
  | L + 1 => facts1 S (facts S L)
end FB

set_option Elab.async false
set_option linter.all false
set_option maxRecDepth 100000
set_option maxHeartbeats 1000000
/-! FBn1: _law_next. -/
namespace FB
open PySem PySem.Spec PyProof.Rows L2
def spNx : Sp := fun vs H Q _ => ∃ (a : Addr) (is : List Int) (m : Int), vs = [.ref a, .int m] ∧ 0 < m ∧ H a = some (.lst (is.map V.int)) ∧ (is = [] → Q (.int 0) H) ∧ ∀ i r, is = i :: r → Q (.int (i % m)) (upd H a (.lst (r.map V.int)))
abbrev FnT (K : PySem.W.Frag) (x : Str) (st : Stmt) (f : Addr) (fd : FuncData) : Prop := FunD K x x (defArgs st) (defBody st) (defScope st) [] [] f fd
theorem sc_next : FnScope ["_law_numbers_here", "_law_many"] ["_law_numbers_here", "_law_many"] (defScope (top 70)) := ⟨rfl, rfl, rfl, by decide +kernel, rfl, by decide +kernel, by decide +kernel⟩
theorem ok_next {P : Program} {w : World} {K : PySem.W.Frag} {mg : Str → Option Value} {base : Heap} {f : Addr} {fd : FuncData} (F : FnT K "_law_next" (top 70) f fd) (gL : mg "len" = none) : FnOk P w K mg base CX0 1 f fd ["_law_numbers_here", "_law_many"] spNx := by
  refine F.ok sc_next (fun vs H Q E h => ?_) (fun cdv A outer s H vs Q E hr h => ⟨_, PSs.nox
    (pss_cons (ps_if (pt_cmpR op_eq (pe_callB call_len_seq rfl gL boot_len (pa_cons (pv 0) pa_nil)) pe_int (nomark _)) (pss_one (ps_ret pe_int)) pss_nil)
      (pss_one (ps_ret (pe_op op_mod (pe_bm PySem.F.plainAttrs_list PySem.F.slot_list_pop PySem.F.type_list_pop mt_popAt (pv 0) (pa_cons pe_int pa_nil)) (pv 1))))), ?_⟩)
  · obtain ⟨a, is, m, rfl, _⟩ := h; rfl
  · obtain ⟨a, is, m, rfl, hm, ha, h0, h1⟩ := h
    refine ⟨_, rfl, a, _, rfl, .inl (SqL.of ha), rfl, _, rfl, ?_⟩
    cases is with
    | nil => exact h0 rfl
    | cons i r =>
      have e : decide (V.int (((i :: r).map V.int).length : Int) = V.int 0) = false := by
        refine decide_eq_false fun h => ?_
        injection h with h
        rw [List.length_map, List.length_cons] at h
        omega
      rw [e]
      refine iteF ?_
      refine ⟨_, rfl, .inl ⟨rfl, _, SqL.of ha⟩, a, _, 0, 0, .int i, rfl, rfl, ha, by decide, by decide, ?_, rfl, _, rfl, _, _, rfl, rfl, hm, ?_⟩
      · rw [List.length_map, List.length_cons]
        simp [seqIndex?]
      · exact h1 i r rfl
end FB

set_option Elab.async false
set_option linter.all false
set_option maxRecDepth 100000
set_option maxHeartbeats 1000000
/-! FBn2: _law_numbers. -/
namespace FB
open PySem PySem.Spec PyProof.Rows L2
def NN : List Str := ["_law_script", "_law_found", "_law_k", "_law_cell", "_law_turn", "_law_i", "_law_mixed"]
theorem sc_nums : FnScope NN ["_law_script"] (defScope (top 69)) := ⟨rfl, rfl, rfl, by decide +kernel, rfl, by decide +kernel, by decide +kernel⟩
/-- a new list of whole numbers, which is not told -/
def spNums (K : PySem.W.Frag) : Sp := fun vs H Q _ => ∃ (a : Addr) (ns : List Int), vs = [.ref a] ∧ SqL K H a (ns.map V.int) ∧ ns.length ≤ 63 ∧ ∀ (p : Addr) (is : List Int), H p = none → Q (.ref p) (upd H p (.lst (is.map V.int)))
theorem sqL_upd {K : PySem.W.Frag} {H : Hp} {a p : Addr} {xs : List V} {o : HO} (h : SqL K H a xs) (hp : H p = none) : SqL K (upd H p o) a xs := by
  rcases h with h | h
  · refine .inl ?_
    rcases h with h | ⟨z, h⟩
    · exact .inl (by rw [upd_ne (ne_of_none h hp)]; exact h)
    · exact .inr ⟨z, by rw [upd_ne (ne_of_none h hp)]; exact h⟩
  · exact .inr h
theorem upd_upd {H : Hp} {p : Addr} {o u : HO} : upd (upd H p o) p u = upd H p u := by
  funext b
  by_cases h : b = p
  · subst h; rw [upd_same, upd_same]
  · rw [upd_ne h, upd_ne h, upd_ne h]
/-- the list so far -/
structure Nm (a p : Addr) (H : Hp) (n : Nat) (σ : L2.St) (H' : Hp) : Prop where
  st : ∃ (is : List Int) (o2 o3 o4 o5 o6 : Option V), is.length ≤ n ∧ σ = [some (.ref a), some (.ref p), o2, o3, o4, o5, o6] ∧ H' = upd H p (.lst (is.map V.int))
theorem ok_nums {P : Program} {w : World} {K : PySem.W.Frag} {mg : Str → Option Value} {base : Heap} {f : Addr} {fd : FuncData} (F : FnT K "_law_numbers" (top 69) f fd) (gL : mg "len" = none) (gM : mg "min" = none) (gR : mg "range" = none) (gA : mg "abs" = none) : FnOk P w K mg base CX0 1 f fd ["_law_script"] (spNums K) := by
  have nd := sc_nums.nd
  refine F.ok sc_nums (fun vs H Q E h => ?_) (fun cdv A outer s H vs Q E hr h => ⟨_, PSs.nox
    (pss_cons (ps_set (i := 1) nd rfl (Or.inl rfl) (pe_lst pa_nil))
    (pss_cons (ps_for PassesOwn.never rfl (pi_range1 rfl gR (pa_cons (pe_callB (call_min2 rfl) rfl gM (by rfl) (pa_cons (pe_callB call_len_seq rfl gL boot_len (pa_cons (pv 0) pa_nil)) (pa_cons pe_int pa_nil))) pa_nil)) (pg_name (i := 2) nd rfl (Or.inl rfl))
      (pss_cons (ps_set (i := 3) nd rfl (Or.inl rfl) (pe_callB call_abs rfl gA (by rfl) (pa_cons (pe_ix ix_list (pv 0) (pv 2) (fun _ _ => rfl)) pa_nil)))
      (pss_one (ps_if (pt_cmpR op_ge (pv 3) (pe_op op_pow pe_int pe_int) (nomark _))
        (pss_one (ps_for PassesOwn.never rfl (pi_range1 rfl gR (pa_cons pe_int pa_nil)) (pg_name (i := 4) nd rfl (Or.inl rfl))
          (pss_one (ps_if (pt_cmpR op_gt (pv 3) pe_int (nomark _))
            (pss_cons (ps_expr (pe_bm PySem.F.plainAttrs_list PySem.F.slot_list_append PySem.F.type_list_append mt_append (pv 1) (pa_cons (pe_op op_mod (pv 3) pe_int) pa_nil)))
            (pss_one (ps_set (i := 3) nd rfl (Or.inl rfl) (pe_op op_fdiv (pv 3) pe_int)))) pss_nil))))
        (pss_one (ps_for PassesOwn.never rfl (pi_range1 rfl gR (pa_cons pe_int pa_nil)) (pg_name (i := 5) nd rfl (Or.inl rfl))
          (pss_cons (ps_set (i := 3) nd rfl (Or.inl rfl) (pe_op op_mod (pe_op op_add (pe_op op_add (pe_op op_mul (pv 3) pe_int) (pe_op op_mul pe_int (pe_op op_add (pv 5) (pv 2)))) pe_int) pe_int))
          (pss_cons (ps_set (i := 6) nd rfl (Or.inl rfl) (pe_op op_mod (pe_op op_add (pe_op op_mul (pv 3) pe_int) (pe_op op_fdiv (pv 3) pe_int)) pe_int))
          (pss_one (ps_expr (pe_bm PySem.F.plainAttrs_list PySem.F.slot_list_append PySem.F.type_list_append mt_append (pv 1) (pa_cons (pe_op op_mod (pv 6) pe_int) pa_nil))))))))))))
    (pss_one (ps_ret (pv 1))))), ?_⟩)
  · obtain ⟨a, ns, rfl, _⟩ := h; rfl
  obtain ⟨a, ns, rfl, hS, hl, hQ⟩ := h
  refine ⟨by show 0 ≤ sizeLine; decide, fun p hp => ?_⟩
  have start : Nm a p H 0 ((L2.start NN [V.ref a]).set 1 (some (V.ref p))) (upd H p (.lst [])) := ⟨⟨[], none, none, none, none, none, Nat.le_refl _, rfl, rfl⟩⟩
  refine ⟨_, rfl, a, _, rfl, .inl (sqL_upd hS hp), _, _, rfl, _, rfl, ?_, ?_, for_range (n := _) (fun k σ H' => Nm a p H (60 * k) σ H') start ?_ ?_⟩
  · rw [List.length_map]; show (-(2 ^ 62) : Int) ≤ _; split <;> omega
  · rw [List.length_map]; show _ < (2 ^ 62 : Int); split <;> omega
  · rintro k σ H' hk ⟨is, o2, o3, o4, o5, o6, hi, rfl, rfl⟩
    have hk2 : k < ns.length ∧ k < 63 := by
      rw [List.length_map] at hk
      split at hk <;> omega
    have hz : (ns.map V.int)[k]? = some (V.int ns[k]) := by rw [List.getElem?_map, List.getElem?_eq_getElem hk2.1]; rfl
    rw [Int.zero_add]
    refine ⟨_, rfl, _, rfl, a, _, _, _, rfl, rfl, sqL_upd hS hp, L2.atI_nat hz, _, rfl, ?_⟩
    generalize (if ns[k] < 0 then -ns[k] else ns[k]) = c
    refine ⟨_, rfl, _, _, rfl, rfl, ⟨by decide, by decide, by decide⟩, _, _, rfl, rfl, _, rfl, ?_⟩
    refine ite2 (fun hc => ?_) (fun hc => ?_)
    · refine ⟨60, rfl, by decide, by decide, for_range (n := 60) (fun j σ H' => ∃ c', σ[3]? = some (some (V.int c')) ∧ Nm a p H (60 * k + j) σ H') ⟨c, rfl, ⟨is, _, _, _, _, _, hi, rfl, rfl⟩⟩ ?_ ?_⟩
      · rintro j σ H' hj ⟨c', h3, is, o2, o3, o4, o5, o6, hi, rfl, rfl⟩
        cases h3
        refine ⟨_, rfl, _, _, rfl, rfl, _, rfl, ite2 (fun hc => ?_) (fun hc => ?_)⟩
        · refine ⟨_, rfl, .inl ⟨rfl, _, SqL.of upd_same⟩, _, rfl, _, _, rfl, rfl, (by show (0 : Int) < 1009; decide), p, _, _, rfl, rfl, upd_same, ?_, _, rfl, _, _, rfl, rfl, ⟨by decide, by decide⟩, ?_⟩
          · rw [List.length_map]; exact Nat.lt_of_le_of_lt (show is.length ≤ 10000 by omega) (by decide)
          · refine ⟨c' / 1009, rfl, ⟨is ++ [c' % 1009], _, _, _, _, _, ?_, rfl, ?_⟩⟩
            · rw [List.length_append]; simp; omega
            · rw [upd_upd, List.map_append]; rfl
        · exact ⟨c', rfl, ⟨is, _, _, _, _, _, by omega, rfl, rfl⟩⟩
      · rintro σ H' ⟨c', -, is, o2, o3, o4, o5, o6, hi, rfl, rfl⟩
        exact ⟨is, _, _, _, _, _, by omega, rfl, rfl⟩
    · refine ⟨5, rfl, by decide, by decide, for_range (n := 5) (fun j σ H' => ∃ c', σ[3]? = some (some (V.int c')) ∧ σ[2]? = some (some (V.int (k : Int))) ∧ Nm a p H (60 * k + j) σ H') ⟨c, rfl, rfl, ⟨is, _, _, _, _, _, hi, rfl, rfl⟩⟩ ?_ ?_⟩
      · rintro j σ H' hj ⟨c', h3, h2, is, o2, o3, o4, o5, o6, hi, rfl, rfl⟩
        cases h3
        cases h2
        refine ⟨_, rfl, _, _, rfl, rfl, .inr ⟨by decide, by decide⟩, _, rfl, _, rfl, _, _, rfl, rfl, _, _, rfl, rfl, .inl ⟨by decide, by decide⟩, _, _, rfl, rfl, _, _, rfl, rfl, _, _, rfl, rfl, (by show (0 : Int) < 2147483647; decide), ?_⟩
        refine ⟨_, rfl, _, _, rfl, rfl, .inr ⟨by decide, by decide⟩, _, rfl, _, _, rfl, rfl, ⟨by decide, by decide⟩, _, _, rfl, rfl, _, _, rfl, rfl, (by show (0 : Int) < 2147483629; decide), ?_⟩
        refine ⟨_, rfl, .inl ⟨rfl, _, SqL.of upd_same⟩, _, rfl, _, _, rfl, rfl, (by show (0 : Int) < 1009; decide), p, _, _, rfl, rfl, upd_same, ?_, ?_⟩
        · rw [List.length_map]; exact Nat.lt_of_le_of_lt (show is.length ≤ 10000 by omega) (by decide)
        · refine ⟨_, rfl, rfl, ⟨is ++ [((((c' * 48271 + 69621 * (0 + (j : Int) + (k : Int)) + 11) % 2147483647) * 16807 + ((c' * 48271 + 69621 * (0 + (j : Int) + (k : Int)) + 11) % 2147483647) / 65536) % 2147483629) % 1009], _, _, _, _, _, ?_, rfl, ?_⟩⟩
          · rw [List.length_append]; simp; omega
          · rw [upd_upd, List.map_append]; rfl
      · rintro σ H' ⟨c', -, -, is, o2, o3, o4, o5, o6, hi, rfl, rfl⟩
        exact ⟨is, _, _, _, _, _, by omega, rfl, rfl⟩
  · rintro σ H' ⟨is, o2, o3, o4, o5, o6, hi, rfl, rfl⟩
    exact ⟨_, rfl, hQ p is hp⟩
end FB

set_option Elab.async false
set_option linter.all false
set_option maxRecDepth 100000
set_option maxHeartbeats 1000000
/-! FBn3: _law_letters. -/
namespace FB
open PySem PySem.Spec PyProof.Rows L2
def nl (is : List Int) : HO := .lst (is.map V.int)
/-- a number is drawn -/
def spNy : Sp := fun vs H Q _ => ∃ (a : Addr) (is : List Int) (m : Int), vs = [.ref a, .int m] ∧ 0 < m ∧ H a = some (nl is) ∧ ∀ (x : Int) (is' : List Int), 0 ≤ x → x < m → Q (.int x) (upd H a (nl is'))
theorem upd_self {H : Hp} {a : Addr} {o : HO} (h : H a = some o) : upd H a o = H := by
  funext b
  by_cases e : b = a
  · subst e; rw [upd_same, h]
  · rw [upd_ne e]
theorem sp_ny : ∀ vs H Q E, spNy vs H Q E → spNx vs H Q E := fun vs H Q E h => by
  obtain ⟨a, is, m, rfl, hm, ha, k⟩ := h
  refine ⟨a, is, m, rfl, hm, ha, fun e => ?_, fun i r _ => k _ r (Int.emod_nonneg _ (by omega)) (Int.emod_lt_of_pos _ hm)⟩
  subst e
  have := k 0 [] (Int.le_refl _) hm
  rwa [upd_self ha] at this
/-- the def _law_next as it stands -/
structure NxT (M : Md) : Prop where
  ex : ∃ (f : Addr) (fd : FuncData), M.mg "_law_next" = some (.ref f) ∧ PySem.W.keepIn M.K (.ref f) = true ∧ Binds M.K fd ["_law_numbers_here", "_law_many"] [] ∧ FnOk M.P M.w M.K M.mg M.base CX0 M.k f fd ["_law_numbers_here", "_law_many"] spNy
/-- the numbers at a: not known to F, and read by nobody else -/
structure Nums (a : Addr) (is : List Int) (F H : Hp) : Prop where
  s : Same F H
  fa : F a = none
  at_ : H a = some (nl is)
abbrev ExtN (a : Addr) (is : List Int) (F H F' H' : Hp) : Prop := Ext F (upd H a (nl is)) F' H'
theorem nl_tup {is : List Int} {xs : List V} : nl is ≠ .tup xs := fun z => by cases z
theorem Nums.draw {a : Addr} {is is' : List Int} {F H : Hp} (n : Nums a is F H) : Nums a is' F (upd H a (nl is')) := by
  refine ⟨fun b u e => ?_, n.fa, upd_same⟩
  rw [upd_ne (ne_of_none e n.fa)]
  exact n.s b u e
theorem Nums.step {a : Addr} {is : List Int} {F H F' H' : Hp} (n : Nums a is F H) (x : Ext F H F' H') : Nums a is F' H' := by
  refine ⟨x.s, ?_, x.h _ _ n.at_⟩
  rcases x.n a _ n.at_ n.fa with q | ⟨xs, q⟩
  · exact q
  · exact absurd q nl_tup
theorem ExtN.here {a : Addr} {is is' : List Int} {F H : Hp} (n : Nums a is F H) : ExtN a is' F H F (upd H a (nl is')) := Ext.refl (n.draw (is' := is')).s
theorem upd2 {H : Hp} {p : Addr} {o u : HO} : upd (upd H p o) p u = upd H p u := upd_upd
/-- steps, one behind another -/
theorem ExtN.comp {a : Addr} {is is' : List Int} {F H F1 H1 F2 H2 : Hp} (n : Nums a is F1 H1) (x : ExtN a is F H F1 H1) (y : ExtN a is' F1 H1 F2 H2) : ExtN a is' F H F2 H2 := by
  refine ⟨x.f.trans y.f, fun b u e => ?_, y.s, fun b u e fb => ?_⟩
  · by_cases hb : b = a
    · subst hb
      rw [upd_same] at e
      cases e
      exact y.h _ _ upd_same
    · rw [upd_ne hb] at e
      have h1 := x.h b u (by rw [upd_ne hb]; exact e)
      exact y.h b u (by rw [upd_ne hb]; exact h1)
  · by_cases hb : b = a
    · subst hb
      rcases y.n b (nl is') upd_same n.fa with q | ⟨xs, q⟩
      · exact .inl q
      · exact absurd q nl_tup
    · rw [upd_ne hb] at e
      have h1 := x.h b u (by rw [upd_ne hb]; exact e)
      rcases x.n b u (by rw [upd_ne hb]; exact e) fb with q | q
      · exact y.n b u (by rw [upd_ne hb]; exact h1) q
      · exact .inr q
theorem ExtN.ext {a : Addr} {is : List Int} {F H F1 H1 F2 H2 : Hp} (x : ExtN a is F H F1 H1) (y : Ext F1 H1 F2 H2) : ExtN a is F H F2 H2 := Ext.trans x y
/-- three letters -/
def spLet (M : Md) : Sp := fun vs H Q _ => ∃ (a : Addr) (is : List Int) (F : Hp), vs = [.ref a, .int 3] ∧ Nums a is F H ∧ ∀ v F' H' is' x y z, x ∈ L6 → y ∈ L6 → z ∈ L6 → ExtN a is' F H F' H' → Nums a is' F' H' → EncM M F' v (.lst ([x, y, z].map .int)) → Q v H'
def L7 : List Int := [1, -1, 2, 1, 3, -2, 0]
theorem l7_6 : ((List.range 7).all fun i => L6.contains (L7.getD i 0)) = true := by decide +kernel
def nLet : List Str := ["_law_numbers_here", "_law_n", "_law_turn"]
theorem sc_let : FnScope nLet ["_law_numbers_here", "_law_n"] (defScope (top 78)) := ⟨rfl, rfl, rfl, by decide +kernel, rfl, by decide +kernel, by decide +kernel⟩
theorem ok_letters {M : Md} {f : Addr} {fd : FuncData} (F : FnT M.K "_law_letters" (top 78) f fd) (T : NxT M) (gR : M.mg "range" = none) : FnOk M.P M.w M.K M.mg M.base CX0 (M.k + 1) f fd ["_law_numbers_here", "_law_n"] (spLet M) := by
  have nd := sc_let.nd
  obtain ⟨fN, fdN, gN, kN, bN, FN⟩ := T.ex
  refine F.ok sc_let (fun vs H Q E h => ?_) (fun cdv A outer s H vs Q E hr h => ⟨_, PSs.nox
    (pss_one (ps_ret (pe_lc (own := [("_law_turn", 2)]) (g := gName 2) (tt := tYes) rfl nd (pi_range1 rfl gR (pa_cons (pv 1) pa_nil)) (blkOk_by (N := nLet) (sc := defScope (top 78)) (by decide +kernel))
      (fun _ _ _ _ _ => pg_name (i := 2) nd rfl (Or.inl rfl)) (fun _ _ _ _ _ => pts_nil)
      (fun s1 H1 C cl fp => pe_ix (show IxR _ (rIxL M.K) from ix_list) (pe_lst (pa_cons pe_int (pa_cons (pe_un un_neg pe_int) (pa_cons pe_int (pa_cons pe_int (pa_cons pe_int (pa_cons (pe_un un_neg pe_int) (pa_cons pe_int pa_nil))))))))
        (pe_call FN ((xok_body hr nd).blk _ s1 H1 C cl fp).room rfl gN kN bN .nil pass0 (pa_cons (pv 0) (pa_cons pe_int pa_nil))) (fun _ _ => rfl))))), ?_⟩)
  · obtain ⟨a, is, F, rfl, _⟩ := h; rfl
  obtain ⟨a, is, F0, rfl, n, k⟩ := h
  refine ⟨_, rfl, 3, rfl, by decide, by decide, fun D hD => ?_⟩
  have dA : a ≠ D := fun e => by have q := n.at_; rw [e, hD] at q; cases q
  refine lc_range (n := 3) (fun i H' => ∃ (is' acc : List Int), acc.length = i ∧ (∀ x ∈ acc, x ∈ L6) ∧ H' D = some (nl acc) ∧ F0 D = none ∧ Nums a is' F0 H' ∧ ∀ b u, b ≠ a → H b = some u → H' b = some u) ⟨is, [], rfl, fun _ h => (nomatch h), upd_same, n.s.free hD, ⟨fun b u e => ?_, n.fa, ?_⟩, fun b u hb e => ?_⟩ ?_ ?_
  · rw [upd_ne (ne_of_none (n.s b u e) hD)]; exact n.s b u e
  · rw [upd_ne dA]; exact n.at_
  · rw [upd_ne (ne_of_none e hD)]; exact e
  · rintro i H' hi ⟨is', acc, ha, hm, hd, fD, n', kp⟩
    refine ⟨rfl, ?_⟩
    unfold tYes
    dsimp only
    rw [if_pos rfl]
    refine ⟨_, rfl, _, rfl, by show 7 ≤ sizeLine; decide, fun l hl => ?_⟩
    have lA : a ≠ l := fun e => by have q := n'.at_; rw [e, hl] at q; cases q
    refine ⟨_, rfl, a, is', 7, rfl, by decide, by rw [upd_ne lA]; exact n'.at_, fun x is2 h0 h7 => ?_⟩
    obtain ⟨j, rfl⟩ := Int.eq_ofNat_of_zero_le h0
    have j7 : j < 7 := by omega
    have hx : L7.getD j 0 ∈ L6 := by
      have := List.all_eq_true.mp l7_6 j (List.mem_range.mpr j7)
      simpa using this
    refine ⟨l, L7.map V.int, (j : Int), .int (L7.getD j 0), rfl, rfl, SqL.of (by rw [upd_ne (Ne.symm lA), upd_same]; rfl), L2.atI_nat ?_, acc.map V.int, ?_, ?_, is2, acc ++ [L7.getD j 0], ?_, ?_, ?_, fD, ⟨fun b u e => ?_, n'.fa, ?_⟩, fun b u hb e => ?_⟩
    · rw [List.getElem?_map, List.getD_eq_getElem?_getD]
      have : j < L7.length := j7
      rw [List.getElem?_eq_getElem this]; rfl
    · rw [upd_ne (Ne.symm dA), upd_ne (ne_of_none hd hl)]; exact hd
    · rw [List.length_map, ha]; exact Nat.lt_of_lt_of_le (show i < 4 by omega) (by decide)
    · rw [List.length_append, ha]; rfl
    · intro y hy
      rcases List.mem_append.mp hy with q | q
      · exact hm y q
      · rw [List.mem_singleton.mp q]; exact hx
    · rw [upd_same]
      unfold nl
      rw [List.map_append]; rfl
    · have e2 := n'.s b u e
      rw [upd_ne (ne_of_none e fD), upd_ne (ne_of_none e n'.fa), upd_ne (ne_of_none e2 hl)]; exact e2
    · rw [upd_ne dA, upd_same]
    · have e2 := kp b u hb e
      rw [upd_ne (ne_of_none e hD), upd_ne hb, upd_ne (ne_of_none e2 hl)]; exact e2
  · rintro H' ⟨is', acc, ha, hm, hd, fD, n', kp⟩
    obtain ⟨x, y, z, rfl⟩ : ∃ x y z, acc = [x, y, z] := by
      match acc, ha with
      | [x, y, z], _ => exact ⟨x, y, z, rfl⟩
    have aF : (upd F0 D (nl [x, y, z])) a = none := by rw [upd_ne dA]; exact n'.fa
    have sF : Same (upd F0 D (nl [x, y, z])) H' := fun b u e => by
      by_cases q : b = D
      · subst q; rw [upd_same] at e; rw [hd, ← e]
      · rw [upd_ne q] at e; exact n'.s b u e
    refine k (.ref D) (upd F0 D (nl [x, y, z])) H' is' x y z (hm x (by simp)) (hm y (by simp)) (hm z (by simp)) ⟨fun b u e => ?_, fun b u e => ?_, sF, fun b u e fb => .inl ?_⟩ ⟨sF, aF, n'.at_⟩ (.lst upd_same (EncL.ofInts _))
    · rw [upd_ne (ne_of_none e fD)]; exact e
    · by_cases hb : b = a
      · subst hb; rw [upd_same] at e; rw [n'.at_, ← e]
      · rw [upd_ne hb] at e; exact kp b u hb e
    · by_cases q : b = D
      · subst q
        rw [upd_ne (Ne.symm dA), hD] at e
        cases e
      · rw [upd_ne q]; exact fb
end FB

set_option Elab.async false
set_option linter.all false
set_option maxRecDepth 100000
set_option maxHeartbeats 1000000
/-! FBn4: calls by hand; _law_function. -/
namespace FB
open PySem PySem.Spec PyProof.Rows L2
variable {M : Md}
theorem encL_nil {F : Hp} {vs : List V} (h : EncLM M F vs []) : vs = [] := by cases h; rfl
/-- a def of the small language, for a call by hand -/
theorem fn_ex {x : Str} {n : Nat} {g : List D → Option D} (A : FnAt M x n g []) : ∃ (a : Addr) (fd : FuncData) (ps : List Str), M.mg x = some (.ref a) ∧ PySem.W.keepIn M.K (.ref a) = true ∧ Binds M.K fd ps [] ∧ FnOk M.P M.w M.K M.mg M.base CX0 M.k a fd ps (spD M n g) := by
  obtain ⟨a, fd, ps, dvs, us, h1, h2, h3, h4, h5, h6⟩ := A.ex
  have e : dvs = [] := encL_nil (h5 fun _ => none)
  subst e
  cases h4
  exact ⟨a, fd, ps, h1, h2, h3, h6⟩
/-- a class of the small language, for a making by hand -/
theorem mk_ex {x : Str} {n c : Nat} {g : List D → Option D} {ds : List D} (A : MkAt M x n c g ds) (hne : ∃ es d, g es = some d) : ∃ (a : Addr) (fd : FuncData) (ps : List Str) (dvs : List V) (us : List Value) (j : Nat), M.k = j + 1 ∧ M.mg x = some (.ref (M.CA c)) ∧ Mk M.K (M.CA c) a ∧ Binds M.K fd ps us ∧ Vals dvs us ∧ (∀ F : Hp, EncLM M F dvs ds) ∧ FnOk M.P M.w M.K M.mg M.base CX0 j a fd ps (spI M n c g) := by
  rcases A.ex with h | h
  · obtain ⟨es, d, e⟩ := hne
    rw [h] at e
    cases e
  · exact h
theorem mk_of {n c : Nat} {g : List D → Option D} {F H1 : Hp} {vs : List V} {ds fs : List D} (hn : vs.length + 1 = n) (sm : Same F H1) (ev : EncLM M F vs ds) (e : g ds = some (.ins c fs)) {Q : VK} (k : ∀ v F' H', Ext F H1 F' H' → EncM M F' v (.ins c fs) → Q v H') :
    ∀ x dx, H1 x = none → H1 dx = none → dx ≠ x → spI M n c g (.ref x :: vs) (upd (upd H1 dx (.own x)) x (.ins (M.CA c) dx [])) (fun v H2 => v = .non ∧ Q (.ref x) H2) E0 := by
  intro x dx hx hdx hne
  refine ⟨H1, x, dx, vs, F, _, fs, rfl, ?_, rfl, hx, hdx, hne, sm, ev, e, fun F' H' dy ws x2 fx hx' hl el => ⟨rfl, ?_⟩⟩
  · rw [List.length_cons, hn]
  · have m : Same F' (upd F' x (.ins (M.CA c) dy ((cnames c).zip ws))) := fun b u q => by rw [upd_ne (ne_of_none q fx)]; exact q
    have x3 : Ext F H1 (upd F' x (.ins (M.CA c) dy ((cnames c).zip ws))) H' := by
      refine ⟨x2.f.trans m, x2.h, fun b u q => ?_, fun b u q n => ?_⟩
      · by_cases z : b = x
        · subst z; rw [upd_same] at q; rw [hx', q]
        · rw [upd_ne z] at q; exact x2.s b u q
      · rw [upd_ne (ne_of_none q hx)]; exact x2.n b u q n
    exact k _ _ H' x3 (.ins upd_same hl (el.mono m))
theorem mk_run {n c : Nat} {g : List D → Option D} {F H1 : Hp} {vs : List V} {ds fs : List D} (hn : vs.length + 1 = n) (sm : Same F H1) (ev : EncLM M F vs ds) (e : g ds = some (.ins c fs)) {x dx : Addr} (hx : H1 x = none) (hdx : H1 dx = none) (hne : dx ≠ x) {Q : VK} {E : XK} (k : ∀ F' H', Ext F H1 F' H' → EncM M F' (.ref x) (.ins c fs) → Q .non H') :
    spI M n c g (.ref x :: vs) (upd (upd H1 dx (.own x)) x (.ins (M.CA c) dx [])) Q E := by
  refine ⟨H1, x, dx, vs, F, _, fs, rfl, ?_, rfl, hx, hdx, hne, sm, ev, e, fun F' H' dy ws x2 fx hx' hl el => ?_⟩
  · rw [List.length_cons, hn]
  · have m : Same F' (upd F' x (.ins (M.CA c) dy ((cnames c).zip ws))) := fun b u q => by rw [upd_ne (ne_of_none q fx)]; exact q
    have x3 : Ext F H1 (upd F' x (.ins (M.CA c) dy ((cnames c).zip ws))) H' := by
      refine ⟨x2.f.trans m, x2.h, fun b u q => ?_, fun b u q n => ?_⟩
      · by_cases z : b = x
        · subst z; rw [upd_same] at q; rw [hx', q]
        · rw [upd_ne z] at q; exact x2.s b u q
      · rw [upd_ne (ne_of_none q hx)]; exact x2.n b u q n
    exact k _ H' x3 (.ins upd_same hl (el.mono m))
/-! own lists -/
theorem Ext.ownKeep {F H F' H' : Hp} (x : Ext F H F' H') {p : Addr} {vs : List V} (h : H p = some (.lst vs)) (f : F p = none) : H' p = some (.lst vs) ∧ F' p = none := by
  refine ⟨x.h _ _ h, ?_⟩
  rcases x.n p _ h f with q | ⟨xs, q⟩
  · exact q
  · cases q
theorem Ext.setOwn {F H F' H' : Hp} (x : Ext F H F' H') {p : Addr} {o : HO} (h : H p = none) (f : F' p = none) : Ext F H F' (upd H' p o) := by
  refine ⟨x.f, fun b u e => ?_, fun b u e => ?_, x.n⟩
  · rw [upd_ne (ne_of_none e h)]; exact x.h b u e
  · rw [upd_ne (ne_of_none e f)]; exact x.s b u e
theorem Ext.freeze {F H F' H' : Hp} (x : Ext F H F' H') {p : Addr} {o : HO} (h : H p = none) (f : F' p = none) (hp : H' p = some o) : Ext F H (upd F' p o) H' := by
  refine ⟨fun b u e => ?_, x.h, fun b u e => ?_, fun b u e n => ?_⟩
  · have := x.f b u e
    rw [upd_ne (ne_of_none this f)]; exact this
  · by_cases q : b = p
    · subst q; rw [upd_same] at e; rw [hp, e]
    · rw [upd_ne q] at e; exact x.s b u e
  · rw [upd_ne (ne_of_none e h)]; exact x.n b u e n
theorem Nums.setOwn {a p : Addr} {is : List Int} {F H : Hp} {o : HO} (n : Nums a is F H) (f : F p = none) (ne : p ≠ a) : Nums a is F (upd H p o) := by
  refine ⟨fun b u e => ?_, n.fa, ?_⟩
  · rw [upd_ne (ne_of_none e f)]; exact n.s b u e
  · rw [upd_ne (Ne.symm ne)]; exact n.at_
/-! _law_function -/
def nFun : List Str := ["_law_numbers_here", "_law_base", "_law_most", "_law_pairs", "_law_turn", "_law_parts"]
theorem sc_fun : FnScope nFun ["_law_numbers_here", "_law_base", "_law_most"] (defScope (top 79)) := ⟨rfl, rfl, rfl, by decide +kernel, rfl, by decide +kernel, by decide +kernel⟩
/-- the pairs drawn -/
structure PrsOk (m : Int) (prs : List TM) : Prop where
  all : ∀ t ∈ prs, t.1 ∈ P12 ∧ t.1.sum ≤ m ∧ Ok 1 t.2
  len : prs.length ≤ 2
def spFun (M : Md) : Sp := fun vs H Q _ => ∃ (a : Addr) (is : List Int) (F : Hp) (b : Bs) (m : Int), vs = [.ref a, .str b.nm, .int m] ∧ (m = 2 ∨ m = 3) ∧ Nums a is F H ∧ ∀ v F' H' is' prs, PrsOk m prs → ExtN a is' F H F' H' → Nums a is' F' H' → EncM M F' v (syD b.nm (nfT prs)) → Q v H'
theorem lp_tb : ([(2 : Int), 3].all fun m => [0, 1, 2, 3].all fun (n : Nat) => if (n : Int) ≤ m then tb .law_partitions [.int (n : Int), .int m] (.lst ((PT n).map pD)) else true) = true := by decide +kernel
theorem lp_val {m : Int} (hm : m = 2 ∨ m = 3) {n : Nat} (hn : (n : Int) ≤ m) {L : Nat} (hL : 30 ≤ L) : Φ L .law_partitions [.int (n : Int), .int m] = some (.lst ((PT n).map pD)) := by
  have m1 : m ∈ [(2 : Int), 3] := by rcases hm with rfl | rfl <;> simp
  have n1 : n ∈ [0, 1, 2, 3] := by
    have : n = 0 ∨ n = 1 ∨ n = 2 ∨ n = 3 := by omega
    rcases this with rfl | rfl | rfl | rfl <;> simp
  have := List.all_eq_true.mp (List.all_eq_true.mp lp_tb m m1) n n1
  rw [if_pos hn] at this
  exact tb_eq this hL
theorem pt_pos {n : Nat} (hn : n ≤ 4) : 0 < (PT n).length := by
  have : ((List.range 5).all fun n => decide (0 < (PT n).length)) = true := by decide +kernel
  exact of_decide_eq_true (List.all_eq_true.mp this n (List.mem_range.mpr (by omega)))
structure FunI (M : Md) (a pl : Addr) (b : Bs) (m : Int) (F0 H : Hp) (n : Nat) (σ : L2.St) (H' : Hp) : Prop where
  ex : ∃ (F' : Hp) (is' : List Int) (vs : List V) (prs : List TM) (o4 o5 : Option V), σ = [some (.ref a), some (.str b.nm), some (.int m), some (.ref pl), o4, o5] ∧ Nums a is' F' H' ∧ ExtN a is' F0 H F' H' ∧ F' pl = none ∧ H' pl = some (.lst vs) ∧ EncLM M F' vs (prs.map tmD) ∧ prs.length ≤ n ∧ ∀ t ∈ prs, t.1 ∈ P12 ∧ t.1.sum ≤ m ∧ Ok 1 t.2
theorem ok_function {L : Nat} (hL : 70 ≤ L) (W : Facts M (Φ L)) (T : NxT M) {f : Addr} {fd : FuncData} (Fd : FnT M.K "_law_function" (top 79) f fd) : FnOk M.P M.w M.K M.mg M.base CX0 (M.k + 1) f fd ["_law_numbers_here", "_law_base", "_law_most"] (spFun M) := by
  have nd := sc_fun.nd
  obtain ⟨fN, fdN, gN, kN, bN, FN⟩ := T.ex
  obtain ⟨fP, fdP, psP, gP, kP, bP, FP⟩ := fn_ex W.f_law_partitions
  obtain ⟨fR, fdR, psR, dvR, usR, jR, hjR, gR, MR, bR, vR, eR, FR⟩ := mk_ex W.m_ratio1 ⟨_, _, by
    have := ratio_int (L - 1) (n := 0) (by decide +kernel)
    rwa [show L - 1 + 1 = L by omega] at this⟩
  obtain ⟨fS, fdS, psS, dvS, usS, jS, hjS, gS, MS, bS, vS, eS, FS⟩ := mk_ex W.m_symmetric ⟨_, _, sym_val L (by omega) (bs_in .m) (k := 1) (ts := []) (fun _ h => (nomatch h)) (fun _ h => (nomatch h)) (by decide) (.inl rfl)⟩
  have eS0 := encL_nil (eS fun _ => none)
  subst eS0
  have eR0 : dvR = [.int 1] := by
    have := eR fun _ => none
    cases this with
    | cons h t => cases h; cases t; rfl
  subst eR0
  have gRg := W.range
  have gL := W.len
  refine Fd.ok sc_fun (fun vs H Q E h => ?_) (fun cdv A outer s H vs Q E hr h => ⟨_, PSs.nox
    (pss_cons (ps_set (i := 3) nd rfl (Or.inl rfl) (pe_lst pa_nil))
    (pss_cons (ps_for PassesOwn.never rfl (pi_range1 rfl gRg (pa_cons (pe_op op_add pe_int (pe_call FN hr rfl gN kN bN .nil pass0 (pa_cons (pv 0) (pa_cons pe_int pa_nil)))) pa_nil)) (pg_name (i := 4) nd rfl (Or.inl rfl))
      (pss_cons (ps_set (i := 5) nd rfl (Or.inl rfl) (pe_call FP hr rfl gP kP bP .nil pass0 (pa_cons (pe_call FN hr rfl gN kN bN .nil pass0 (pa_cons (pv 0) (pa_cons (pe_op op_add (pv 2) pe_int) pa_nil))) (pa_cons (pv 2) pa_nil))))
      (pss_one (ps_expr (pe_bm PySem.F.plainAttrs_list PySem.F.slot_list_append PySem.F.type_list_append mt_append (pv 3)
        (pa_cons (pe_tup (pa_cons (pe_ix ix_list (pv 5) (pe_call FN hr rfl gN kN bN .nil pass0 (pa_cons (pv 0) (pa_cons (pe_callB call_len_seq rfl gL boot_len (pa_cons (pv 5) pa_nil)) pa_nil))) (fun _ _ => rfl))
          (pa_cons (pe_make MR FR (by rw [← hjR]; exact hr) rfl gR bR vR pass0 (pa_cons (pe_op op_sub (pe_call FN hr rfl gN kN bN .nil pass0 (pa_cons (pv 0) (pa_cons pe_int pa_nil))) pe_int) pa_nil)) pa_nil))) pa_nil))))))
    (pss_one (ps_ret (pe_make MS FS (by rw [← hjS]; exact hr) rfl gS bS vS pass0 (pa_cons (pv 1) (pa_cons (pv 3) pa_nil))))))), ?_⟩)
  · obtain ⟨a, is, F, b, m, rfl, _⟩ := h; rfl
  obtain ⟨a, is, F0, b, m, rfl, hm, n0, k⟩ := h
  refine ⟨by show 0 ≤ sizeLine; decide, fun pl hp => ?_⟩
  have pa : pl ≠ a := fun e => by have q := n0.at_; rw [← e, hp] at q; cases q
  have m3 : 2 ≤ m ∧ m ≤ 3 := by omega
  have base : ∀ is' : List Int, (upd H a (nl is')) pl = none := fun is' => by rw [upd_ne pa]; exact hp
  have st0 : FunI M a pl b m F0 H 0 [some (.ref a), some (.str b.nm), some (.int m), some (.ref pl), none, none] (upd H pl (.lst [])) := by
    refine ⟨F0, is, [], [], none, none, rfl, n0.setOwn (n0.s.free hp) pa, ?_, n0.s.free hp, upd_same, .nil, Nat.le_refl _, fun _ h => (nomatch h)⟩
    show Ext F0 (upd H a (nl is)) F0 (upd H pl (.lst []))
    rw [upd_self n0.at_]
    exact Ext.own n0.s hp
  refine ⟨_, rfl, a, is, 2, rfl, by decide, by rw [upd_ne (Ne.symm pa)]; exact n0.at_, fun x0 is1 x00 x02 => ?_⟩
  refine ⟨_, _, rfl, rfl, _, rfl, by show -(2 ^ 62 : Int) ≤ 1 + x0; omega, by show 1 + x0 < (2 ^ 62 : Int); omega, for_range (n := (1 + x0).toNat) (fun i σ H' => FunI M a pl b m F0 H i σ H') ?_ ?_ ?_⟩
  · obtain ⟨F', is', vs, prs, o4, o5, e, n1, x1, f1, h1, e1, l1, p1⟩ := st0.ex
    refine ⟨F', is1, vs, prs, none, none, rfl, n1.draw, ExtN.comp n1 x1 (ExtN.here n1), f1, ?_, e1, l1, p1⟩
    rw [upd_ne pa]; exact h1
  · rintro i σ H' hi ⟨F', is', vs, prs, o4, o5, rfl, n1, x1, f1, h1, e1, l1, p1⟩
    refine ⟨_, rfl, _, rfl, _, _, rfl, rfl, a, is', m + 1, rfl, by omega, n1.at_, fun x is2 h0 hx => ?_⟩
    obtain ⟨d, rfl⟩ := Int.eq_ofNat_of_zero_le h0
    have n2 := n1.draw (is' := is2)
    refine ⟨_, rfl, F', [.int (d : Int), .int m], _, rfl, n2.s, .cons .int (.cons .int .nil), lp_val hm (by omega) (by omega), fun v F2 H2 x2 ev => ?_⟩
    have n3 := n2.step x2
    have xx := (ExtN.comp n1 x1 (ExtN.here n1 (is' := is2))).ext x2
    obtain ⟨h2, f2⟩ := x2.ownKeep (p := pl) (vs := vs) (by rw [upd_ne pa]; exact h1) f1
    cases ev with
    | @lst q vp _ hq ep =>
      have hq2 := x2.s _ _ hq
      have qa : q ≠ a := fun e => by rw [e, n3.fa] at hq; cases hq
      have lv : vp.length = (PT d).length := by rw [ep.len, List.length_map]
      refine ⟨_, rfl, .inl ⟨rfl, _, SqL.of h2⟩, _, rfl, _, rfl, _, rfl, q, vp, rfl, .inl (SqL.of hq2), a, is2, vp.length, rfl, by rw [lv]; have := pt_pos (n := d) (by omega); omega, n3.at_, fun y is3 y0 yl => ?_⟩
      obtain ⟨j, rfl⟩ := Int.eq_ofNat_of_zero_le y0
      have jl : j < (PT d).length := by rw [← lv]; omega
      obtain ⟨v5, g5, e5⟩ := ep.get (i := j) (d := pD (PT d)[j]) (by rw [List.getElem?_map, List.getElem?_eq_getElem jl]; rfl)
      have n4 := n3.draw (is' := is3)
      refine ⟨q, vp, _, v5, rfl, rfl, SqL.of (by rw [upd_ne qa]; exact hq2), L2.atI_nat g5, _, rfl, a, is3, 5, rfl, by decide, n4.at_, fun z is4 z0 z5 => ?_⟩
      refine ⟨_, _, rfl, rfl, ?_⟩
      rw [upd_upd]
      have n5 := n3.draw (is' := is4)
      have rv := ratio_int (L - 1) (n := z - 2) (small24 (by omega))
      rw [show L - 1 + 1 = L by omega] at rv
      intro ro rx hro hrx hne
      refine mk_run (M := M) (F := F2) (ds := [.int (z - 2), .int 1]) rfl n5.s (.cons .int (.cons .int .nil)) rv hro hrx hne fun F3 H3 x3 er => ⟨rfl, ?_⟩
      have n6 := n5.step x3
      obtain ⟨h3, f3⟩ := x3.ownKeep (p := pl) (vs := vs) (by rw [upd_ne pa]; exact h2) f2
      refine ⟨by show 2 ≤ sizeLine; decide, fun t ht => ?_⟩
      have tp : t ≠ pl := fun e => by rw [e, h3] at ht; cases ht
      have ta : t ≠ a := fun e => by rw [e, n6.at_] at ht; cases ht
      have x4 : Ext F3 H3 (upd F3 t (.tup [v5, .ref ro])) (upd H3 t (.tup [v5, .ref ro])) := Ext.new n6.s ht
      refine ⟨pl, vs, .ref t, rfl, rfl, by rw [upd_ne (Ne.symm tp)]; exact h3, ?_, ?_⟩
      · rw [e1.len, List.length_map]
        have : i < 3 := by omega
        exact Nat.lt_of_le_of_lt (show prs.length ≤ 10 by omega) (by decide)
      have f4 : (upd F3 t (.tup [v5, .ref ro])) pl = none := by rw [upd_ne (Ne.symm tp)]; exact f3
      have n7 := (n6.step x4).setOwn (o := .lst (vs ++ [.ref t])) f4 pa
      have xa : ExtN a is4 F0 H F3 H3 := ExtN.comp n3 xx x3
      have xb : ExtN a is4 F0 H (upd F3 t (.tup [v5, .ref ro])) (upd (upd H3 t (.tup [v5, .ref ro])) pl (.lst (vs ++ [.ref t]))) := (xa.ext x4).setOwn (base is4) f4
      refine ⟨_, is4, vs ++ [.ref t], prs ++ [((PT d)[j], ((z - 2 : Int) : Rat))], _, _, rfl, n7, xb, f4, upd_same, ?_, ?_, fun u hu => ?_⟩
      · rw [List.map_append]
        refine ((e1.mono (x2.f.trans (x3.f.trans x4.f)))).app (.cons (.tup upd_same (.cons (e5.mono (x3.f.trans x4.f)) (.cons (er.mono x4.f) .nil))) .nil)
      · rw [List.length_append]; simp; omega
      · rcases List.mem_append.mp hu with w | w
        · exact p1 u w
        · rw [List.mem_singleton.mp w]
          obtain ⟨w1, w2⟩ := pt_mem (n := d) (by omega) (List.getElem_mem jl)
          exact ⟨w1, by show (PT d)[j].sum ≤ m; rw [w2]; omega, Ok.int (by omega)⟩
  · rintro σ H' ⟨F', is', vs, prs, o4, o5, rfl, n1, x1, f1, h1, e1, l1, p1⟩
    refine ⟨_, rfl, _, rfl, ?_⟩
    have pk : PrsOk m prs := ⟨p1, by omega⟩
    have sv := sym_val L (by omega) (bs_in b) (k := 1) (fun t ht => (p1 t ht).1) (fun t ht => (p1 t ht).2.2) (by omega) (P := .lst (prs.map tmD)) (.inl rfl)
    have xf := Ext.freeze x1 (base is') f1 h1
    have nf : Nums a is' (upd F' pl (.lst vs)) H' := ⟨xf.s, by rw [upd_ne (Ne.symm pa)]; exact n1.fa, n1.at_⟩
    have sF : Same F' (upd F' pl (.lst vs)) := fun b' u e => by rw [upd_ne (ne_of_none e f1)]; exact e
    intro ro rx hro hrx hne
    refine mk_run (M := M) (F := upd F' pl (.lst vs)) (ds := [.str b.nm, .lst (prs.map tmD)]) rfl nf.s (.cons .str (.cons (.lst upd_same (e1.mono sF)) .nil)) sv hro hrx hne fun F2 H2 x2 ev => ⟨rfl, ?_⟩
    exact k _ F2 H2 is' prs pk (ExtN.ext xf x2) (nf.step x2) ev
end FB

set_option Elab.async false
set_option linter.all false
set_option maxRecDepth 100000
set_option maxHeartbeats 1000000
/-! FBe1: Refused.__init__: super().__init__(..), self.reason = reason. -/
namespace FB
open PySem PySem.Spec PyProof.Rows L2
abbrev sRI : Stmt := inClass (top 6) 0
/-- what the text's beginning says of the class Refused -/
structure RfC (M : Md) (C fI cc cda : Addr) : Prop where
  ox : OexC M.K C
  mgC : M.mg "Refused" = some (.ref C)
  fd : ∃ (oc : Value) (od : Option Addr) (doc pm : Value) (an : Option Addr) (ct : Value) (osl : Array (Option Value)),
    M.K.lookup fI = some ⟨oc, od, .func (PySem.W.ksFn "__init__" "Refused.__init__" (defArgs sRI) (defBody sRI) (defScope sRI) .none .none doc pm an (.ref cda) ct cc), osl⟩
  ini : PySem.W.findIn M.K (.ref C) "__init__" = some (some (.ref fI))
  tyI : PySem.W.typeIn M.K (.ref fI) = some (.type "function")
  code : PySem.W.codeIn M.K (.ref cda) "Refused.__init__" = true
  file : ∃ (ccl : Value) (cdd : Option Addr) (vs : Array Value) (ccs : Array (Option Value)) (fl : Str) (tf : Tok), M.K.lookup cda = some ⟨ccl, cdd, .fields vs, ccs⟩ ∧ vs[2]? = some (.str fl tf) ∧ ((M.P.main.file : Str) == fl) = true
  cell : ∃ (cl : Value) (cld : Option Addr) (csl : Array (Option Value)), M.K.lookup cc = some ⟨cl, cld, .cell (some (.ref C)), csl⟩
  mro : PySem.W.mroIn M.K C (.ref C) = some true
  sup : PySem.W.ks_superIn M.K C C "__init__" = some (some (.builtin "ValueError.__init__"))
  subV : PySem.W.subIn M.K (.ref C) (.type "ValueError") = some true
  stat : PySem.W.nsIn M.K cStatics "thirdparty.any" = some none
  noR : PySem.W.findIn M.K (.ref C) "reason" = some none
  xf : XfC M.K C
  exm : PySem.W.exmOne M.K (.ref C) (.ref C) = some true
  noS : M.mg "super" = none
  topS : (M.P.main.scope.names.lookup ("super" : Str)).isSome = false
def nRI : List Str := ["self", "reason", "__class__"]
theorem sc_ri : NdefX.NScope nRI ["self", "reason"] ["__class__"] (defScope sRI) := NdefX.nscope_by (by decide +kernel)
/-- self.reason = reason -/
def spRi (C : Addr) : Sp := fun vs H Q _ => ∃ (a : Addr) (r : Str), vs = [.ref a, .str r] ∧ r.length ≤ 100 ∧ H a = some (exo a C none) ∧ ∀ d, H d = none → d ≠ a → Q .non (upd (upd H d (exd d [("reason", .str r)])) a (exo a C (some d)))
abbrev nfRI (cc cda : Addr) : NdefX.NF := ⟨"__init__", "Refused.__init__", defArgs sRI, defBody sRI, defScope sRI, [("__class__", cc)], cda⟩
section
variable {prog : Program} {w : World} {A : Around} {E : Value → Shared → Prop}
/-- ValueError.__init__ bound to the exception, called -/
theorem call_mw {hp : Heap} {g : Array GenState} {d : Drawn} {tk : Nat} {os : OsState} {nm q : Str} {C N : Addr} {bs bm : List Value} {sn : List Str} {sub : List Value} {ab : Bool} {col : Option Bool} {dd : Option Addr} {k0 k1 k2 k3 k5 : Option Value} {u e t0 : Addr} {rest : List Value} {Q : Value → Shared → Prop}
    (hC : hp.get? C = some (excClassObj nm q C N bs bm true sn sub ab col dd k0 k1 k2 k3 k5 "ValueError.__new__")) (he : hp.get? e = some (PySem.HandSPX.excO C t0)) (hu : hp.get? u = some (PySem.W.kxs_mw "ValueError.__init__" e)) (hrest : rest.length ≤ sizeLine)
    (hq : ∀ h' t1, (∀ b o, b ≠ e → hp.get? b = some o → h'.get? b = some o) → h'.get? e = some (PySem.HandSPX.excO C t1) → Q .none ⟨h', g, d, tk, os⟩) :
    wpAny (model prog w) A (call (.ref u) rest) Q E ⟨hp, g, d, tk, os⟩ := by
  refine wpAny_call (codeAny_of_tree ?_)
  show wpAny _ A.in1 (callAny (.ref u) ⟨rest, []⟩) _ _ _
  simp only [callAny]
  refine wpAny_bind (wpAny_load hu ?_)
  simp only [PySem.W.kxs_mw, show (Value.type "method-wrapper" == Value.type "method" || Value.type "method-wrapper" == Value.type "builtin_function_or_method" || Value.type "method-wrapper" == Value.type "method-wrapper") = true by decide, if_true]
  refine PySem.W.KFB.if_so (by decide) ?_
  refine wpAny_bind (PySem.ESX.check_bound PySem.F.excBase_ValueError hC he rfl ?_)
  refine wpAny_bind (wpAny_pure (wpAny_pure ?_))
  refine ⟨Code.quiet_builtin _ (by decide +kernel), codeAny_builtin PySem.F.excBase_ValueError.initEntry ?_⟩
  rw [Around.under_plainId PySem.F.excBase_ValueError.init.plain _]
  wp_walk
  refine hq _ hp.objs.size (fun b o hb ho => ?_) ?_
  · rw [Heap.get?_update_other _ _ (Ne.symm hb)]
    exact Heap.get?_push_of_some _ ho
  · rw [Heap.get?_update_self _ (Heap.get?_push_of_some _ he) rfl]
    rfl
end
theorem us_of {a : Addr} {rs : Str} {us : List Value} (r : Vals [V.ref a, .str rs] us) : ∃ t, us = [.ref a, .str rs t] := by
  cases r with
  | cons h1 r1 =>
    cases r1 with
    | cons h2 r2 =>
      cases r2
      cases h1
      obtain ⟨t, rfl⟩ := h2
      exact ⟨t, rfl⟩
variable {M : Md}
theorem ok_refused {C fI cc cda : Addr} (R : RfC M C fI cc cda) : ∃ fd : FuncData, Binds M.K fd ["self", "reason"] [] ∧ ∀ k, FnOk M.P M.w M.K M.mg M.base CX0 (k + 1) fI fd ["self", "reason"] (spRi C) := by
  obtain ⟨oc, od, doc, pm, an, ct, osl, lk⟩ := R.fd
  refine ⟨PySem.W.ksFn "__init__" "Refused.__init__" (defArgs sRI) (defBody sRI) (defScope sRI) .none .none doc pm an (.ref cda) ct cc, .all (fun us hl => match us, hl with | [_, _], _ => rfl), fun k => ⟨fun vs H Q E h => ?_, fun A outer s H args us vs Q E hr e0 hb r hsp => ?_⟩⟩
  · obtain ⟨a, rs, rfl, _⟩ := h; rfl
  obtain ⟨a, rs, rfl, hrl, ha, hQ⟩ := hsp
  obtain ⟨tr, rfl⟩ := us_of r
  have KX : M.K.In s.heap := e0.mod.kin.keeps fun b o e => (e0.bs b o e).1
  have lim : s.heap.NoLimit := e0.mod.nolimit.keeps fun b o e => (e0.bs b o e).1
  obtain ⟨cl, cld, csl, lcc⟩ := R.cell
  obtain ⟨ccl, cdd, fvs, ccs, fl, tf, lcd, hv2, hfl⟩ := R.file
  have hcc : H cc = none := (e0.bs cc _ (e0.mod.kin _ _ lcc)).2
  have lone : ∀ {y : Str} {c : Addr}, ([("__class__", cc)] : List (Str × Addr)).lookup y = some c → y = "__class__" ∧ c = cc := fun {y c} h => by
    by_cases e : y = "__class__"
    · subst e
      simp [List.lookup] at h
      exact ⟨rfl, h.symm⟩
    · have : (y == ("__class__" : Str)) = false := by simpa using e
      simp [List.lookup, this] at h
  have C0 : NdefX.CellsAt [("__class__", cc)] ["__class__"] [none] s.heap H := by
    refine ⟨rfl, fun y c h => ?_, fun x y c h1 h2 => ?_, fun i y h => ?_⟩
    · obtain ⟨-, rfl⟩ := lone h
      exact ⟨hcc, _, _, KX _ _ lcc, rfl⟩
    · rw [(lone h1).1, (lone h2).1]
    · cases i with
      | zero =>
        cases (Option.some.inj h)
        exact ⟨cc, by simp [List.lookup], fun v hv => by cases hv⟩
      | succ i => simp at h
  refine PySem.ks_codeAny_call_defAt (binds := (["self", "reason"] : List Str).zip [.ref a, .str rs tr]) hr.depth (KX _ _ lk) rfl lim (PySem.W.codeRec_of KX R.code) rfl hb sc_ri.nocell (fun ⟨n, _⟩ hy => sc_ri.par n (List.of_mem_zip hy).1) (fun h₁ hns kp => ?_) rfl rfl rfl
  have I : Inv (NdefX.ncx CX0 M.P M.w M.K M.mg M.base nRI (nfRI cc cda) fI A outer s H E) [] (NdefX.startF nRI [.ref a, .str rs] [none]) H { s with heap := h₁, toks := s.toks + ((["self", "reason"] : List Str).zip [Value.ref a, .str rs tr]).length } := NdefX.inv_startN sc_ri hr.hd e0 rfl r C0 hns kp
  have k1 : M.K.In h₁ := KX.keeps kp
  obtain ⟨nm, q, N, bs, bm, sn, sub, ab, col, dd, c0, c1, c2, c3, c5, hC, hbm⟩ := R.ox.cls
  obtain ⟨t1, ho⟩ := exo_at I.hok ha
  have hcl : PySem.W.clsIn M.K C = some { name := nm, bases := bs, mro := .ref C :: bm, ns := N, qualname := q, hasDict := true, slotNames := sn, subclasses := sub, abstract := ab, collection := col, hasDel := false } := by unfold PySem.W.clsIn; rw [hC] <;> rfl
  have haC : a ≠ C := fun e => by
    have h1 := k1 _ _ hC
    rw [← e, ho] at h1
    have h2 := Option.some.inj h1
    cases h2
  have hsu := R.sup
  unfold PySem.W.ks_superIn at hsu
  rw [hcl, Option.bind_some] at hsu
  obtain ⟨mb, hb1, hb2⟩ := I.mod.blt
  refine PySem.ks_wpAt_execs_cons (PySem.ks_wpAt_Expr_any (PySem.ks_wpAt_MethodCall ?_))
  refine PySem.ks_wpAt_super_base rfl rfl rfl rfl (k1 _ _ lk) rfl rfl rfl (k1 _ _ lcd) rfl hv2 hfl R.topS ?_
  refine PySem.W.ks_loadName_global rfl rfl (Calls.loadGlobal_builtin (I.mod.glob.keeps I.bk) R.noS (hb1.keeps I.bk) ((hb2 "super" (by decide)).trans (show bootBuiltins "super" = some (.type "super") by rfl)) ⟨rfl, ?_⟩)
  refine wpAny_loadName_free rfl rfl rfl ⟨_, k1 _ _ lcc, rfl⟩ ?_
  refine wpAny_loadName_local rfl rfl hns (v := .ref a) rfl ?_
  refine PySem.ks_wpAny_isType_cls (k1 _ _ hC) rfl ⟨rfl, ?_⟩
  refine PySem.ks_wpAny_call_super (k1 _ _ hC) rfl ho rfl (fun c e => by cases e) (PySem.W.looks_mroIn k1 R.mro) (fun h2 hso k2 => ?_)
  have kk2 : M.K.In h2 := k1.keeps k2
  have hI : PySem.W.Looks (model M.P M.w) h2 (isInstance (.ref a) (.type "ValueError")) true := (PySem.W.InstAt.type (od := none) ⟨k2 _ _ ho, rfl, rfl, trivial⟩).andThen (PySem.W.looks_subIn kk2 R.subV)
  refine PySem.W.kxs_getMethod PySem.W.kxs_ValueError hso (PySem.W.looks_opaque kk2 R.stat) (l₀ := .ref C :: bm) (fun A Q E s kp' q' => wpAny_bind ((PySem.W.looks_clsIn kk2 hcl) A _ E s kp' (wpAny_pure q'))) rfl kk2 hsu hI haC rfl ?_
  have lt2 := Heap.lt_size hso
  have I3 := ClX.pin_new (o := PySem.W.kxs_mw "ValueError.__init__" a) (h' := h2.push (PySem.W.kxs_mw "ValueError.__init__" a)) (a := h2.objs.size) (t' := s.toks + ((["self", "reason"] : List Str).zip [Value.ref a, .str rs tr]).length + 1) I (fun b u e => Heap.get?_push_of_some _ (k2 b u e)) (Nat.le_of_lt lt2) (Heap.get?_push_at rfl rfl) (fun v e => by cases e)
  refine PySem.W.kxs_callWith (i := "ValueError.__init__") (x := a) rfl (Calls.evalArgs_plain ?_)
  refine thn ((pa_cons (pe_op op_add_str pe_str (pv 1)) pa_nil).run _ _ _ _ H (fun vs H1 => H1 = H ∧ vs.length = 1) I3 ?_) (fun us s1 hs => ?_)
  · exact ⟨_, rfl, _, _, rfl, rfl, Nat.le_trans (show (9 : Nat) + rs.length ≤ 200 by omega) (by decide), rfl, rfl⟩
  obtain ⟨vs1, H1, I4, rv, rfl, hvl⟩ := hs
  obtain ⟨hp1, g1, d1, tk1, os1⟩ := s1
  have hu := ClX.pin_at I4
  obtain ⟨t2, ho2⟩ := exo_at I4.hok ha
  refine ⟨hu, call_mw (I4.kIn _ _ hC) ho2 hu (by rw [List.nil_append, ← rv.length, hvl]; decide) (fun h3 t3 k3 he3 => ?_)⟩
  have I5 := (ClX.unpin I4).write (t' := tk1) (x := a) (e := a) (o := exo a C none) (by rw [ha]; exact True.intro) (.inl rfl) k3 ⟨_, he3⟩ (exo_ok he3)
  rw [upd_self ha] at I5
  refine PyProof.Rows.wpAt_of_any ?_
  refine wpAny_mono ((pss_one (ps_ost (X := NdefX.ncx CX0 M.P M.w M.K M.mg M.base nRI (nfRI cc cda) fI A outer s H1 E) (pv 0) (pv 1))).run [] _ _ H1 { nx := fun _ H' => Q .non H', rt := Q } I5 ?_) (fun fl s' hs => ?_) fun e s' hs => hs
  · exact ⟨_, rfl, _, rfl, a, C, rfl, R.ox, R.noR, .inl ⟨ha, fun dx n ne => hQ dx n ne⟩⟩
  cases fl with
  | ret u =>
    obtain ⟨v, σ', H', J, rv', q'⟩ := hs
    exact ⟨v, H', J.os, J.bare, J.base, J.hok, rv', q'⟩
  | next =>
    obtain ⟨σ', H', J, q'⟩ := hs
    exact ⟨.non, H', J.os, J.bare, J.base, J.hok, rfl, q'⟩
  | brk =>
    obtain ⟨_, _, _, q'⟩ := hs
    exact False.elim q'
  | cont =>
    obtain ⟨_, _, _, q'⟩ := hs
    exact False.elim q'
end FB

set_option Elab.async false
set_option linter.all false
set_option maxRecDepth 100000
set_option maxHeartbeats 1000000
/-! FBe2: check_degree, put, _law_reason where they refuse. -/
namespace FB
open PySem PySem.Spec PyProof.Rows L2
variable {M : Md}
/-- the reason, in the exception's dict -/
abbrev rzD (r : Str) : HO := .xd [("reason", .str r)]
def spCd (C : Addr) : Sp := fun vs H _ E => ∃ n : Int, vs = [.int n] ∧ 8 < n ∧ ∀ d, H d = none → E (.ref C) (some d) (upd H d (rzD "degree"))
/-- making Refused(r): what follows -/
theorem mk_rf {C : Addr} {H : Hp} {Q : XK} {r : Str} (hl : r.length ≤ 100) (q : ∀ d, H d = none → Q (.ref C) (some d) (upd H d (rzD r))) : ∀ a, H a = none → spRi C [.ref a, .str r] (upd H a (exo a C none))
    (fun v H2 => v = .non ∧ ∃ (d : Addr) (fs : List (Str × V)), H2 a = some (exo a C (some d)) ∧ H2 d = some (exd d fs) ∧ H d = none ∧ Q (.ref C) (some d) (upd (del H2 a) d (.xd fs))) (fun _ _ _ => False) := by
  intro a ha
  refine ⟨a, r, rfl, hl, upd_same, fun d hd hne => ⟨rfl, d, [("reason", .str r)], upd_same, ?_, ?_, ?_⟩⟩
  · rw [upd_ne hne, upd_same]
  · rw [upd_ne hne] at hd; exact hd
  · rw [upd_ne hne] at hd
    have e : upd (del (upd (upd (upd H a (exo a C none)) d (exd d [("reason", V.str r)])) a (exo a C (some d))) a) d (.xd [("reason", V.str r)]) = upd H d (rzD r) := by
      funext b
      by_cases h1 : b = d
      · subst h1; rw [upd_same, upd_same]
      · rw [upd_ne h1, upd_ne h1]
        by_cases h2 : b = a
        · subst h2; rw [del_same, ha]
        · rw [del_ne h2, upd_ne h2, upd_ne h1, upd_ne h2]
    rw [e]
    exact q d hd
theorem sc_cd : FnScope ["degree"] ["degree"] (defScope (top 64)) := ⟨rfl, rfl, rfl, by decide +kernel, rfl, by decide +kernel, by decide +kernel⟩
theorem ok_cdeg {C fI cc cda : Addr} (R : RfC M C fI cc cda) {f : Addr} {fd : FuncData} (F : FnT M.K "check_degree" (top 64) f fd) : FnOk M.P M.w M.K M.mg M.base (L2.CX M.P M.w) 3 f fd ["degree"] (spCd C) := by
  obtain ⟨fdI, bI, FI⟩ := ok_refused R
  refine F.ok sc_cd (fun vs H Q E h => ?_) (fun cdv A outer s H vs Q E hr h => ⟨_,
    pss_one (ps_if (pt_cmpR op_gt (pv 0) pe_int (nomark _)) (pss_one (ps_raise rfl (takes_of rfl rfl rfl rfl) (pmk_oex R.ox R.ini R.tyI (FI 0) hr bI .nil pass0 rfl R.mgC (pa_cons pe_str pa_nil)))) pss_nil), ?_⟩)
  · obtain ⟨n, rfl, _⟩ := h; rfl
  obtain ⟨n, rfl, hn, k⟩ := h
  refine ⟨_, rfl, _, _, rfl, rfl, _, rfl, ?_⟩
  rw [decide_eq_true hn]
  refine iteT ?_
  exact ⟨by decide, mk_rf (by decide) k⟩
/-! put -/
def spPz (M : Md) (C : Addr) (r : Str) (f g : D) : Sp := fun vs H _ E => ∃ F, vs.length = 2 ∧ Same F H ∧ EncLM M F vs [f, g] ∧ ∀ F' H' d, Ext F H F' H' → H' d = none → E (.ref C) (some d) (upd H' d (rzD r))
theorem xok_bodyX {N : List Str} {qual : Str} {scope : Scope} {f : Addr} {cd : Value} {A : Around} {outer : List Env} {s : Shared} {H : Hp} {E : XK} (hr : Room M.k (A.deeper (envOfC qual scope s.heap.objs.size f cd))) :
    XOk M N scope scope (cxOf (L2.CX M.P M.w) M.P M.w M.K M.mg M.base N qual scope f cd A outer s H E) := by
  exact ⟨rfl, rfl, rfl, rfl, rfl, rfl, rfl, rfl, hr, fun x h => rfl⟩
theorem sc_putX : FnScope n_put ["f", "g"] (defScope (top 67)) := ⟨rfl, rfl, rfl, d_put, rfl, by decide +kernel, by decide +kernel⟩
/-- put's tail is never reached -/
def putE1 : IE := (.cons (.bi .mul (.cons (.bi .max2 (.cons (.call .s_degree (.cons (.var 0) .nil)) (.cons (.cst (.int 0)) .nil))) (.cons (.bi .max2 (.cons (.call .s_degree (.cons (.var 1) .nil)) (.cons (.cst (.int 0)) .nil))) .nil))) .nil)
theorem ok_put_deg {L : Nat} (W : Facts M (Φ L)) (hk : 3 ≤ M.k) {C fI cc cda : Addr} (R : RfC M C fI cc cda) {f fC : Addr} {fd fdC : FuncData} (F : FnT M.K "put" (top 67) f fd) (FC : FnT M.K "check_degree" (top 64) fC fdC) (gC : M.mg "check_degree" = some (.ref fC)) {fD gD' : D} {d1 d2 : Int} (h1 : Φ L .s_degree [fD] = some (.int d1)) (h2 : Φ L .s_degree [gD'] = some (.int d2)) (p1 : 0 ≤ d1 ∧ d1 ≤ 24) (p2 : 0 ≤ d2 ∧ d2 ≤ 24) (hb : 8 < d1 * d2) :
    FnOk M.P M.w M.K M.mg M.base (L2.CX M.P M.w) (M.k + 1) f fd ["f", "g"] (spPz M C "degree" fD gD') := by
  have FCk := (ok_cdeg R FC).mono hk
  have bC : Binds M.K fdC ["degree"] [] := FC.bindsN (fun _ _ _ _ _ _ us hl => match us, hl with | [_], _ => rfl)
  have nd := d_put
  refine F.ok sc_putX (fun vs H Q E h => ?_) (fun cdv A outer s H vs Q E hr h => ⟨_,
    pss_cons (ps_expr (pe_callS FCk hr rfl gC FC.kp bC (fun σ => passAt (takes_of rfl rfl rfl rfl) σ)
      ((sa_cons (sn_bin (fun X hX => od_mul hX) (sn_callB (fun X hX => cd_max2 hX) rfl W.max rfl (sa_cons (sn_meth0 W.t_s_degree W.c1 (sn_var)) (sa_cons sn_int sa_nil))) (sn_callB (fun X hX => cd_max2 hX) rfl W.max rfl (sa_cons (sn_meth0 W.t_s_degree W.c1 (sn_var)) (sa_cons sn_int sa_nil)))) sa_nil : SndA M (Φ L) n_put (defScope (top 67)) (defScope (top 67)) _ putE1) _ (xok_bodyX hr))))
    pss_never, ?_⟩)
  · obtain ⟨F0, hl, _⟩ := h; exact hl
  obtain ⟨F0, hl, sm, ev, k⟩ := h
  cases ev with
  | @cons v _ vs _ ev1 ev2 =>
    cases ev2 with
    | @cons u _ ws _ ev3 ev4 =>
      cases ev4
      have m1 : ∀ {i : Nat} {d : Int} {x : D} {env : En}, evalE (Φ L) (.var i) env = some x → Φ L .s_degree [x] = some (.int d) → 0 ≤ d → evalE (Φ L) (.bi .max2 (.cons (.call .s_degree (.cons (.var i) .nil)) (.cons (.cst (.int 0)) .nil))) env = some (.int d) := fun {i d x env} e q p => by
        refine (bi2_val ((call1_val e).trans q) rfl).trans ?_
        show some (D.int (if (0 : Int) > d then 0 else d)) = _
        rw [if_neg (by omega)]
      have ee : evalE (Φ L) putE1 [.val fD, .val gD', .non, .non, .non, .non, .non, .non, .non, .non, .non, .non] = some (.tup [.int (d1 * d2)]) := by
        have q := (bi2_val (b := .mul) (m1 (i := 0) (env := [.val fD, .val gD', .non, .non, .non, .non, .non, .non, .non, .non, .non, .non]) rfl h1 p1.1) (m1 (i := 1) rfl h2 p2.1)).trans (mul_sm (by omega) (by omega))
        unfold putE1
        rw [evalE, q]
        rfl
      refine ⟨F0, H, F0, _, [.int (d1 * d2)], ee, start_ok sm (.cons ev1 (.cons ev3 .nil)) 10, fun vs F' H' x el => ?_⟩
      cases el with
      | cons r t =>
        cases r
        cases t
        exact ⟨_, rfl, hb, fun d hd => k F' H' d x hd⟩
theorem ok_put_con {L : Nat} (W : Facts M (Φ L)) (hk : 3 ≤ M.k) {C fI cc cda : Addr} (R : RfC M C fI cc cda) {f : Addr} {fd : FuncData} (F : FnT M.K "put" (top 67) f fd) {fD gD' iD qD : D} {d1 d2 : Int} (h1 : Φ L .s_degree [fD] = some (.int d1)) (h2 : Φ L .s_degree [gD'] = some (.int d2)) (p1 : 0 ≤ d1 ∧ d1 ≤ 24) (p2 : 0 ≤ d2 ∧ d2 ≤ 24) (hc : Φ L .check_degree [.int (d1 * d2)] = some .non)
    (hi : Φ L .in_base [gD', .str "p"] = some iD) (hm : Φ L .s_multiple [iD, .tup []] = some qD) (hz : Φ L .r_is_zero [qD] = some (.bl false)) :
    FnOk M.P M.w M.K M.mg M.base (L2.CX M.P M.w) (M.k + 1) f fd ["f", "g"] (spPz M C "constant" fD gD') := by
  obtain ⟨fdI, bI, FI⟩ := ok_refused R
  have nd := d_put
  obtain ⟨k0, hk0⟩ : ∃ k0, M.k = k0 + 1 + 1 := ⟨M.k - 2, by omega⟩
  refine F.ok sc_putX (fun vs H Q E h => ?_) (fun cdv A outer s H vs Q E hr h => ⟨_,
    pss_cons ((ss_exp (sn_call W.f_check_degree (sa_cons (sn_bin (fun X hX => od_mul hX) (sn_callB (fun X hX => cd_max2 hX) rfl W.max rfl (sa_cons (sn_meth0 W.t_s_degree W.c1 (sn_var)) (sa_cons sn_int sa_nil))) (sn_callB (fun X hX => cd_max2 hX) rfl W.max rfl (sa_cons (sn_meth0 W.t_s_degree W.c1 (sn_var)) (sa_cons sn_int sa_nil)))) sa_nil) (.cons .nil)) : SndS M (Φ L) n_put (defScope (top 67)) (defScope (top 67)) _ (.exp (.call .check_degree putE1))) _ (xok_bodyX hr) (passes_of rfl))
    (pss_cons ((ss_asg nd (sn_call W.f_in_base (sa_cons (sn_var) (sa_cons sn_str sa_nil)) (.cons (.cons .nil))) : SndS M (Φ L) n_put (defScope (top 67)) (defScope (top 67)) _ (.asg 2 (.call .in_base (.cons (.var 1) (.cons (.cst (.str "p")) .nil))))) _ (xok_bodyX hr) (passes_of rfl))
    (pss_cons (ps_if ((st_not (st_val (sn_meth0 W.t_r_is_zero W.c0 (sn_meth W.t_s_multiple W.c1 (sn_var) (sa_cons (sn_tup sa_nil) sa_nil)))) : SndT M (Φ L) n_put (defScope (top 67)) (defScope (top 67)) _ (.not (.call .r_is_zero (.cons (.call .s_multiple (.cons (.var 2) (.cons (.bi .tupD .nil) .nil))) .nil)))) _ (xok_bodyX hr))
      (pss_one (ps_raise rfl (takes_of rfl rfl rfl rfl) (pmk_oex R.ox R.ini R.tyI (FI k0) (by rw [← hk0]; exact hr) bI .nil pass0 rfl R.mgC (pa_cons pe_str pa_nil)))) pss_nil)
    pss_never)), ?_⟩)
  · obtain ⟨F0, hl, _⟩ := h; exact hl
  obtain ⟨F0, hl, sm, ev, k⟩ := h
  cases ev with
  | @cons v _ vs _ ev1 ev2 =>
    cases ev2 with
    | @cons u _ ws _ ev3 ev4 =>
      cases ev4
      have m1 : ∀ {i : Nat} {d : Int} {x : D} {env : En}, evalE (Φ L) (.var i) env = some x → Φ L .s_degree [x] = some (.int d) → 0 ≤ d → evalE (Φ L) (.bi .max2 (.cons (.call .s_degree (.cons (.var i) .nil)) (.cons (.cst (.int 0)) .nil))) env = some (.int d) := fun {i d x env} e q p => by
        refine (bi2_val ((call1_val e).trans q) rfl).trans ?_
        show some (D.int (if (0 : Int) > d then 0 else d)) = _
        rw [if_neg (by omega)]
      have ee : evalE (Φ L) putE1 [.val fD, .val gD', .non, .non, .non, .non, .non, .non, .non, .non, .non, .non] = some (.tup [.int (d1 * d2)]) := by
        have q := (bi2_val (b := .mul) (m1 (i := 0) (env := [.val fD, .val gD', .non, .non, .non, .non, .non, .non, .non, .non, .non, .non]) rfl h1 p1.1) (m1 (i := 1) rfl h2 p2.1)).trans (mul_sm (by omega) (by omega))
        unfold putE1
        rw [evalE, q]
        rfl
      have e1 : evalS (Φ L) (.exp (.call .check_degree putE1)) [.val fD, .val gD', .non, .non, .non, .non, .non, .non, .non, .non, .non, .non] = some (.nx [.val fD, .val gD', .non, .non, .non, .non, .non, .non, .non, .non, .non, .non]) := by
        refine exp_val (d := .non) ?_
        rw [evalE, ee]
        exact hc
      refine ⟨F0, H, F0, _, _, e1, start_ok sm (.cons ev1 (.cons ev3 .nil)) 10, fun σ1 F1 H1 so1 => ?_⟩
      refine ⟨F0, H, F1, _, .nx [.val fD, .val gD', .val iD, .non, .non, .non, .non, .non, .non, .non, .non, .non], asg_val ((call2_val (d := gD') (c := .str "p") rfl rfl).trans hi), so1, fun σ2 F2 H2 so2 => ?_⟩
      have e3 : evalE (Φ L) (.not (.call .r_is_zero (.cons (.call .s_multiple (.cons (.var 2) (.cons (.bi .tupD .nil) .nil))) .nil))) [.val fD, .val gD', .val iD, .non, .non, .non, .non, .non, .non, .non, .non, .non] = some (.bl true) := by
        have q : evalE (Φ L) (.call .r_is_zero (.cons (.call .s_multiple (.cons (.var 2) (.cons (.bi .tupD .nil) .nil))) .nil)) [.val fD, .val gD', .val iD, .non, .non, .non, .non, .non, .non, .non, .non, .non] = some (.bl false) :=
          (call1_val ((call2_val (d := iD) (c := .tup []) rfl rfl).trans hm)).trans hz
        rw [evalE, q]
        rfl
      refine ⟨F0, H, F2, _, true, e3, so2, fun F3 H3 x => ?_⟩
      refine iteT ?_
      exact ⟨by decide, mk_rf (by decide) fun d hd => k F3 H3 d (so2.x.trans x) hd⟩
/-! _law_reason -/
def spRs (M : Md) (r : Str) (f g : D) : Sp := fun vs H Q _ => ∃ F, vs.length = 2 ∧ Same F H ∧ EncLM M F vs [f, g] ∧ ∀ F' H', Ext F H F' H' → Q (.str r) H'
def nRs : List Str := ["_law_f", "_law_g", "e"]
theorem sc_rs : FnScope nRs ["_law_f", "_law_g"] (defScope (top 82)) := ⟨rfl, rfl, rfl, by decide +kernel, rfl, by decide +kernel, by decide +kernel⟩
theorem ok_reason {C fI cc cda : Addr} (R : RfC M C fI cc cda) {f fP : Addr} {fd fdP : FuncData} {k : Nat} (F : FnT M.K "_law_reason" (top 82) f fd) (FP : FnT M.K "put" (top 67) fP fdP) (gP : M.mg "put" = some (.ref fP)) {r : Str} {fD gD' : D} (OP : FnOk M.P M.w M.K M.mg M.base (L2.CX M.P M.w) k fP fdP ["f", "g"] (spPz M C r fD gD')) :
    FnOk M.P M.w M.K M.mg M.base CX0 (k + 1) f fd ["_law_f", "_law_g"] (spRs M r fD gD') := by
  have bP : Binds M.K fdP ["f", "g"] [] := FP.bindsN (fun _ _ _ _ _ _ us hl => match us, hl with | [_, _], _ => rfl)
  have nd := sc_rs.nd
  refine F.ok sc_rs (fun vs H Q E h => ?_) (fun cdv A outer s H vs Q E hr h => ⟨_,
    pss_one (ps_try_as (i := 2) rfl rfl nd rfl rfl ⟨rfl, by decide, .inl R.mgC⟩ takes0
      (fun W pn xe tk _ => pss_cons (ps_expr (pe_callS OP hr rfl gP FP.kp bP (fun σ => passAt tk σ) (pa_cons (pv 0) (pa_cons (pv 1) pa_nil)))) pss_never)
      (fun a oe cls d pn hz hf => pss_one (ps_ret (pe_xf R.xf R.noR hz hf (pv 2))))), ?_⟩)
  · obtain ⟨F0, hl, _⟩ := h; exact hl
  obtain ⟨F0, hl, sm, ev, k⟩ := h
  cases ev with
  | @cons v _ vs _ ev1 ev2 =>
    cases ev2 with
    | @cons u _ ws _ ev3 ev4 =>
      cases ev4
      refine ⟨_, rfl, _, rfl, F0, rfl, sm, .cons ev1 (.cons ev3 .nil), fun F' H' d x hd => ?_⟩
      refine ⟨true, R.exm, fun _ a ha => ?_, fun z => nomatch z⟩
      refine ⟨_, rfl, rfl, rfl, d, _, _, rfl, upd_same, rfl, ?_⟩
      exact k F' _ (x.trans (Ext.own x.s hd))
end FB

set_option Elab.async false
set_option linter.all false
set_option maxRecDepth 100000
set_option maxHeartbeats 1000000
/-! FBn5: a != b on Ratio, through __eq__. -/
namespace FB
open PySem PySem.Spec PyProof.Rows L2
theorem ns_some_of {K : PySem.W.Frag} {h : Heap} {N : Addr} {mg : Str → Option Value} {n : Str} {v : Value} (X : K.In h) (G : h.Ns N mg) (e : PySem.W.nsIn K N n = some (some v)) : mg n = some v := by
  obtain ⟨o, es, ep, ho, hd, _, hf⟩ := G
  unfold PySem.W.nsIn at e
  split at e
  · rename_i c d es' n' sl q
    have := X _ _ q
    rw [ho] at this
    cases this
    cases hd
    split at e
    · rename_i en he
      cases e
      rw [← hf]
      unfold nsFind findBy
      rw [← Array.find?_toList, he]
      rfl
    · split at e <;> cases e
  · cases e
/-- what the text's beginning says of Ratio's != -/
structure NeC (M : Md) (f : Addr) : Prop where
  cls : ∃ (nm q : Str) (N : Addr) (bs : List Value) (hdct : Bool) (sn : List Str) (sub : List Value) (ab : Bool) (col : Option Bool) (dd : Option Addr) (k0 k1 k2 k3 k5 : Option Value) (newId : String),
    M.K.lookup (M.CA 0) = some (excClassObj nm q (M.CA 0) N bs [.type "object"] hdct sn sub ab col dd k0 k1 k2 k3 k5 newId) ∧ PySem.W.nsOkIn M.K N = true ∧ PySem.W.nsIn M.K N "__eq__" = some (some (.ref f)) ∧ PySem.W.nsIn M.K N "__ne__" = some none
  ty : PySem.W.typeIn M.K (.ref f) = some (.type "function")
variable {M : Md} {N : List Str} {sc sc0 : Scope} {X : Cx}
def rNe (M : Md) (g : List D → Option D) : R2 := fun x y H Q => ∃ F fs gs b, Same F H ∧ EncM M F x (.ins 0 fs) ∧ EncM M F y (.ins 0 gs) ∧ g [.ins 0 fs, .ins 0 gs] = some (.bl b) ∧ ∀ F' H', Ext F H F' H' → Q (.bl (!b)) H'
theorem op_neR (hX : XOk M N sc sc0 X) {f : Addr} {fd : FuncData} {ps : List Str} {n : Nat} {g : List D → Option D} (C : NeC M f) (hb : Binds M.K fd ps []) (FE : FnOk M.P M.w M.K M.mg M.base CX0 n f fd ps (spD M 2 g)) (hn : M.k = n + 1) : OpR X (compareOp .NotEq) (rNe M g) := by
  intro pins s σ H x y v u Q I rx ry h
  obtain ⟨F, fs, gs, b, sm, ex, ey, e, k⟩ := h
  have FE' : FnOk X.prog X.w X.K X.mg X.base CX0 n f fd ps (spD M 2 g) := by rw [hX.prog, hX.w, hX.K, hX.mg, hX.base]; exact FE
  have el : EncLM M F [x, y] [.ins 0 fs, .ins 0 gs] := .cons ex (.cons ey .nil)
  have hsp : spD M 2 g [x, y] H (fun v H' => v = .bl b ∧ Q (.bl (!b)) H') E0 := ⟨F, _, _, rfl, sm, el, e, fun v F' H' x' ev => by
    cases ev
    exact ⟨rfl, k F' H' x'⟩⟩
  have hr : Room (n + 1) X.A := by rw [← hn]; exact hX.room
  cases ex with
  | @ins ax dx1 _ vs1 _ i1 i2 i3 =>
    cases ey with
    | @ins ay dx2 _ vs2 _ j1 j2 j3 =>
      have rx' := rx
      have ry' := ry
      cases rx
      cases ry
      obtain ⟨mA, J, _⟩ := ins_get I.hok (sm _ _ i1)
      obtain ⟨mB, J', _⟩ := ins_get I.hok (sm _ _ j1)
      obtain ⟨od, J, _⟩ := J.look
      obtain ⟨od', J', _⟩ := J'.look
      obtain ⟨nm, q, Nn, bs, hdct, sn, sub, ab, col, dd, k0, k1, k2, k3, k5, newId, hC, hok, heq, hne⟩ := C.cls
      have KX : M.K.In s.heap := by have := I.kIn; rwa [hX.K] at this
      have G : s.heap.Ns Nn (s.heap.nsMap Nn) := .of_isNs (PySem.W.isNs_of_in KX hok)
      obtain ⟨off, hof, hofc⟩ : ∃ o, s.heap.get? f = some o ∧ o.cls = .type "function" := by
        have t := C.ty
        have t' : (M.K.lookup f).map (·.cls) = some (.type "function") := t
        cases z : M.K.lookup f with
        | none => rw [z] at t'; cases t'
        | some o => rw [z] at t'; exact ⟨o, KX _ _ z, Option.some.inj t'⟩
      obtain ⟨hp, gg, dr, tk, os⟩ := s
      refine compareOp_ne_ownEq PySem.F.cmp_object (B := "object") (bm := [.type "object"]) ⟨_, off, nm, q, Nn, bs, hdct, sn, sub, ab, col, dd, k0, k1, k2, k3, k5, newId, hp.nsMap Nn, _, J.at_, J.cls, KX _ _ hC, G, ns_some_of KX G heq, hof, hofc, PySem.F.cmp_object.mro, PySem.F.cmp_object.eq.lookup, PySem.W.ns_none_of KX G hne⟩ J'.at_ J'.cls (hu_of hr) ?_
      have e0 := I.env0.in1
      have bb := hb ⟨hp, gg, dr, tk, os⟩ [.ref ax, .ref ay] KX (by rw [List.append_nil]; exact FE.len _ _ _ _ hsp)
      rw [List.append_nil] at bb
      refine wpAny_call (codeAny_mono (FE'.run X.A.in1 X.stack _ H ⟨[.ref ax, .ref ay], []⟩ [.ref ax, .ref ay] [.ref ax, .ref ay] _ E0 hr.in1 e0 bb (.cons rx' (.cons ry' .nil)) hsp) fun r s' hq => ?_)
      cases r with
      | error er => exact hq.elim
      | ok fl =>
        cases fl with
        | ret w =>
          obtain ⟨z, H', I', rz, ez, hq'⟩ := I.after hq
          subst ez
          cases rz
          exact ⟨b, rfl, .bl (!b), H', I', rfl, hq'⟩
        | next => exact False.elim hq
        | brk => exact False.elim hq
        | cont => exact False.elim hq
end FB

set_option Elab.async false
set_option linter.all false
set_option maxRecDepth 100000
set_option maxHeartbeats 1000000
/-! FBn6: the law. -/
namespace FB
open PySem PySem.Spec PyProof.Rows L2
theorem r_eq_val (L : Nat) (q : Rat) : Φ (L + 1) .r_eq [rtD q, rtD q] = some (.bl true) := by
  rw [Φ_succ]
  show oper 0 (Φ L) i_r_eq n_r_eq [rtD q, rtD q] = _
  rw [op2]
  refine runS_rt ?_
  show evalS (Φ L) i_r_eq [.val (rtD q), .val (rtD q)] = some (.rt (.bl true))
  simp [i_r_eq, evalS, evalE, bival, rtD, eqD]
/-- slots that hold values -/
inductive SlL (M : Md) (F : Hp) : En → L2.St → Prop where
  | nil : SlL M F [] []
  | non {o : Option V} {env : En} {σ : L2.St} : SlL M F env σ → SlL M F (.non :: env) (o :: σ)
  | val {d : D} {v : V} {env : En} {σ : L2.St} : EncM M F v d → SlL M F env σ → SlL M F (.val d :: env) (some v :: σ)
variable {M : Md}
theorem SlL.mono {F F' : Hp} {env : En} {σ : L2.St} (m : Same F F') (h : SlL M F env σ) : SlL M F' env σ := by
  induction h with
  | nil => exact .nil
  | non _ ih => exact .non ih
  | val e _ ih => exact .val (e.mono m) ih
theorem SlL.len {F : Hp} {env : En} {σ : L2.St} (h : SlL M F env σ) : σ.length = env.length := by
  induction h with
  | nil => rfl
  | non _ ih => simp [ih]
  | val _ _ ih => simp [ih]
theorem SlL.sl {F H : Hp} {env : En} {σ : L2.St} (h : SlL M F env σ) : ∀ (i : Nat) (s : Sl) (o : Option V), env[i]? = some s → σ[i]? = some o → SlotOk M H F H s o ∧ s.own = false := by
  induction h with
  | nil => intro i s o h1; simp at h1
  | non _ ih =>
    intro i s o h1 h2
    cases i with
    | zero => cases (Option.some.inj h1); exact ⟨trivial, rfl⟩
    | succ i => exact ih i s o (by simpa using h1) (by simpa using h2)
  | val e _ ih =>
    intro i s o h1 h2
    cases i with
    | zero => cases (Option.some.inj h1); cases (Option.some.inj h2); exact ⟨⟨_, rfl, e⟩, rfl⟩
    | succ i => exact ih i s o (by simpa using h1) (by simpa using h2)
theorem SlL.sok {F H : Hp} {env : En} {σ : L2.St} (h : SlL M F env σ) (sm : Same F H) : SOk M F H F H env σ := by
  refine ⟨Ext.refl sm, h.len, fun i s o h1 h2 => (h.sl i s o h1 h2).1, fun i j s t a hn h1 h2 o1 o2 h3 h4 => ?_⟩
  have := (h.sl (H := H) i s _ h1 h3).2
  rw [o1] at this
  cases this
theorem tE_of {Φ : Fn → List D → Option D} {ie : IE} {σ : L2.St} {H : Hp} {Q : VK} {F : Hp} {env : En} {d : D} (e : evalE Φ ie env = some d) (sl : SlL M F env σ) (sm : Same F H) (k : ∀ v F' H', Ext F H F' H' → EncM M F' v d → Q v H') : tE M Φ ie σ H Q :=
  ⟨F, H, F, env, d, e, sl.sok sm, k⟩
theorem tT_of {Φ : Fn → List D → Option D} {ie : IE} {σ : L2.St} {H : Hp} {Q : Bool → Hp → Prop} {F : Hp} {env : En} {b : Bool} (e : evalE Φ ie env = some (.bl b)) (sl : SlL M F env σ) (sm : Same F H) (k : ∀ F' H', Ext F H F' H' → Q b H') : tT M Φ ie σ H Q :=
  ⟨F, H, F, env, b, e, sl.sok sm, k⟩
/-- a def that stands, with its promise -/
def DefT (M : Md) (x : Str) (ps : List Str) (sp : Sp) : Prop := ∃ (f : Addr) (fd : FuncData), M.mg x = some (.ref f) ∧ PySem.W.keepIn M.K (.ref f) = true ∧ Binds M.K fd ps [] ∧ FnOk M.P M.w M.K M.mg M.base CX0 M.k f fd ps sp
def nLaw : List Str := ["_law_script", "_law_numbers_here", "_law_pick", "_law_inside", "_law_f", "_law_g", "_law_found", "_law_xs"]
theorem sc_law : FnScope nLaw ["_law_script"] (defScope (top 83)) := ⟨rfl, rfl, rfl, by decide +kernel, rfl, by decide +kernel, by decide +kernel⟩
def spLaw (K : PySem.W.Frag) : Sp := fun vs H Q _ => ∃ (a : Addr) (ns : List Int), vs = [.ref a] ∧ ns.length ≤ 63 ∧ SqL K H a (ns.map V.int) ∧ ∀ H', Q (.bl true) H'
/-- the bases' letters -/
theorem mehps_at {y : Int} (h0 : 0 ≤ y) (h5 : y < 5) : ∃ (b : Bs) (c : Nat), atI (PySem.Str.ofString "mehps").cps.toList y = some c ∧ (⟨#[c]⟩ : Str) = b.nm := by
  have h : y = 0 ∨ y = 1 ∨ y = 2 ∨ y = 3 ∨ y = 4 := by omega
  rcases h with rfl | rfl | rfl | rfl | rfl
  · exact ⟨.m, 109, by decide +kernel, by decide +kernel⟩
  · exact ⟨.e, 101, by decide +kernel, by decide +kernel⟩
  · exact ⟨.h, 104, by decide +kernel, by decide +kernel⟩
  · exact ⟨.p, 112, by decide +kernel, by decide +kernel⟩
  · exact ⟨.s, 115, by decide +kernel, by decide +kernel⟩
def oneE (b : Str) (p : IE) : IE := .call .one (.cons (.cst (.str b)) (.cons p .nil))
def tup1 (i : Int) : IE := .bi .tupD (.cons (.cst (.int i)) .nil)
theorem one_val {Φ : Fn → List D → Option D} {env : En} {b : Str} {p : IE} {dp d : D} (hp : evalE Φ p env = some dp) (h : Φ .one [.str b, dp] = some d) : evalE Φ (oneE b p) env = some d := (call2_val (d := .str b) rfl hp).trans h
end FB

set_option Elab.async false
set_option linter.all false
set_option maxRecDepth 100000
set_option maxHeartbeats 1000000
/-! FBn7: the law's body. -/
namespace FB
open PySem PySem.Spec PyProof.Rows L2
variable {M : Md}
theorem o17 {L : Nat} (hL : 30 ≤ L) : Φ L .one [.str "e", .tup [.int 1]] = some (inD 0) ∧ Φ L .one [.str "e", .tup [.int 2]] = some (inD 1) ∧ Φ L .one [.str "h", .tup [.int 2]] = some (inD 2) ∧ Φ L .one [.str "m", .tup [.int 2]] = some (inD 3) ∧ Φ L .s_add [inD 0, inD 1] = some (inD 4) ∧
  Φ L .one [.str "s", .tup [.int 3]] = some (syD Bs.s.nm [([3], 1)]) ∧ Φ L .one [.str "p", .tup [.int 2, .int 1]] = some (syD Bs.p.nm [([2, 1], 1)]) ∧ Φ L .one [.str "h", .tup [.int 1]] = some (syD Bs.h.nm [([1], 1)]) ∧ Φ L .one [.str "e", .tup []] = some (syD Bs.e.nm [([], 1)]) ∧
  Φ L .s_add [inD 0, syD Bs.e.nm [([], 1)]] = some (syD Bs.e.nm [([], 1), ([1], 1)]) := by
  have h := ones_tb
  simp only [Bool.and_eq_true] at h
  obtain ⟨⟨⟨⟨⟨⟨⟨⟨⟨⟨⟨⟨⟨⟨⟨⟨h1, h2⟩, h3⟩, h4⟩, h5⟩, h6⟩, h7⟩, h8⟩, h9⟩, h10⟩, -⟩, -⟩, -⟩, -⟩, -⟩, -⟩, -⟩ := h
  exact ⟨tb_eq h1 hL, tb_eq h2 hL, tb_eq h3 hL, tb_eq h4 hL, tb_eq h5 hL, tb_eq h6 hL, tb_eq h7 hL, tb_eq h8 hL, tb_eq h9 hL, tb_eq h10 hL⟩
abbrev LE (M : Md) (L : Nat) := SndE M (Φ L) nLaw (defScope (top 83)) (defScope (top 83))
def addE : IE := .call .s_add (.cons (oneE "e" (tup1 1)) (.cons (oneE "e" (tup1 2)) .nil))
def addE2 : IE := .call .s_add (.cons (oneE "e" (tup1 1)) (.cons (oneE "e" (.bi .tupD .nil)) .nil))
def mostE : IE := .bi .sub (.cons (.cst (.int 3)) (.cons (.bi .intOf (.cons (.bi .gt (.cons (.var 2) (.cons (.cst (.int 0)) .nil))) .nil)) .nil))
def putE : IE := .call .put (.cons (.var 4) (.cons (.var 5) .nil))
def atE1 : IE := .call .law_at (.cons (.var 6) (.cons (.var 7) .nil))
def atE2 : IE := .call .law_at (.cons (.var 4) (.cons (.call .law_monomial_list (.cons (.var 2) (.cons (.var 7) .nil))) .nil))
def baseT : IE := .bi .ne (.cons (.fld 1 0 (.var 6)) (.cons (.fld 1 0 (.var 4)) .nil))
theorem ok_law {L : Nat} (hL : 70 ≤ L) (W : Facts M (Φ L)) (OA : OpAt M 1 .Add (Φ L .s_add)) (TX : NxT M) (TN : DefT M "_law_numbers" ["_law_script"] (spNums M.K)) (TL : DefT M "_law_letters" ["_law_numbers_here", "_law_n"] (spLet M)) (TF : DefT M "_law_function" ["_law_numbers_here", "_law_base", "_law_most"] (spFun M))
    (T1 : DefT M "_law_reason" ["_law_f", "_law_g"] (spRs M "degree" (syD Bs.s.nm [([3], 1)]) (syD Bs.p.nm [([2, 1], 1)]))) (T2 : DefT M "_law_reason" ["_law_f", "_law_g"] (spRs M "constant" (syD Bs.h.nm [([1], 1)]) (syD Bs.e.nm [([], 1), ([1], 1)])))
    {fE : Addr} {fdE : FuncData} {psE : List Str} {nE LE' : Nat} (CE : NeC M fE) (bE : Binds M.K fdE psE []) (FE : FnOk M.P M.w M.K M.mg M.base CX0 nE fE fdE psE (spD M 2 (Φ (LE' + 1) .r_eq))) (hnE : M.k = nE + 1)
    {f : Addr} {fd : FuncData} (F : FnT M.K "law" (top 83) f fd) : FnOk M.P M.w M.K M.mg M.base CX0 (M.k + 1) f fd ["_law_script"] (spLaw M.K) := by
  have nd := sc_law.nd
  obtain ⟨fX, fdX, gX, kX, bX, FX⟩ := TX.ex
  obtain ⟨fN, fdN, gN, kN, bN, FN⟩ := TN
  obtain ⟨fL, fdL, gL, kL, bL, FL⟩ := TL
  obtain ⟨fF, fdF, gF, kF, bF, FF⟩ := TF
  obtain ⟨f1, fd1, g1, k1, b1, F1⟩ := T1
  obtain ⟨f2, fd2, g2, k2, b2, F2⟩ := T2
  obtain ⟨fB, fdB, psB, gB, kB, bB, FB⟩ := fn_ex W.f_in_base
  obtain ⟨o1, o2, o3, o4, o5, o6, o7, o8, o9, o10⟩ := o17 (L := L) (by omega)
  refine F.ok sc_law (fun vs H Q E h => ?_) (fun cdv A outer s H vs Q E hr h => ⟨_, PSs.nox
    (pss_cons (ps_set (i := 1) nd rfl (Or.inl rfl) (pe_call FN hr rfl gN kN bN .nil pass0 (pa_cons (pv 0) pa_nil)))
    (pss_cons (ps_set (i := 2) nd rfl (Or.inl rfl) (pe_call FX hr rfl gX kX bX .nil pass0 (pa_cons (pv 1) (pa_cons pe_int pa_nil))))
    (pss_cons (ps_set (i := 3) nd rfl (Or.inl rfl) (pe_ix ix_list (pe_lst
        (pa_cons ((sn_call W.f_one (sa_cons sn_str (sa_cons (sn_tup (sa_cons sn_int sa_nil)) sa_nil)) (.cons (.cons .nil)) : LE M L _ (oneE "e" (tup1 1))) _ (xok_body hr nd))
        (pa_cons ((sn_call W.f_one (sa_cons sn_str (sa_cons (sn_tup (sa_cons sn_int sa_nil)) sa_nil)) (.cons (.cons .nil)) : LE M L _ (oneE "e" (tup1 2))) _ (xok_body hr nd))
        (pa_cons ((sn_call W.f_one (sa_cons sn_str (sa_cons (sn_tup (sa_cons sn_int sa_nil)) sa_nil)) (.cons (.cons .nil)) : LE M L _ (oneE "h" (tup1 2))) _ (xok_body hr nd))
        (pa_cons ((sn_call W.f_one (sa_cons sn_str (sa_cons (sn_tup (sa_cons sn_int sa_nil)) sa_nil)) (.cons (.cons .nil)) : LE M L _ (oneE "m" (tup1 2))) _ (xok_body hr nd))
        (pa_cons ((sn_own OA (sn_call W.f_one (sa_cons sn_str (sa_cons (sn_tup (sa_cons sn_int sa_nil)) sa_nil)) (.cons (.cons .nil))) (sn_call W.f_one (sa_cons sn_str (sa_cons (sn_tup (sa_cons sn_int sa_nil)) sa_nil)) (.cons (.cons .nil))) : LE M L _ addE) _ (xok_body hr nd)) pa_nil)))))) (pv 2) (fun _ _ => rfl)))
    (pss_cons (ps_set (i := 4) nd rfl (Or.inl rfl) (pe_call FF hr rfl gF kF bF .nil pass0 (pa_cons (pv 1) (pa_cons (pe_ix ix_str pe_str (pe_call FX hr rfl gX kX bX .nil pass0 (pa_cons (pv 1) (pa_cons pe_int pa_nil))) (fun _ _ => rfl))
        (pa_cons ((sn_bin (fun X hX => od_sub hX) sn_int (sn_callTy (fun X hX => cd_intOf hX) rfl W.int rfl (sa_cons (sn_cmp (fun X hX => od_gt hX) (sn_var) sn_int) sa_nil)) : LE M L _ mostE) _ (xok_body hr nd)) pa_nil)))))
    (pss_cons (ps_set (i := 5) nd rfl (Or.inl rfl) (pe_call FB hr rfl gB kB bB .nil pass0 (pa_cons (pv 3) (pa_cons (pe_ix ix_str pe_str (pe_call FX hr rfl gX kX bX .nil pass0 (pa_cons (pv 1) (pa_cons pe_int pa_nil))) (fun _ _ => rfl)) pa_nil))))
    (pss_cons (ps_set (i := 6) nd rfl (Or.inl rfl) ((sn_call W.f_put (sa_cons (sn_var) (sa_cons (sn_var) sa_nil)) (.cons (.cons .nil)) : LE M L _ putE) _ (xok_body hr nd)))
    (pss_cons (ps_set (i := 7) nd rfl (Or.inl rfl) (pe_call FL hr rfl gL kL bL .nil pass0 (pa_cons (pv 1) (pa_cons pe_int pa_nil))))
    (pss_cons (ps_if (pw_or ((st_cmp (fun X hX => od_ne hX) (sn_fld 1 0 (sn_var) W.c1) (sn_fld 1 0 (sn_var) W.c1) : SndT M (Φ L) nLaw (defScope (top 83)) (defScope (top 83)) _ baseT) _ (xok_body hr nd))
        (pw_or1 (pt_cmpR (op_neR (xok_body hr nd) CE bE FE hnE) ((sn_call W.f_law_at (sa_cons (sn_var) (sa_cons (sn_var) sa_nil)) (.cons (.cons .nil)) : LE M L _ atE1) _ (xok_body hr nd))
          ((sn_call W.f_law_at (sa_cons (sn_var) (sa_cons (sn_call W.f_law_monomial_list (sa_cons (sn_var) (sa_cons (sn_var) sa_nil)) (.cons (.cons .nil))) sa_nil)) (.cons (.cons .nil)) : LE M L _ atE2) _ (xok_body hr nd)) (nomark _)))).pt (pss_one (ps_ret pe_bl)) pss_nil)
    (pss_cons (ps_if (pt_cmpR op_ne (pe_call F1 hr rfl g1 k1 b1 .nil pass0 (pa_cons ((sn_call W.f_one (sa_cons sn_str (sa_cons (sn_tup (sa_cons sn_int sa_nil)) sa_nil)) (.cons (.cons .nil)) : LE M L _ (oneE "s" (tup1 3))) _ (xok_body hr nd))
        (pa_cons ((sn_call W.f_one (sa_cons sn_str (sa_cons (sn_tup (sa_cons sn_int (sa_cons sn_int sa_nil))) sa_nil)) (.cons (.cons .nil)) : LE M L _ (oneE "p" (.bi .tupD (.cons (.cst (.int 2)) (.cons (.cst (.int 1)) .nil))))) _ (xok_body hr nd)) pa_nil))) pe_str (nomark _)) (pss_one (ps_ret pe_bl)) pss_nil)
    (pss_one (ps_ret (pe_cmpR op_eq (pe_call F2 hr rfl g2 k2 b2 .nil pass0 (pa_cons ((sn_call W.f_one (sa_cons sn_str (sa_cons (sn_tup (sa_cons sn_int sa_nil)) sa_nil)) (.cons (.cons .nil)) : LE M L _ (oneE "h" (tup1 1))) _ (xok_body hr nd))
        (pa_cons ((sn_own OA (sn_call W.f_one (sa_cons sn_str (sa_cons (sn_tup (sa_cons sn_int sa_nil)) sa_nil)) (.cons (.cons .nil))) (sn_call W.f_one (sa_cons sn_str (sa_cons (sn_tup sa_nil) sa_nil)) (.cons (.cons .nil))) : LE M L _ addE2) _ (xok_body hr nd)) pa_nil))) pe_str (nomark _))))))))))))), ?_⟩)
  · obtain ⟨a, ns, rfl, _⟩ := h; rfl
  obtain ⟨a, ns, rfl, hl, hS, hQ⟩ := h
  refine ⟨_, rfl, a, ns, rfl, hS, hl, fun p is0 hp => ?_⟩
  have n1 : Nums p is0 (fun _ => none) (upd H p (.lst (is0.map V.int))) := ⟨(fun b u e => nomatch e), rfl, upd_same⟩
  generalize upd H p (.lst (is0.map V.int)) = H1 at n1 ⊢
  refine ⟨_, rfl, p, is0, 5, rfl, by decide, n1.at_, fun x is1 hx0 hx5 => ?_⟩
  obtain ⟨k, rfl⟩ := Int.eq_ofNat_of_zero_le hx0
  have hk : k < 5 := by omega
  clear hx0 hx5
  have n2 := n1.draw (is' := is1)
  generalize upd H1 p (nl is1) = H2 at n2 ⊢
  have s2 : SlL M (fun _ => none) [.non, .non, .val (.int (k : Int)), .non, .non, .non, .non, .non] [some (.ref a), some (.ref p), some (.int (k : Int)), none, none, none, none, none] := .non (.non (.val .int (.non (.non (.non (.non (.non .nil)))))))
  refine tE_of (one_val (dp := .tup [.int 1]) rfl o1) s2 n2.s fun v1 F1 H3 x1 e1 => ?_
  refine tE_of (one_val (dp := .tup [.int 2]) rfl o2) (s2.mono x1.f) x1.s fun v2 F2 H4 x2 e2 => ?_
  refine tE_of (one_val (dp := .tup [.int 2]) rfl o3) (s2.mono (x1.f.trans x2.f)) x2.s fun v3 F3 H5 x3 e3 => ?_
  refine tE_of (one_val (dp := .tup [.int 2]) rfl o4) (s2.mono ((x1.f.trans x2.f).trans x3.f)) x3.s fun v4 F4 H6 x4 e4 => ?_
  refine tE_of (ie := addE) ((call2_val (one_val (dp := .tup [.int 1]) rfl o1) (one_val (dp := .tup [.int 2]) rfl o2)).trans o5) (s2.mono (((x1.f.trans x2.f).trans x3.f).trans x4.f)) x4.s fun v5 F5 H7 x5 e5 => ?_
  refine ⟨by show 5 ≤ sizeLine; decide, fun l hl => ?_⟩
  have x15 := (((x1.trans x2).trans x3).trans x4).trans x5
  have n7 := n2.step x15
  have lp : l ≠ p := fun e => by have q := n7.at_; rw [← e, hl] at q; cases q
  have n8 := n7.setOwn (o := .lst [v1, v2, v3, v4, v5]) (n7.s.free hl) lp
  obtain ⟨vk, hvk, ek⟩ : ∃ vk, [v1, v2, v3, v4, v5][k]? = some vk ∧ EncM M F5 vk (inD k) := by
    have h : k = 0 ∨ k = 1 ∨ k = 2 ∨ k = 3 ∨ k = 4 := by omega
    rcases h with rfl | rfl | rfl | rfl | rfl
    · exact ⟨v1, rfl, e1.mono (((x2.f.trans x3.f).trans x4.f).trans x5.f)⟩
    · exact ⟨v2, rfl, e2.mono ((x3.f.trans x4.f).trans x5.f)⟩
    · exact ⟨v3, rfl, e3.mono (x4.f.trans x5.f)⟩
    · exact ⟨v4, rfl, e4.mono x5.f⟩
    · exact ⟨v5, rfl, e5⟩
  refine ⟨_, rfl, l, _, (k : Int), vk, rfl, rfl, SqL.of upd_same, L2.atI_nat hvk, ?_⟩
  generalize upd H7 l (.lst [v1, v2, v3, v4, v5]) = H8 at n8 ⊢
  have s3 : SlL M F5 [.non, .non, .val (.int (k : Int)), .val (inD k), .non, .non, .non, .non] [some (.ref a), some (.ref p), some (.int (k : Int)), some vk, none, none, none, none] := .non (.non (.val .int (.val ek (.non (.non (.non (.non .nil)))))))
  refine ⟨_, rfl, _, rfl, p, is1, 5, rfl, by decide, n8.at_, fun y is2 y0 y5 => ?_⟩
  obtain ⟨bf, c1, ha1, hb1⟩ := mehps_at y0 y5
  refine ⟨_, y, c1, rfl, rfl, by decide +kernel, ha1, ?_⟩
  rw [hb1]
  have n9 := n8.draw (is' := is2)
  generalize upd H8 p (nl is2) = H9 at n9 ⊢
  have em : evalE (Φ L) mostE [.non, .non, .val (.int (k : Int)), .val (inD k), .non, .non, .non, .non] = some (.int (fd3 k)) := by
    have h : k = 0 ∨ k = 1 ∨ k = 2 ∨ k = 3 ∨ k = 4 := by omega
    rcases h with rfl | rfl | rfl | rfl | rfl <;> rfl
  refine tE_of (ie := mostE) em s3 n9.s fun vm F6 H10 x6 e6 => ?_
  cases e6
  have n10 := n9.step x6
  refine ⟨p, is2, F6, bf, fd3 k, rfl, by unfold fd3; split <;> simp, n10, fun fv F7 H11 is3 prs pk xx n11 ef => ?_⟩
  have s4 : SlL M F7 [.non, .non, .val (.int (k : Int)), .val (inD k), .val (syD bf.nm (nfT prs)), .non, .non, .non] [some (.ref a), some (.ref p), some (.int (k : Int)), some vk, some fv, none, none, none] := .non (.non (.val .int (.val (ek.mono (x6.f.trans xx.f)) (.val ef (.non (.non (.non .nil)))))))
  refine ⟨_, rfl, _, rfl, p, is3, 5, rfl, by decide, n11.at_, fun z is4 z0 z5 => ?_⟩
  obtain ⟨bg, c2, ha2, hb2⟩ := mehps_at z0 z5
  refine ⟨_, z, c2, rfl, rfl, by decide +kernel, ha2, ?_⟩
  rw [hb2]
  have n12 := n11.draw (is' := is4)
  generalize upd H11 p (nl is4) = H12 at n12 ⊢
  refine ⟨F7, [inD k, .str bg.nm], gD k bg, rfl, n12.s, .cons (ek.mono (x6.f.trans xx.f)) (.cons .str .nil), (g_val hk bg (by omega)).1, fun gv F8 H13 x8 eg => ?_⟩
  have n13 := n12.step x8
  have s5 : SlL M F8 [.non, .non, .val (.int (k : Int)), .val (inD k), .val (syD bf.nm (nfT prs)), .val (gD k bg), .non, .non] [some (.ref a), some (.ref p), some (.int (k : Int)), some vk, some fv, some gv, none, none] := .non (.non (.val .int (.val (ek.mono ((x6.f.trans xx.f).trans x8.f)) (.val (ef.mono x8.f) (.val eg (.non (.non .nil)))))))
  have one6 : (1 : Int) ∈ L6 := by decide
  obtain ⟨ts', q0, hput, -⟩ := core hL hk bf bg pk.all pk.len one6 one6 one6
  refine tE_of (ie := putE) ((call2_val rfl rfl).trans hput) s5 n13.s fun pv F9 H14 x9 ep => ?_
  have n14 := n13.step x9
  refine ⟨_, rfl, p, is4, F9, rfl, n14, fun xv F10 H15 is5 la lb lc hla hlb hlc xx2 n15 ex => ?_⟩
  obtain ⟨ts2, q, hput2, hA, hm, hB⟩ := core hL hk bf bg pk.all pk.len hla hlb hlc
  have ets : syD bf.nm ts' = syD bf.nm ts2 := Option.some.inj (hput.symm.trans hput2)
  rw [ets] at ep
  have s7 : SlL M F10 [.non, .non, .val (.int (k : Int)), .val (inD k), .val (syD bf.nm (nfT prs)), .val (gD k bg), .val (syD bf.nm ts2), .val (.lst ([la, lb, lc].map .int))] [some (.ref a), some (.ref p), some (.int (k : Int)), some vk, some fv, some gv, some pv, some xv] := by
    have m9 := (x9.f.trans xx2.f)
    have m8 := x8.f.trans m9
    exact .non (.non (.val .int (.val (ek.mono ((x6.f.trans xx.f).trans m8)) (.val (ef.mono m8) (.val (eg.mono m9) (.val (ep.mono xx2.f) (.val ex .nil)))))))
  have eb : evalE (Φ L) baseT [.non, .non, .val (.int (k : Int)), .val (inD k), .val (syD bf.nm (nfT prs)), .val (gD k bg), .val (syD bf.nm ts2), .val (.lst ([la, lb, lc].map .int))] = some (.bl false) := by
    refine (bi2_val (d := .str bf.nm) (c := .str bf.nm) rfl rfl).trans ?_
    show some (D.bl (!decide (bf.nm = bf.nm))) = _
    rw [decide_eq_true rfl]; rfl
  refine tT_of (ie := baseT) eb s7 n15.s fun F11 H16 x11 => ?_
  refine iteF ?_
  refine tE_of (ie := atE1) ((call2_val (d := syD bf.nm ts2) (c := .lst ([la, lb, lc].map .int)) rfl rfl).trans hA) (s7.mono x11.f) x11.s fun v12 F12 H17 x12 e12 => ?_
  refine tE_of (ie := atE2) ((call2_val (d := syD bf.nm (nfT prs)) rfl ((call2_val (d := .int (k : Int)) (c := .lst ([la, lb, lc].map .int)) rfl rfl).trans hm)).trans hB) ((s7.mono x11.f).mono x12.f) x12.s fun v13 F13 H18 x13 e13 => ?_
  refine ⟨F13, _, _, true, x13.s, e12.mono x13.f, e13, r_eq_val LE' q, fun F14 H19 x14 => ⟨_, rfl, ?_⟩⟩
  refine iteF ?_
  have s8 := (((s7.mono x11.f).mono x12.f).mono x13.f).mono x14.f
  refine tE_of (one_val (dp := .tup [.int 3]) rfl o6) s8 x14.s fun v15 F15 H20 x15' e15 => ?_
  refine tE_of (one_val (dp := .tup [.int 2, .int 1]) rfl o7) (s8.mono x15'.f) x15'.s fun v16 F16 H21 x16 e16 => ?_
  refine ⟨F16, rfl, x16.s, .cons (e15.mono x16.f) (.cons e16 .nil), fun F17 H22 x17 => ?_⟩
  refine ⟨rfl, _, rfl, ?_⟩
  refine iteNS rfl ?_
  have s9 := ((s8.mono x15'.f).mono x16.f).mono x17.f
  refine tE_of (one_val (dp := .tup [.int 1]) rfl o8) s9 x17.s fun v18 F18 H23 x18 e18 => ?_
  refine tE_of (ie := addE2) ((call2_val (one_val (dp := .tup [.int 1]) rfl o1) (one_val (dp := .tup []) rfl o9)).trans o10) (s9.mono x18.f) x18.s fun v19 F19 H24 x19 e19 => ?_
  refine ⟨F19, rfl, x19.s, .cons (e18.mono x19.f) (.cons e19 .nil), fun F20 H25 x20 => ⟨rfl, ?_⟩⟩
  rw [decide_eq_true rfl]
  exact hQ H25
end FB

set_option Elab.async false
set_option linter.all false
set_option maxRecDepth 100000
set_option maxHeartbeats 4000000
/-! FBs2: what stands behind the top, told to the layer (printed by gen_st.py). -/
namespace FB
open PySem PySem.Spec PyProof.Rows L2
def CAK (K : PySem.W.Frag) : Nat → Addr
  | 0 => He.ga K "Ratio"
  | _ => He.ga K "Symmetric"
abbrev mdl (P : Program) (w : World) (K : PySem.W.Frag) (mg : Str → Option Value) (base : Heap) : Md := { P := P, w := w, K := K, mg := mg, base := base, k := 0, CA := CAK K }
structure Ex (K : PySem.W.Frag) : Prop where
  sf : PySem.W.selfFirst K (He.ga K "Ratio") = true
  cl : PySem.W.findIn K (.ref (He.ga K "Ratio")) "__class__" = some (some (.builtin "object.__class__"))
  gt : PySem.W.specialIn K (.builtin "object.__class__") "__get__" = some (some (.builtin "getset_descriptor.__get__"))
  tk : PySem.W.takesIn K (.builtin "object.__class__") = some true
  mr : PySem.W.mroIn K (He.ga K "Ratio") (.type "object") = some true
  kt : PySem.W.kitOne K (.type "int") (.ref (He.ga K "Ratio")) = some false
  gc : PySem.W.nsIn K mainGlobals "gcd" = some (some (.builtin "math.gcd"))
  dt : KTup K (He.dflAt ("count_fillings", none) 0 K)
  sy : PySem.W.selfFirst K (He.ga K "Symmetric") = true
theorem isKT_ok {K : PySem.W.Frag} {a : Addr} (h : isKT K a = true) : KTup K a := by
  unfold isKT at h
  split at h
  · rename_i o q
    obtain ⟨h1, h2⟩ := He.ba h
    split at h2
    · rename_i xs n q2
      have e : xs = #[] := Array.isEmpty_iff.mp h2
      subst e
      exact ⟨o, n, q, of_decide_eq_true h1, q2⟩
    · cases h2
  · cases h
theorem ex_of {K : PySem.W.Frag} (h : extraB K = true) : Ex K := by
  obtain ⟨h1, h⟩ := He.ba h
  obtain ⟨h2, h⟩ := He.ba h
  obtain ⟨h3, h⟩ := He.ba h
  obtain ⟨h4, h⟩ := He.ba h
  obtain ⟨h5, h⟩ := He.ba h
  obtain ⟨h6, h⟩ := He.ba h
  obtain ⟨h7, h⟩ := He.ba h
  obtain ⟨h8, h9⟩ := He.ba h
  exact ⟨h1, He.eqO_ok h2, He.eqO_ok h3, of_decide_eq_true h4, of_decide_eq_true h5, of_decide_eq_true h6, He.eqO_ok h7, isKT_ok h8, h9⟩
variable {P : Program} {w : World} {K : PySem.W.Frag} {mg : Str → Option Value} {base h : Heap}
theorem opS_of {x : Str} {c : Nat} {op : Operator} {st : Stmt} {ps : List Str} {nm qual : Str} {fd : FuncData} (e : CAK K c = He.ga K x) (hf : (He.Fa.meth x (PySem.dunder op.info.2)).ok K = true) (sf : PySem.W.selfFirst K (He.ga K x) = true)
    (F : FunD K nm qual (defArgs st) (defBody st) (defScope st) [] [] (He.ma K (He.ga K x) (PySem.dunder op.info.2)) fd) (b : Binds K fd ps []) : OpS (mdl P w K mg base) c op st ps := by
  obtain ⟨h1, h2⟩ := He.ba hf
  obtain ⟨h3, h4⟩ := He.ba h2
  refine ⟨nm, qual, _, fd, [], [], ?_, h3, ?_, F, b⟩
  · show PySem.W.findIn K (.ref (CAK K c)) _ = _
    rw [e]; exact He.eqO_ok h1
  · show PySem.W.selfFirst K (CAK K c) = true
    rw [e]; exact sf
theorem st_of (X : K.In h) (G : h.Ns mainGlobals mg) (c : He.SaysD fal fnl K) (e : Ex K) : St (mdl P w K mg base) := by
  obtain ⟨fd_is_integer, F_is_integer⟩ := c.def_ 0 (d := dd_is_integer) rfl
  obtain ⟨fd_ratio, F_ratio⟩ := c.def_ 45 (d := dd_ratio) rfl
  obtain ⟨fd_r_add, F_r_add⟩ := c.def_ 46 (d := dd_r_add) rfl
  obtain ⟨fd_r_sub, F_r_sub⟩ := c.def_ 47 (d := dd_r_sub) rfl
  obtain ⟨fd_r_mul, F_r_mul⟩ := c.def_ 48 (d := dd_r_mul) rfl
  obtain ⟨fd_r_over, F_r_over⟩ := c.def_ 50 (d := dd_r_over) rfl
  obtain ⟨fd_r_is_zero, F_r_is_zero⟩ := c.def_ 51 (d := dd_r_is_zero) rfl
  obtain ⟨fd_zero, F_zero⟩ := c.def_ 1 (d := dd_zero) rfl
  obtain ⟨fd_is_partition, F_is_partition⟩ := c.def_ 2 (d := dd_is_partition) rfl
  obtain ⟨fd_size, F_size⟩ := c.def_ 3 (d := dd_size) rfl
  obtain ⟨fd_partitions_below, F_partitions_below⟩ := c.def_ 33 (d := dd_partitions_below) rfl
  obtain ⟨fd_partitions, F_partitions⟩ := c.def_ 4 (d := dd_partitions) rfl
  obtain ⟨fd_part_at, F_part_at⟩ := c.def_ 5 (d := dd_part_at) rfl
  obtain ⟨fd_turned, F_turned⟩ := c.def_ 6 (d := dd_turned) rfl
  obtain ⟨fd_holds, F_holds⟩ := c.def_ 7 (d := dd_holds) rfl
  obtain ⟨fd_trimmed, F_trimmed⟩ := c.def_ 34 (d := dd_trimmed) rfl
  obtain ⟨fd_rows, F_rows⟩ := c.def_ 35 (d := dd_rows) rfl
  obtain ⟨fd_with_strip, F_with_strip⟩ := c.def_ 8 (d := dd_with_strip) rfl
  obtain ⟨fd_joined, F_joined⟩ := c.def_ 9 (d := dd_joined) rfl
  obtain ⟨fd_count_fillings, F_count_fillings⟩ := c.def_ 10 (d := dd_count_fillings) rfl
  obtain ⟨fd_spreads, F_spreads⟩ := c.def_ 11 (d := dd_spreads) rfl
  obtain ⟨fd_count_matrices, F_count_matrices⟩ := c.def_ 12 (d := dd_count_matrices) rfl
  obtain ⟨fd_zero_one_matrices, F_zero_one_matrices⟩ := c.def_ 13 (d := dd_zero_one_matrices) rfl
  obtain ⟨fd_whole_matrices, F_whole_matrices⟩ := c.def_ 14 (d := dd_whole_matrices) rfl
  obtain ⟨fd_mergings, F_mergings⟩ := c.def_ 15 (d := dd_mergings) rfl
  obtain ⟨fd_entry, F_entry⟩ := c.def_ 16 (d := dd_entry) rfl
  obtain ⟨fd_check, F_check⟩ := c.def_ 17 (d := dd_check) rfl
  obtain ⟨fd_monomial_row, F_monomial_row⟩ := c.def_ 18 (d := dd_monomial_row) rfl
  obtain ⟨fd_combined, F_combined⟩ := c.def_ 19 (d := dd_combined) rfl
  obtain ⟨fd_forward, F_forward⟩ := c.def_ 20 (d := dd_forward) rfl
  obtain ⟨fd_backward, F_backward⟩ := c.def_ 21 (d := dd_backward) rfl
  obtain ⟨fd_fillings_table, F_fillings_table⟩ := c.def_ 22 (d := dd_fillings_table) rfl
  obtain ⟨fd_from_monomials, F_from_monomials⟩ := c.def_ 23 (d := dd_from_monomials) rfl
  obtain ⟨fd_converted, F_converted⟩ := c.def_ 24 (d := dd_converted) rfl
  obtain ⟨fd_as_ratio, F_as_ratio⟩ := c.def_ 25 (d := dd_as_ratio) rfl
  obtain ⟨fd_check_part, F_check_part⟩ := c.def_ 26 (d := dd_check_part) rfl
  obtain ⟨fd_added_parts, F_added_parts⟩ := c.def_ 27 (d := dd_added_parts) rfl
  obtain ⟨fd_symmetric, F_symmetric⟩ := c.def_ 52 (d := dd_symmetric) rfl
  obtain ⟨fd_s_multiple, F_s_multiple⟩ := c.def_ 54 (d := dd_s_multiple) rfl
  obtain ⟨fd_s_degree, F_s_degree⟩ := c.def_ 55 (d := dd_s_degree) rfl
  obtain ⟨fd_s_is_zero, F_s_is_zero⟩ := c.def_ 56 (d := dd_s_is_zero) rfl
  obtain ⟨fd_s_part_of, F_s_part_of⟩ := c.def_ 57 (d := dd_s_part_of) rfl
  obtain ⟨fd_one, F_one⟩ := c.def_ 28 (d := dd_one) rfl
  obtain ⟨fd_in_base, F_in_base⟩ := c.def_ 29 (d := dd_in_base) rfl
  obtain ⟨fd_check_degree, F_check_degree⟩ := c.def_ 30 (d := dd_check_degree) rfl
  obtain ⟨fd_multiplied, F_multiplied⟩ := c.def_ 31 (d := dd_multiplied) rfl
  obtain ⟨fd_put, F_put⟩ := c.def_ 32 (d := dd_put) rfl
  obtain ⟨fd_law_partitions, F_law_partitions⟩ := c.def_ 36 (d := dd_law_partitions) rfl
  obtain ⟨fd_law_list, F_law_list⟩ := c.def_ 37 (d := dd_law_list) rfl
  obtain ⟨fd_law_power, F_law_power⟩ := c.def_ 38 (d := dd_law_power) rfl
  obtain ⟨fd_law_monomials, F_law_monomials⟩ := c.def_ 39 (d := dd_law_monomials) rfl
  obtain ⟨fd_law_smaller, F_law_smaller⟩ := c.def_ 40 (d := dd_law_smaller) rfl
  obtain ⟨fd_law_schur, F_law_schur⟩ := c.def_ 41 (d := dd_law_schur) rfl
  obtain ⟨fd_law_value, F_law_value⟩ := c.def_ 42 (d := dd_law_value) rfl
  obtain ⟨fd_law_at, F_law_at⟩ := c.def_ 43 (d := dd_law_at) rfl
  obtain ⟨fd_law_monomial_list, F_law_monomial_list⟩ := c.def_ 44 (d := dd_law_monomial_list) rfl
  exact {
    len := He.free_ok X G (c.fact 54 (f := .free "len") rfl)
    sum := He.free_ok X G (c.fact 55 (f := .free "sum") rfl)
    min := He.free_ok X G (c.fact 56 (f := .free "min") rfl)
    max := He.free_ok X G (c.fact 57 (f := .free "max") rfl)
    range := He.free_ok X G (c.fact 58 (f := .free "range") rfl)
    isinstance := He.free_ok X G (c.fact 59 (f := .free "isinstance") rfl)
    tuple := He.free_ok X G (c.fact 60 (f := .free "tuple") rfl)
    list := He.free_ok X G (c.fact 61 (f := .free "list") rfl)
    dict := He.free_ok X G (c.fact 62 (f := .free "dict") rfl)
    sorted := He.free_ok X G (c.fact 63 (f := .free "sorted") rfl)
    int := He.free_ok X G (c.fact 64 (f := .free "int") rfl)
    bool := He.free_ok X G (c.fact 65 (f := .free "bool") rfl)
    str := He.free_ok X G (c.fact 66 (f := .free "str") rfl)
    zip := He.free_ok X G (c.fact 67 (f := .free "zip") rfl)
    gcdN := PySem.W.mg_of X G e.gc
    mp := by obtain ⟨t, h⟩ := He.int_ok X G (c.fact 70 (f := .int "MOST_partition" 12) rfl); exact ⟨_, h, t, rfl⟩
    md := by obtain ⟨t, h⟩ := He.int_ok X G (c.fact 71 (f := .int "MOST_DEGREE" 8) rfl); exact ⟨_, h, t, rfl⟩
    bs := by obtain ⟨t, h⟩ := He.str_ok X G (c.fact 72 (f := .str "BASES" "mehps") rfl); exact ⟨_, h, t, rfl⟩
    g_ratio := He.glo_ok X G (c.fact 0 (f := .glo "Ratio") rfl)
    c0 := ⟨He.cls_ok (c.fact 73 (f := .cls "Ratio") rfl), fun f hf => by
      rcases List.mem_cons.mp hf with q | hf
      · subst q; exact He.noat_ok (c.fact 77 (f := .noat "Ratio" "n") rfl)
      · rcases List.mem_cons.mp hf with q | hf
        · subst q; exact He.noat_ok (c.fact 78 (f := .noat "Ratio" "d") rfl)
        · cases hf⟩
    c1 := ⟨He.cls_ok (c.fact 75 (f := .cls "Symmetric") rfl), fun f hf => by
      rcases List.mem_cons.mp hf with q | hf
      · subst q; exact He.noat_ok (c.fact 79 (f := .noat "Symmetric" "base") rfl)
      · rcases List.mem_cons.mp hf with q | hf
        · subst q; exact He.noat_ok (c.fact 80 (f := .noat "Symmetric" "terms") rfl)
        · cases hf⟩
    i0 := ⟨He.cls_ok (c.fact 73 (f := .cls "Ratio") rfl), e.cl, e.gt, e.tk, e.mr, e.kt⟩
    m_ratio := by
      obtain ⟨us, r, b⟩ := FunD.binds1 (ps := ["self", "n", "d"]) F_ratio 3 1 (fun z => nomatch z) rfl (fun T kV doc pm an cdv ct us its hl hi => match us, hl, its, hi with | [_, _, _], _, [_], _ => ⟨_, rfl, rfl⟩)
      exact ⟨_, _, _, fd_ratio, _, _, _, us, (He.glo_ok X G (c.fact 0 (f := .glo "Ratio") rfl)), (He.mkr_ok (c.fact 74 (f := .mkr "Ratio") rfl)), F_ratio, b, r, fun _ => .nil⟩
    m_ratio1 := by
      obtain ⟨us, r, b⟩ := FunD.binds1 (ps := ["self", "n", "d"]) F_ratio 2 0 (fun z => nomatch z) rfl (fun T kV doc pm an cdv ct us its hl hi => match us, hl, its, hi with | [_, _], _, [_], _ => ⟨_, rfl, rfl⟩)
      exact ⟨_, _, _, fd_ratio, _, _, _, us, (He.glo_ok X G (c.fact 0 (f := .glo "Ratio") rfl)), (He.mkr_ok (c.fact 74 (f := .mkr "Ratio") rfl)), F_ratio, b, r, fun _ => .cons .int .nil⟩
    m_symmetric := ⟨_, _, _, fd_symmetric, [], [], [], [], (He.glo_ok X G (c.fact 2 (f := .glo "Symmetric") rfl)), (He.mkr_ok (c.fact 76 (f := .mkr "Symmetric") rfl)), F_symmetric, F_symmetric.bindsN (fun _ _ _ _ _ _ us hl => match us, hl with | [_, _, _], _ => rfl), .nil, fun _ => .nil⟩
    o_r_add := opS_of (x := "Ratio") rfl (c.fact 87 (f := .meth "Ratio" "__add__") rfl) e.sf F_r_add (F_r_add.bindsN (fun _ _ _ _ _ _ us hl => match us, hl with | [_, _], _ => rfl))
    o_r_sub := opS_of (x := "Ratio") rfl (c.fact 88 (f := .meth "Ratio" "__sub__") rfl) e.sf F_r_sub (F_r_sub.bindsN (fun _ _ _ _ _ _ us hl => match us, hl with | [_, _], _ => rfl))
    o_r_mul := opS_of (x := "Ratio") rfl (c.fact 89 (f := .meth "Ratio" "__mul__") rfl) e.sf F_r_mul (F_r_mul.bindsN (fun _ _ _ _ _ _ us hl => match us, hl with | [_, _], _ => rfl))
    t_r_is_zero := ⟨_, _, _, fd_r_is_zero, [], [], He.meth_ok (c.fact 81 (f := .meth "Ratio" "is_zero") rfl), F_r_is_zero, F_r_is_zero.bindsN (fun _ _ _ _ _ _ us hl => match us, hl with | [_], _ => rfl)⟩
    t_r_over := ⟨_, _, _, fd_r_over, [], [], He.meth_ok (c.fact 82 (f := .meth "Ratio" "over") rfl), F_r_over, F_r_over.bindsN (fun _ _ _ _ _ _ us hl => match us, hl with | [_, _], _ => rfl)⟩
    t_s_multiple := ⟨_, _, _, fd_s_multiple, [], [], He.meth_ok (c.fact 83 (f := .meth "Symmetric" "multiple") rfl), F_s_multiple, F_s_multiple.bindsN (fun _ _ _ _ _ _ us hl => match us, hl with | [_, _], _ => rfl)⟩
    t_s_degree := ⟨_, _, _, fd_s_degree, [], [], He.meth_ok (c.fact 84 (f := .meth "Symmetric" "degree") rfl), F_s_degree, F_s_degree.bindsN (fun _ _ _ _ _ _ us hl => match us, hl with | [_], _ => rfl)⟩
    t_s_is_zero := ⟨_, _, _, fd_s_is_zero, [], [], He.meth_ok (c.fact 85 (f := .meth "Symmetric" "is_zero") rfl), F_s_is_zero, F_s_is_zero.bindsN (fun _ _ _ _ _ _ us hl => match us, hl with | [_], _ => rfl)⟩
    t_s_part_of := ⟨_, _, _, fd_s_part_of, [], [], He.meth_ok (c.fact 86 (f := .meth "Symmetric" "part_of") rfl), F_s_part_of, F_s_part_of.bindsN (fun _ _ _ _ _ _ us hl => match us, hl with | [_, _], _ => rfl)⟩
    f_is_integer := ⟨_, _, _, fd_is_integer, [], [], [], [], (He.glo_ok X G (c.fact 36 (f := .glo "is_integer") rfl)), F_is_integer.kp, F_is_integer, F_is_integer.bindsN (fun _ _ _ _ _ _ us hl => match us, hl with | [_], _ => rfl), .nil, fun _ => .nil⟩
    f_zero := ⟨_, _, _, fd_zero, [], [], [], [], (He.glo_ok X G (c.fact 52 (f := .glo "zero") rfl)), F_zero.kp, F_zero, F_zero.bindsN (fun _ _ _ _ _ _ us hl => match us, hl with | [], _ => rfl), .nil, fun _ => .nil⟩
    f_is_partition := ⟨_, _, _, fd_is_partition, [], [], [], [], (He.glo_ok X G (c.fact 37 (f := .glo "is_partition") rfl)), F_is_partition.kp, F_is_partition, F_is_partition.bindsN (fun _ _ _ _ _ _ us hl => match us, hl with | [_], _ => rfl), .nil, fun _ => .nil⟩
    f_size := ⟨_, _, _, fd_size, [], [], [], [], (He.glo_ok X G (c.fact 47 (f := .glo "size") rfl)), F_size.kp, F_size, F_size.bindsN (fun _ _ _ _ _ _ us hl => match us, hl with | [_], _ => rfl), .nil, fun _ => .nil⟩
    f_partitions_below := ⟨_, _, _, fd_partitions_below, [], [], [], [], (He.glo_ok X G (c.fact 17 (f := .glo "_partitions_below") rfl)), F_partitions_below.kp, F_partitions_below, F_partitions_below.bindsN (fun _ _ _ _ _ _ us hl => match us, hl with | [_, _], _ => rfl), .nil, fun _ => .nil⟩
    f_partitions := ⟨_, _, _, fd_partitions, [], [], [], [], (He.glo_ok X G (c.fact 45 (f := .glo "partitions") rfl)), F_partitions.kp, F_partitions, F_partitions.bindsN (fun _ _ _ _ _ _ us hl => match us, hl with | [_], _ => rfl), .nil, fun _ => .nil⟩
    f_part_at := ⟨_, _, _, fd_part_at, [], [], [], [], (He.glo_ok X G (c.fact 44 (f := .glo "part_at") rfl)), F_part_at.kp, F_part_at, F_part_at.bindsN (fun _ _ _ _ _ _ us hl => match us, hl with | [_, _], _ => rfl), .nil, fun _ => .nil⟩
    f_turned := ⟨_, _, _, fd_turned, [], [], [], [], (He.glo_ok X G (c.fact 49 (f := .glo "turned") rfl)), F_turned.kp, F_turned, F_turned.bindsN (fun _ _ _ _ _ _ us hl => match us, hl with | [_], _ => rfl), .nil, fun _ => .nil⟩
    f_holds := ⟨_, _, _, fd_holds, [], [], [], [], (He.glo_ok X G (c.fact 34 (f := .glo "holds") rfl)), F_holds.kp, F_holds, F_holds.bindsN (fun _ _ _ _ _ _ us hl => match us, hl with | [_, _], _ => rfl), .nil, fun _ => .nil⟩
    f_trimmed := ⟨_, _, _, fd_trimmed, [], [], [], [], (He.glo_ok X G (c.fact 19 (f := .glo "_trimmed") rfl)), F_trimmed.kp, F_trimmed, F_trimmed.bindsN (fun _ _ _ _ _ _ us hl => match us, hl with | [_], _ => rfl), .nil, fun _ => .nil⟩
    f_rows := ⟨_, _, _, fd_rows, [], [], [], [], (He.glo_ok X G (c.fact 18 (f := .glo "_rows") rfl)), F_rows.kp, F_rows, F_rows.bindsN (fun _ _ _ _ _ _ us hl => match us, hl with | [_, _, _], _ => rfl), .nil, fun _ => .nil⟩
    f_with_strip := by
      obtain ⟨us, r, b⟩ := FunD.binds0 (ps := ["b", "k", "upright"]) F_with_strip 2 (fun z => nomatch z) rfl (fun D doc pm an cdv ct us ks hl hk => match us, hl, ks, hk with | [_, _], _, [_], _ => ⟨_, _, _, _, _, _, rfl, rfl, rfl⟩)
      exact ⟨_, _, _, fd_with_strip, _, _, _, us, (He.glo_ok X G (c.fact 51 (f := .glo "with_strip") rfl)), F_with_strip.kp, F_with_strip, b, r, fun _ => .cons .bl .nil⟩
    f_joined := ⟨_, _, _, fd_joined, [], [], [], [], (He.glo_ok X G (c.fact 38 (f := .glo "joined") rfl)), F_joined.kp, F_joined, F_joined.bindsN (fun _ _ _ _ _ _ us hl => match us, hl with | [_, _], _ => rfl), .nil, fun _ => .nil⟩
    f_count_fillings := by
      obtain ⟨us, r, b⟩ := FunD.binds1 (ps := ["outer", "content", "inner"]) F_count_fillings 2 0 (fun z => nomatch z) rfl (fun T kV doc pm an cdv ct us its hl hi => match us, hl, its, hi with | [_, _], _, [_], _ => ⟨_, rfl, rfl⟩)
      exact ⟨_, _, _, fd_count_fillings, _, _, _, us, (He.glo_ok X G (c.fact 28 (f := .glo "count_fillings") rfl)), F_count_fillings.kp, F_count_fillings, b, r, fun _ => .cons (.ktup e.dt) .nil⟩
    f_spreads := ⟨_, _, _, fd_spreads, [], [], [], [], (He.glo_ok X G (c.fact 48 (f := .glo "spreads") rfl)), F_spreads.kp, F_spreads, F_spreads.bindsN (fun _ _ _ _ _ _ us hl => match us, hl with | [_, _, _], _ => rfl), .nil, fun _ => .nil⟩
    f_count_matrices := ⟨_, _, _, fd_count_matrices, [], [], [], [], (He.glo_ok X G (c.fact 29 (f := .glo "count_matrices") rfl)), F_count_matrices.kp, F_count_matrices, F_count_matrices.bindsN (fun _ _ _ _ _ _ us hl => match us, hl with | [_, _, _], _ => rfl), .nil, fun _ => .nil⟩
    f_zero_one_matrices := ⟨_, _, _, fd_zero_one_matrices, [], [], [], [], (He.glo_ok X G (c.fact 53 (f := .glo "zero_one_matrices") rfl)), F_zero_one_matrices.kp, F_zero_one_matrices, F_zero_one_matrices.bindsN (fun _ _ _ _ _ _ us hl => match us, hl with | [_, _], _ => rfl), .nil, fun _ => .nil⟩
    f_whole_matrices := ⟨_, _, _, fd_whole_matrices, [], [], [], [], (He.glo_ok X G (c.fact 50 (f := .glo "whole_matrices") rfl)), F_whole_matrices.kp, F_whole_matrices, F_whole_matrices.bindsN (fun _ _ _ _ _ _ us hl => match us, hl with | [_, _], _ => rfl), .nil, fun _ => .nil⟩
    f_mergings := ⟨_, _, _, fd_mergings, [], [], [], [], (He.glo_ok X G (c.fact 40 (f := .glo "mergings") rfl)), F_mergings.kp, F_mergings, F_mergings.bindsN (fun _ _ _ _ _ _ us hl => match us, hl with | [_, _], _ => rfl), .nil, fun _ => .nil⟩
    f_entry := ⟨_, _, _, fd_entry, [], [], [], [], (He.glo_ok X G (c.fact 30 (f := .glo "entry") rfl)), F_entry.kp, F_entry, F_entry.bindsN (fun _ _ _ _ _ _ us hl => match us, hl with | [_, _, _], _ => rfl), .nil, fun _ => .nil⟩
    f_check := ⟨_, _, _, fd_check, [], [], [], [], (He.glo_ok X G (c.fact 23 (f := .glo "check") rfl)), F_check.kp, F_check, F_check.bindsN (fun _ _ _ _ _ _ us hl => match us, hl with | [_, _], _ => rfl), .nil, fun _ => .nil⟩
    f_monomial_row := ⟨_, _, _, fd_monomial_row, [], [], [], [], (He.glo_ok X G (c.fact 41 (f := .glo "monomial_row") rfl)), F_monomial_row.kp, F_monomial_row, F_monomial_row.bindsN (fun _ _ _ _ _ _ us hl => match us, hl with | [_, _], _ => rfl), .nil, fun _ => .nil⟩
    f_combined := ⟨_, _, _, fd_combined, [], [], [], [], (He.glo_ok X G (c.fact 26 (f := .glo "combined") rfl)), F_combined.kp, F_combined, F_combined.bindsN (fun _ _ _ _ _ _ us hl => match us, hl with | [_, _], _ => rfl), .nil, fun _ => .nil⟩
    f_forward := ⟨_, _, _, fd_forward, [], [], [], [], (He.glo_ok X G (c.fact 32 (f := .glo "forward") rfl)), F_forward.kp, F_forward, F_forward.bindsN (fun _ _ _ _ _ _ us hl => match us, hl with | [_, _], _ => rfl), .nil, fun _ => .nil⟩
    f_backward := ⟨_, _, _, fd_backward, [], [], [], [], (He.glo_ok X G (c.fact 22 (f := .glo "backward") rfl)), F_backward.kp, F_backward, F_backward.bindsN (fun _ _ _ _ _ _ us hl => match us, hl with | [_, _], _ => rfl), .nil, fun _ => .nil⟩
    f_fillings_table := ⟨_, _, _, fd_fillings_table, [], [], [], [], (He.glo_ok X G (c.fact 31 (f := .glo "fillings_table") rfl)), F_fillings_table.kp, F_fillings_table, F_fillings_table.bindsN (fun _ _ _ _ _ _ us hl => match us, hl with | [_], _ => rfl), .nil, fun _ => .nil⟩
    f_from_monomials := ⟨_, _, _, fd_from_monomials, [], [], [], [], (He.glo_ok X G (c.fact 33 (f := .glo "from_monomials") rfl)), F_from_monomials.kp, F_from_monomials, F_from_monomials.bindsN (fun _ _ _ _ _ _ us hl => match us, hl with | [_, _, _], _ => rfl), .nil, fun _ => .nil⟩
    f_converted := ⟨_, _, _, fd_converted, [], [], [], [], (He.glo_ok X G (c.fact 27 (f := .glo "converted") rfl)), F_converted.kp, F_converted, F_converted.bindsN (fun _ _ _ _ _ _ us hl => match us, hl with | [_, _, _, _], _ => rfl), .nil, fun _ => .nil⟩
    f_as_ratio := ⟨_, _, _, fd_as_ratio, [], [], [], [], (He.glo_ok X G (c.fact 21 (f := .glo "as_ratio") rfl)), F_as_ratio.kp, F_as_ratio, F_as_ratio.bindsN (fun _ _ _ _ _ _ us hl => match us, hl with | [_], _ => rfl), .nil, fun _ => .nil⟩
    f_check_part := ⟨_, _, _, fd_check_part, [], [], [], [], (He.glo_ok X G (c.fact 25 (f := .glo "check_part") rfl)), F_check_part.kp, F_check_part, F_check_part.bindsN (fun _ _ _ _ _ _ us hl => match us, hl with | [_], _ => rfl), .nil, fun _ => .nil⟩
    f_added_parts := ⟨_, _, _, fd_added_parts, [], [], [], [], (He.glo_ok X G (c.fact 20 (f := .glo "added_parts") rfl)), F_added_parts.kp, F_added_parts, F_added_parts.bindsN (fun _ _ _ _ _ _ us hl => match us, hl with | [_], _ => rfl), .nil, fun _ => .nil⟩
    f_one := ⟨_, _, _, fd_one, [], [], [], [], (He.glo_ok X G (c.fact 43 (f := .glo "one") rfl)), F_one.kp, F_one, F_one.bindsN (fun _ _ _ _ _ _ us hl => match us, hl with | [_, _], _ => rfl), .nil, fun _ => .nil⟩
    f_in_base := ⟨_, _, _, fd_in_base, [], [], [], [], (He.glo_ok X G (c.fact 35 (f := .glo "in_base") rfl)), F_in_base.kp, F_in_base, F_in_base.bindsN (fun _ _ _ _ _ _ us hl => match us, hl with | [_, _], _ => rfl), .nil, fun _ => .nil⟩
    f_check_degree := ⟨_, _, _, fd_check_degree, [], [], [], [], (He.glo_ok X G (c.fact 24 (f := .glo "check_degree") rfl)), F_check_degree.kp, F_check_degree, F_check_degree.bindsN (fun _ _ _ _ _ _ us hl => match us, hl with | [_], _ => rfl), .nil, fun _ => .nil⟩
    f_multiplied := ⟨_, _, _, fd_multiplied, [], [], [], [], (He.glo_ok X G (c.fact 42 (f := .glo "multiplied") rfl)), F_multiplied.kp, F_multiplied, F_multiplied.bindsN (fun _ _ _ _ _ _ us hl => match us, hl with | [_, _], _ => rfl), .nil, fun _ => .nil⟩
    f_put := ⟨_, _, _, fd_put, [], [], [], [], (He.glo_ok X G (c.fact 46 (f := .glo "put") rfl)), F_put.kp, F_put, F_put.bindsN (fun _ _ _ _ _ _ us hl => match us, hl with | [_, _], _ => rfl), .nil, fun _ => .nil⟩
    f_law_partitions := ⟨_, _, _, fd_law_partitions, [], [], [], [], (He.glo_ok X G (c.fact 11 (f := .glo "_law_partitions") rfl)), F_law_partitions.kp, F_law_partitions, F_law_partitions.bindsN (fun _ _ _ _ _ _ us hl => match us, hl with | [_, _], _ => rfl), .nil, fun _ => .nil⟩
    f_law_list := ⟨_, _, _, fd_law_list, [], [], [], [], (He.glo_ok X G (c.fact 6 (f := .glo "_law_list") rfl)), F_law_list.kp, F_law_list, F_law_list.bindsN (fun _ _ _ _ _ _ us hl => match us, hl with | [_, _, _], _ => rfl), .nil, fun _ => .nil⟩
    f_law_power := ⟨_, _, _, fd_law_power, [], [], [], [], (He.glo_ok X G (c.fact 12 (f := .glo "_law_power") rfl)), F_law_power.kp, F_law_power, F_law_power.bindsN (fun _ _ _ _ _ _ us hl => match us, hl with | [_, _], _ => rfl), .nil, fun _ => .nil⟩
    f_law_monomials := ⟨_, _, _, fd_law_monomials, [], [], [], [], (He.glo_ok X G (c.fact 8 (f := .glo "_law_monomials") rfl)), F_law_monomials.kp, F_law_monomials, F_law_monomials.bindsN (fun _ _ _ _ _ _ us hl => match us, hl with | [_, _], _ => rfl), .nil, fun _ => .nil⟩
    f_law_smaller := ⟨_, _, _, fd_law_smaller, [], [], [], [], (He.glo_ok X G (c.fact 15 (f := .glo "_law_smaller") rfl)), F_law_smaller.kp, F_law_smaller, F_law_smaller.bindsN (fun _ _ _ _ _ _ us hl => match us, hl with | [_], _ => rfl), .nil, fun _ => .nil⟩
    f_law_schur := ⟨_, _, _, fd_law_schur, [], [], [], [], (He.glo_ok X G (c.fact 14 (f := .glo "_law_schur") rfl)), F_law_schur.kp, F_law_schur, F_law_schur.bindsN (fun _ _ _ _ _ _ us hl => match us, hl with | [_, _], _ => rfl), .nil, fun _ => .nil⟩
    f_law_value := ⟨_, _, _, fd_law_value, [], [], [], [], (He.glo_ok X G (c.fact 16 (f := .glo "_law_value") rfl)), F_law_value.kp, F_law_value, F_law_value.bindsN (fun _ _ _ _ _ _ us hl => match us, hl with | [_, _, _], _ => rfl), .nil, fun _ => .nil⟩
    f_law_at := ⟨_, _, _, fd_law_at, [], [], [], [], (He.glo_ok X G (c.fact 3 (f := .glo "_law_at") rfl)), F_law_at.kp, F_law_at, F_law_at.bindsN (fun _ _ _ _ _ _ us hl => match us, hl with | [_, _], _ => rfl), .nil, fun _ => .nil⟩
    f_law_monomial_list := ⟨_, _, _, fd_law_monomial_list, [], [], [], [], (He.glo_ok X G (c.fact 7 (f := .glo "_law_monomial_list") rfl)), F_law_monomial_list.kp, F_law_monomial_list, F_law_monomial_list.bindsN (fun _ _ _ _ _ _ us hl => match us, hl with | [_, _], _ => rfl), .nil, fun _ => .nil⟩
  }
end FB

set_option Elab.async false
set_option linter.all false
set_option maxRecDepth 100000
set_option maxHeartbeats 4000000
/-! FBj: the facts told to the law. -/
namespace FB
open PySem PySem.Spec PyProof.Rows L2
section
variable {P : Program} {w : World} {K : PySem.W.Frag} {mg : Str → Option Value} {base h : Heap}
theorem rf_of (hP : P = PySem.Challenge.pw_fivebases_k34_whole_functions_put_in) (X : K.In h) (G : h.Ns mainGlobals mg) (c : He.SaysD fal fnl K) (r : rfB K = true) (fc : fnC K = fnCval) : ∃ cc cda, RfC (mdl P w K mg base) (He.ga K "Refused") (riA K) cc cda := by
  obtain ⟨r1, r⟩ := He.ba r
  obtain ⟨r2, r⟩ := He.ba r
  obtain ⟨r3, r⟩ := He.ba r
  obtain ⟨r4, r⟩ := He.ba r
  obtain ⟨r5, r⟩ := He.ba r
  obtain ⟨r6, r⟩ := He.ba r
  obtain ⟨r7, r⟩ := He.ba r
  obtain ⟨r8, r⟩ := He.ba r
  obtain ⟨r9, r⟩ := He.ba r
  obtain ⟨r10, r11⟩ := He.ba r
  have ox : OexC K (He.ga K "Refused") := by
    obtain ⟨a1, a⟩ := He.ba r1
    obtain ⟨a2, a⟩ := He.ba a
    obtain ⟨a3, a⟩ := He.ba a
    obtain ⟨a4, a5⟩ := He.ba a
    refine ⟨?_, He.eqO_ok a2, of_decide_eq_true a3, of_decide_eq_true a4, a5⟩
    split at a1
    · rename_i N bm nid q
      obtain ⟨b1, b2⟩ := He.ba a1
      have b1 := of_decide_eq_true b1
      subst b1
      obtain ⟨nm, qn, bs, sn, sub, ab, col, dd, k0, k1, k2, k3, k5, lk⟩ := excB_ok q
      exact ⟨nm, qn, N, bs, bm, sn, sub, ab, col, dd, k0, k1, k2, k3, k5, lk, b2⟩
    · cases a1
  have mgC : mg "Refused" = some (.ref (He.ga K "Refused")) := He.glo_ok X G (c.fact 1 (f := .glo "Refused") rfl)
  have noS : mg "super" = none := He.free_ok X G (c.fact 69 (f := .free "super") rfl)
  unfold riB at r2
  unfold fnC at fc
  split at r2
  · rename_i oc od fd osl q
    rw [q] at fc
    obtain ⟨n1, n2, n3, n4, n5, n6, n7, n8, n9, n10, n11, n12, n13, n14, n15⟩ := fd
    obtain ⟨b1, b⟩ := He.ba r2
    obtain ⟨b2, b⟩ := He.ba b
    obtain ⟨b3, b⟩ := He.ba b
    obtain ⟨b4, b5⟩ := He.ba b
    dsimp only at b1 b2 b3 b4 b5 fc
    have e2 : (some (n1, n2, n3, n4, n5, n6, n7.map (·.1), n15) : FnC) = fnCval := fc
    unfold fnCval at e2
    simp only [Option.some.injEq, Prod.mk.injEq] at e2
    obtain ⟨h1, h2, h3, h4, h5, h6, h7, h8⟩ := e2
    subst h1 h2 h3 h4 h5 h6 h8
    cases n8 with
    | none =>
      cases n9 with
      | none =>
        cases n13 with
        | ref cda =>
          cases n7 with
          | nil => cases b5
          | cons hd tl =>
            obtain ⟨nm, cc⟩ := hd
            cases tl with
            | cons _ _ => cases b5
            | nil =>
              have hn : nm = "__class__" := by simpa using h7
              subst hn
              have b4 : fileB K cda = true := b4
              have b5 : cellB K cc (He.ga K "Refused") = true := b5
              refine ⟨cc, cda, ⟨ox, mgC, ⟨oc, od, n10, n11, n12, n14, osl, q⟩, He.eqO_ok r3, of_decide_eq_true r4, b3, ?_, ?_, of_decide_eq_true r5, He.eqO_ok r6, of_decide_eq_true r7, He.eqO_ok r8, He.eqO_ok r9, xfB_ok r10, of_decide_eq_true r11, noS, ?_⟩⟩
              · unfold fileB at b4
                split at b4
                · rename_i ccl cdd vs ccs ql
                  split at b4
                  · rename_i fl tf qv
                    exact ⟨ccl, cdd, vs, ccs, fl, tf, ql, qv, by rw [hP]; exact b4⟩
                  · cases b4
                · cases b4
              · unfold cellB at b5
                split at b5
                · rename_i cl cld D csl ql
                  have hD := of_decide_eq_true b5
                  subst hD
                  exact ⟨cl, cld, csl, ql⟩
                · cases b5
              · show (P.main.scope.names.lookup ("super" : Str)).isSome = false
                rw [hP]
                decide +kernel
        | _ => cases b4
      | _ => cases b2
    | _ => cases b1
  · cases r2
theorem ne_of' (b : neB K = true) : NeC (mdl P w K mg base) (reA K) := by
  obtain ⟨a1, a2⟩ := He.ba b
  refine ⟨?_, of_decide_eq_true a2⟩
  split at a1
  · rename_i N t hd nid q
    obtain ⟨b1, b2⟩ := He.ba a1
    obtain ⟨b3, b4⟩ := He.ba b2
    obtain ⟨b5, b6⟩ := He.ba b4
    have b1 := of_decide_eq_true b1
    subst b1
    obtain ⟨nm, qn, bs, sn, sub, ab, col, dd, k0, k1, k2, k3, k5, lk⟩ := excB_ok q
    exact ⟨nm, qn, N, bs, hd, sn, sub, ab, col, dd, k0, k1, k2, k3, k5, nid, lk, b3, He.eqO_ok b5, He.eqO_ok b6⟩
  · cases a1
end
end FB

set_option Elab.async false
set_option linter.all false
set_option maxRecDepth 100000
set_option maxHeartbeats 4000000
/-! FBj2: the law keeps its promise. -/
namespace FB
open PySem PySem.Spec PyProof.Rows L2
section
variable {P : Program} {w : World} {K : PySem.W.Frag} {mg : Str → Option Value} {h : Heap} {f : Addr}
abbrev ML (P : Program) (w : World) (K : PySem.W.Frag) (mg : Str → Option Value) (base : Heap) (L : Nat) : Md := lv (mdl P w K mg base) L
theorem law_facts (hP : P = PySem.Challenge.pw_fivebases_k34_whole_functions_put_in) (X : K.In h) (G : h.Ns mainGlobals mg) (hfa : mg ("law" : Str) = some (.ref f)) (e : obsK K = (He.valD fnl, true, true, true, fnCval)) :
    ∃ fd : FuncData, (∀ (s : Shared) (v : Value), BindsTo s fd ⟨[v], []⟩ [("_law_script", v)]) ∧ ∀ base : Heap, K.In base → base.Ns mainGlobals mg → FnOk P w K mg base CX0 151 f fd ["_law_script"] (spLaw K) := by
  have c : He.SaysD fal fnl K := congrArg (fun z : Al2 => z.1) e
  have xb : extraB K = true := congrArg (fun z : Al2 => z.2.1) e
  have rb : rfB K = true := congrArg (fun z : Al2 => z.2.2.1) e
  have nb : neB K = true := congrArg (fun z : Al2 => z.2.2.2.1) e
  have fc : fnC K = fnCval := congrArg (fun z : Al2 => z.2.2.2.2) e
  have ex := ex_of xb
  obtain ⟨fdLaw, FLaw⟩ := c.def_ 63 (d := dd_law) rfl
  obtain ⟨fdNext, FNext⟩ := c.def_ 59 (d := dd__law_next) rfl
  obtain ⟨fdNums, FNums⟩ := c.def_ 58 (d := dd__law_numbers) rfl
  obtain ⟨fdLet, FLet⟩ := c.def_ 60 (d := dd__law_letters) rfl
  obtain ⟨fdFun, FFun⟩ := c.def_ 61 (d := dd__law_function) rfl
  obtain ⟨fdRs, FRs⟩ := c.def_ 62 (d := dd__law_reason) rfl
  obtain ⟨fdPut, FPut⟩ := c.def_ 32 (d := dd_put) rfl
  obtain ⟨fdCd, FCd⟩ := c.def_ 30 (d := dd_check_degree) rfl
  obtain ⟨fdAdd, FAdd⟩ := c.def_ 53 (d := dd_s_add) rfl
  obtain ⟨fdEq, FEq⟩ := c.def_ 49 (d := dd_r_eq) rfl
  have hl := hfa.symm.trans (He.glo_ok X G (c.fact 39 (f := .glo "law") rfl))
  cases hl
  have gNext := He.glo_ok X G (c.fact 9 (f := .glo "_law_next") rfl)
  have gNums := He.glo_ok X G (c.fact 10 (f := .glo "_law_numbers") rfl)
  have gLet := He.glo_ok X G (c.fact 5 (f := .glo "_law_letters") rfl)
  have gFun := He.glo_ok X G (c.fact 4 (f := .glo "_law_function") rfl)
  have gRs := He.glo_ok X G (c.fact 13 (f := .glo "_law_reason") rfl)
  have gPut := He.glo_ok X G (c.fact 46 (f := .glo "put") rfl)
  have gCd := He.glo_ok X G (c.fact 24 (f := .glo "check_degree") rfl)
  have gAbs : mg "abs" = none := He.free_ok X G (c.fact 68 (f := .free "abs") rfl)
  have b := FunD.bindsA (ps := ["_law_script"]) FLaw fun _ _ _ _ _ _ us hl => match us, hl with | [_], _ => rfl
  refine ⟨fdLaw, fun s v => b s [v] rfl, fun base XB GB => ?_⟩
  have S : St (mdl P w K mg base) := st_of X G c ex
  have W4 := facts S 74
  have W5 := facts S 75
  obtain ⟨cc, cda, R⟩ := rf_of (w := w) (base := base) hP X G c rb fc
  have R4 : RfC (ML P w K mg base 74) (He.ga K "Refused") (riA K) cc cda := ⟨R.ox, R.mgC, R.fd, R.ini, R.tyI, R.code, R.file, R.cell, R.mro, R.sup, R.subV, R.stat, R.noR, R.xf, R.exm, R.noS, R.topS⟩
  have bNext : Binds K fdNext ["_law_numbers_here", "_law_many"] [] := FNext.bindsN (fun _ _ _ _ _ _ us hl => match us, hl with | [_, _], _ => rfl)
  have T4 : NxT (ML P w K mg base 74) := ⟨_, fdNext, gNext, FNext.kp, bNext, ((ok_next (P := P) (w := w) (base := base) FNext S.len).imp sp_ny).mono (show 1 ≤ 2 * 74 by decide)⟩
  have T5 : NxT (ML P w K mg base 75) := ⟨_, fdNext, gNext, FNext.kp, bNext, ((ok_next (P := P) (w := w) (base := base) FNext S.len).imp sp_ny).mono (show 1 ≤ 2 * 75 by decide)⟩
  have TN : DefT (ML P w K mg base 75) "_law_numbers" ["_law_script"] (spNums K) := ⟨_, fdNums, gNums, FNums.kp, FNums.bindsN (fun _ _ _ _ _ _ us hl => match us, hl with | [_], _ => rfl), (ok_nums (P := P) (w := w) (base := base) FNums S.len S.min S.range gAbs).mono (show 1 ≤ 2 * 75 by decide)⟩
  have TL : DefT (ML P w K mg base 75) "_law_letters" ["_law_numbers_here", "_law_n"] (spLet (ML P w K mg base 75)) := ⟨_, fdLet, gLet, FLet.kp, FLet.bindsN (fun _ _ _ _ _ _ us hl => match us, hl with | [_, _], _ => rfl), (ok_letters (M := ML P w K mg base 74) FLet T4 S.range).mono (show 2 * 74 + 1 ≤ 2 * 75 by decide)⟩
  have TF : DefT (ML P w K mg base 75) "_law_function" ["_law_numbers_here", "_law_base", "_law_most"] (spFun (ML P w K mg base 75)) := ⟨_, fdFun, gFun, FFun.kp, FFun.bindsN (fun _ _ _ _ _ _ us hl => match us, hl with | [_, _, _], _ => rfl), (ok_function (M := ML P w K mg base 74) (L := 74) (by decide) W4 T4 FFun).mono (show 2 * 74 + 1 ≤ 2 * 75 by decide)⟩
  have bRs : Binds K fdRs ["_law_f", "_law_g"] [] := FRs.bindsN (fun _ _ _ _ _ _ us hl => match us, hl with | [_, _], _ => rfl)
  have ot := ones_tb
  simp only [Bool.and_eq_true] at ot
  obtain ⟨⟨⟨⟨⟨⟨⟨⟨⟨⟨⟨⟨⟨⟨⟨⟨-, -⟩, -⟩, -⟩, -⟩, -⟩, -⟩, -⟩, -⟩, -⟩, q11⟩, q12⟩, q13⟩, q14⟩, q15⟩, q16⟩, q17⟩ := ot
  have T1 : DefT (ML P w K mg base 75) "_law_reason" ["_law_f", "_law_g"] (spRs (ML P w K mg base 75) "degree" (syD Bs.s.nm [([3], 1)]) (syD Bs.p.nm [([2, 1], 1)])) :=
    ⟨_, fdRs, gRs, FRs.kp, bRs, ok_reason (M := ML P w K mg base 74) R4 FRs FPut gPut (ok_put_deg (M := ML P w K mg base 74) (L := 74) W4 (show 3 ≤ 2 * 74 by decide) R4 FPut FCd gCd (tb_eq q11 (by decide)) (tb_eq q12 (by decide)) (by decide) (by decide) (by decide))⟩
  have T2 : DefT (ML P w K mg base 75) "_law_reason" ["_law_f", "_law_g"] (spRs (ML P w K mg base 75) "constant" (syD Bs.h.nm [([1], 1)]) (syD Bs.e.nm [([], 1), ([1], 1)])) :=
    ⟨_, fdRs, gRs, FRs.kp, bRs, ok_reason (M := ML P w K mg base 74) R4 FRs FPut gPut (ok_put_con (M := ML P w K mg base 74) (L := 74) W4 (show 3 ≤ 2 * 74 by decide) R4 FPut (tb_eq q13 (by decide)) (tb_eq q14 (by decide)) (by decide) (by decide) (cd_val (by decide) (by decide) (by decide)) (tb_eq q15 (by decide)) (tb_eq q16 (by decide)) (tb_eq q17 (by decide)))⟩
  have SA : OpS (mdl P w K mg base) 1 .Add (inClass (top 59) 3) ["self", "other"] := opS_of (x := "Symmetric") rfl (c.fact 91 (f := .meth "Symmetric" "__add__") rfl) ex.sy FAdd (FAdd.bindsN (fun _ _ _ _ _ _ us hl => match us, hl with | [_, _], _ => rfl))
  have OA : OpAt (ML P w K mg base 75) 1 .Add (Φ 75 .s_add) := opAt1 (L := 74) SA sc_s_add rfl (b_s_add W4) rfl
  have FE0 := (fn_body (M := ML P w K mg base 74) FEq sc_r_eq (b_r_eq W4)).imp (sp_imp (g := Φ (74 + 1) .r_eq) fun ds d e => (oper_some (show oper 0 (Φ 74) i_r_eq n_r_eq ds = some d from e)).2)
  have NE := ne_of' (P := P) (w := w) (mg := mg) (base := base) nb
  have NE5 : NeC (ML P w K mg base 75) (reA K) := ⟨NE.cls, NE.ty⟩
  exact ok_law (M := ML P w K mg base 75) (L := 75) (by decide) W5 OA T5 TN TL TF T1 T2 NE5 (FEq.bindsN (fun _ _ _ _ _ _ us hl => match us, hl with | [_, _], _ => rfl)) FE0 rfl FLaw
end
end FB

set_option Elab.async false
set_option linter.all false
set_option maxRecDepth 100000
set_option maxHeartbeats 0
/-! FBend: the row holds. -/
open PySem PySem.W PySem.Calls PyProof.Rows
theorem PySem.Challenge.cw_fivebases_k34_whole_functions_put_in_holds : PySem.Challenge.rw_fivebases_k34_whole_functions_put_in.Holds := by
  w_on; o_law
  refine HandSHeadRun.head_imp (r := OpenLaw.row PySem.Challenge.rw_fivebases_k34_whole_functions_put_in) (q := view (OpenLaw.row PySem.Challenge.rw_fivebases_k34_whole_functions_put_in).prog [0, 83]) (H := FB.hk) (ob := FB.ob) (M := 20000) (loose := FB.loose)
    (d := HandSHeadRun.topDef (OpenLaw.row PySem.Challenge.rw_fivebases_k34_whole_functions_put_in).prog 83) (kwd := []) FB.ob_eq FB.run
    (by kernel_rfl) (by kernel_rfl) (by kernel_rfl) (by rfl) (by first | assumption | decide +kernel) (by decide +kernel) ⟨rfl, rfl, rfl, rfl, rfl, by decide +kernel⟩ ?hw ?hc
  case hw => w_witness2
  case hc =>
    refine L2.walk_ofE (l := PySem.Challenge.rw_fivebases_k34_whole_functions_put_in) (n := 63) (k := 151) (x := "_law_script") (CX := L2.CX0) rfl (by decide) (by kernel_rfl) ⟨rfl, by decide, by decide⟩ ?F (fun _ _ _ _ z => z)
    intro w mg fa h Y G hmg0
    obtain ⟨K, KX, c⟩ := Y
    have hmg : mg ("law" : PySem.Str) = some (.ref fa) := by
      have e : (HandSHeadRun.topDef (OpenLaw.row PySem.Challenge.rw_fivebases_k34_whole_functions_put_in).prog 83).name = ("law" : PySem.Str) := by kernel_rfl
      rw [← e]
      exact hmg0
    obtain ⟨fd, hb, hF⟩ := FB.law_facts (P := (PySem.Challenge.rw_fivebases_k34_whole_functions_put_in).prog) (w := w) rfl KX G hmg c
    exact ⟨K, fd, FB.spLaw K, KX, hb, fun H a ns hl _ hS => ⟨a, ns, rfl, hl, hS, fun _ => rfl⟩, hF⟩

