import PyProof.Rows.All
import Wide.All
import OpenK.AllK
import Wide.FinOn
import HandS.ForMost
import PyProof.CollectIter
import HandS.Lambda
import PyProof.NeKinds
import PyProof.DictUpdate
import HandS.Zip0
import KE.KDictZip
import HandS.MapObj
import PyProof.Rows.CallKwBuiltin
import PyProof.ListNew
import PyProof.Rows.CallKw2
import HandS.SetKeys
import HandS.SetBool
import HandS.HeadHook4
import HandS.Defaults
import HandS.WideBits
import HandS.IsInst
import HandS.Style
import HandS.TupAny
import HandS.Conv
import HandS.Codes
import HandS.NoneIn
import HandS.Deep
import HandS.DictComp
import HandS.Walk
import KE.BitLaws
import KE.KStateDown
import HandS.Head0
import HandS.Head1
import HandS.Head2
import HandS.HeadEnd
import HandS.HeadHook1
import HandS.HeadHook2
import HandS.HeadHook3
import HandS.HeadWalk
import PySem.Challenge.RW_wiretongue_k71_whole_another_in_of_one_c
set_option Elab.async false
set_option linter.all false
set_option maxRecDepth 100000
set_option maxHeartbeats 2000000
/-! A star target behind one plain one: word, *rest = a tuple. -/
namespace WT
open PySem PySem.Spec PyProof.Rows L2
section
variable {prog : Program} {w : World} {A : Around} {E : Value → Shared → Prop} {s : Shared}
theorem walks_drop {I : Addr} {fp wr : List Addr} {n : Nat} {P : Nat → Value → Prop} {St : Nat → Heap → Prop} (W : Walks prog w A I fp wr (n + 1) P St) :
    Walks prog w A I fp wr n (fun i => P (i + 1)) (fun i => St (i + 1)) where
  sub := W.sub
  frame := fun i => W.frame (i + 1)
  item := fun i s Q E hi st hQ => W.item (i + 1) s Q E (by omega) st hQ
  done := fun s Q E st hQ => W.done s Q E st hQ
  self := fun i s Q E st hQ => W.self (i + 1) s Q E st hQ
theorem unpack_star1 {t : Addr} {x : Value} {xs : List Value} {Q : List Value → Shared → Prop} (hh : A.handled = none) (ht : IsTup s.heap t (x :: xs).toArray) (hn : xs.length ≤ sizeLine)
    (hQ : ∀ (h' : Heap) (tk : Nat), (∀ b o, s.heap.get? b = some o → h'.get? b = some o) →
      Q [x, .ref h'.objs.size] { s with heap := h'.push { cls := .type "list", data := .seq xs.toArray }, toks := tk }) : wpAny (model prog w) A (unpackItems (.ref t) 2 (some 1)) Q E s := by
  have hti : s.heap.IsTuple t (x :: xs).toArray := ht
  have hlt : t ≠ s.heap.objs.size := by obtain ⟨o, ho, _⟩ := hti; exact Nat.ne_of_lt (Heap.lt_size ho)
  unfold unpackItems
  refine wpAny_bind ?_
  unfold notIterableAtAll
  refine wpAny_bind (wpAny_specialOf hti.typeIs F.slot_tuple_iter.lookup ?_)
  refine wpAny_pure ?_
  simp only [Bool.false_eq_true, if_false]
  refine wpAny_bind (wpAny_holding (wpAny_pyIter_tuple hti ?_))
  refine wpAny_bind (wpAny_holding (wpAny_draw_tuple hlt 1 0 _ _ ⟨_, Heap.get?_push_size _ rfl, rfl, rfl⟩ (hti.push _) (by simp) fun h1 hit1 hs1 => ?_))
  have e0 : List.take 1 (List.drop 0 ((x :: xs).toArray).toList) = [x] := by simp
  rw [e0]
  rw [if_neg (by simp)]
  have hti1 : h1.IsTuple t (x :: xs).toArray := (hti.push _).extBut hs1.extBut hlt
  have W0 := Walks.tuple (prog := prog) (w := w) (A := A.in1) hh s.heap.objs.size t hlt (x :: xs).toArray
  have hsz : (x :: xs).toArray.size = xs.length + 1 := by simp
  rw [hsz] at W0
  have W := (walks_drop W0).toS
  have hs1z : h1.objs.size = s.heap.objs.size + 1 := by rw [hs1.1, Heap.size_push]
  refine wpAny_bind (wpAny_holding (wpAny_collect_iter (T := "tuple_iterator") (.inr (.inr (.inr rfl))) W (fun i s st => st.1.typeIs) ⟨hit1, hti1⟩ (fun b hb => ?_) (by simp) (fun s' acc hm hacc => ?_) hn))
  · have hb' : b = s.heap.objs.size ∨ b = t := by simpa using hb
    show b < h1.objs.size
    rcases hb' with rfl | rfl
    · rw [hs1z]
      exact Nat.lt_succ_self _
    · obtain ⟨o, ho, _⟩ := hti1
      exact Heap.lt_size ho
  · have ea : acc.toList = xs := by
      apply List.ext_getElem?
      intro j
      have hl : acc.toList.length = xs.length := by rw [Array.length_toList]; exact hacc.1
      cases hj : acc.toList[j]? with
      | none =>
        have := List.getElem?_eq_none_iff.mp hj
        rw [List.getElem?_eq_none (by omega)]
      | some v =>
        have := hacc.2 j v (by rw [← Array.getElem?_toList]; exact hj)
        have q : (x :: xs)[j + 1]? = some v := by simpa using this
        rw [← q, List.getElem?_cons_succ]
    rw [ea]
    rw [if_neg (by omega)]
    refine wpAny_bind (wpAny_newObj_type ?_ (by show (List.take (xs.length - (2 - 1 - 1)) xs).toArray.size ≤ sizeLine; simpa using hn))
    refine wpAny_pure ?_
    obtain ⟨hp', g', d', tk', os'⟩ := s'
    have hg : g' = s.gens := hm.gens
    have hd : d' = s.drawn := hm.drawn
    have ho : os' = s.os := hm.os
    subst hg hd ho
    have kk : ∀ b o, s.heap.get? b = some o → hp'.get? b = some o := fun b o e => by
      have nb : b ≠ s.heap.objs.size := Nat.ne_of_lt (Heap.lt_size e)
      refine hm.heap b o (by simpa using nb) ?_
      exact hs1.extBut b o nb (Heap.get?_push_of_some _ e)
    have := hQ hp' tk' kk
    simpa using this
end
/-- name, *name = a tuple: the rest is a new list -/
def gStar (K : PySem.W.Frag) (t : TGs) : TG := fun v σ H Q => ∃ a x xs, v = .ref a ∧ SqT K H a (x :: xs) ∧ ∀ p, H p = none → t [x, .ref p] σ (upd H p (.lst xs)) Q
theorem pg_star {X : Cx} {es : List Expr} {e1 e2 : Expr} {k : Nat} {pos : Pos} {t : TGs} (hc : X.calm = true) (h : PGs X [e1, e2] t)
    (he : assignEach es X.env = [(false, assign e1 X.env), (true, assign e2 X.env)] := by rfl) (h1 : (assignEach [e1, e2] X.env).map (·.2) = [assign e1 X.env, assign e2 X.env] := by rfl) : PG X (.Tuple es k pos) (gStar X.K t) := by
  refine ⟨fun pins s σ H v u Q I r hw => ?_⟩
  obtain ⟨a, x, xs, e0, hq, hw⟩ := hw
  subst e0
  cases r
  obtain ⟨its, rv, ht, hz⟩ := I.tuple hq
  cases rv with
  | @cons _ u1 _ us r1 rr =>
    rw [PyProof.Rows.assign_Tuple, he]
    refine wpAny_bind (wpAny_standAt ?_)
    unfold unpack
    have hl : us.length ≤ sizeLine := by
      rw [← rr.length]
      simp only [List.length_cons] at hz
      omega
    refine wpAny_bind (wpAny_holding (unpack_star1 (I.ok.hd hc) ht hl fun h' tk kk => ?_))
    have I1 : Inv X pins σ H { s with heap := h', toks := tk } := I.kept kk
    have hf : H h'.objs.size = none := I1.hok.fresh (Nat.le_refl _)
    have I2 : Inv X pins σ (upd H h'.objs.size (.lst xs)) { s with heap := h'.push { cls := .type "list", data := .seq us.toArray }, toks := tk } :=
      I1.laid (t' := tk) (fun b o e => Heap.get?_push_of_some _ e) (Nat.le_refl _) (show ObjOk X.prog X.w _ _ _ (.lst xs) from ⟨by rw [rr.length]; exact hl, us, 0, rr, Heap.get?_push_size _ rfl⟩)
    have q := h.run pins _ σ (upd H h'.objs.size (.lst xs)) [x, .ref h'.objs.size] [u1, .ref h'.objs.size] Q I2 (.cons r1 (.cons rfl .nil)) (hw _ hf)
    rw [h1] at q
    exact q
end WT

set_option Elab.async false
set_option linter.all false
set_option maxRecDepth 100000
set_option maxHeartbeats 4000000
/-! A lambda of one parameter that captures one name, tracked in the abstract heap while it is handed on: the function object and the cell are known by their objects. -/
namespace WT
open PySem PySem.Spec PyProof.Rows L2
/-- the very object at b -/
def ObO (b : Addr) (o : Obj) : HO := .ext fun h => h.get? b = some o
/-- b is tracked no more -/
def unt (H : Hp) (b : Addr) : Hp := fun a => if a = b then none else H a
theorem unt_same {H : Hp} {b : Addr} : unt H b b = none := if_pos rfl
theorem unt_ne {H : Hp} {a b : Addr} (h : a ≠ b) : unt H b a = H a := if_neg h
theorem unt_some {H : Hp} {a b : Addr} {o : HO} (h : unt H b a = some o) : a ≠ b ∧ H a = some o := by
  by_cases e : a = b
  · rw [e, unt_same] at h
    cases h
  · rw [unt_ne e] at h
    exact ⟨e, h⟩
theorem obO_ok {P : Program} {w : World} {H : Hp} {h : Heap} {b : Addr} {o : Obj} (e : h.get? b = some o) : ObjOk P w H h b (ObO b o) := ⟨e, ⟨o, e⟩, fun _ _ e1 k => k o e1⟩
theorem obO_get {P : Program} {w : World} {H : Hp} {h : Heap} {b : Addr} {o : Obj} (x : HOk P w H h) (e : H b = some (ObO b o)) : h.get? b = some o := (x b _ e).1
section
variable {P : Program} {w : World} {K : PySem.W.Frag} {mg : Str → Option Value} {base : Heap} {A : Around} {outer : List Env} {s s' : Shared} {H : Hp} {b : Addr} {o : Obj} {Q : VK} {u : Value}
theorem hok_track {h : Heap} (x : HOk P w H h) (e : h.get? b = some o) (n : H b = none) : HOk P w (upd H b (ObO b o)) h := fun a v q => by
  by_cases hab : a = b
  · rw [hab, upd_same] at q
    cases q
    rw [hab]
    exact obO_ok e
  · rw [upd_ne hab] at q
    exact (x a v q).stay (fun _ _ _ z => z) (fun c z => by rw [upd_ne (ne_of_none z n)]; exact z) fun c ys z => by rw [upd_ne (ne_of_none z n)]; exact z
theorem hok_unt {h : Heap} (x : HOk P w H h) (e : H b = some (ObO b o)) : HOk P w (unt H b) h := fun a v q => by
  obtain ⟨hab, q⟩ := unt_some q
  exact (x a v q).stay (fun _ _ _ z => z) (fun c z => by rw [unt_ne (ne_of z e (fun y => by cases y))]; exact z) fun c ys z => by rw [unt_ne (ne_of z e (fun y => by cases y))]; exact z
theorem env0_track (e0 : Env0 P w K mg base A outer s H) (e : s.heap.get? b = some o) (n : H b = none) (hb : b ∉ frs outer) (nb : base.get? b = none) : Env0 P w K mg base A outer s (upd H b (ObO b o)) :=
  ⟨e0.frames, e0.mod, fun a v q => ⟨(e0.bs a v q).1, by
      rw [upd_ne (fun z => by rw [z, nb] at q; cases q)]
      exact (e0.bs a v q).2⟩, e0.bsz, e0.funs, fun a ha => by
      rw [upd_ne (fun z => hb (by rw [← z]; exact ha))]
      exact e0.frf a ha, hok_track e0.hok e n, e0.bare⟩
theorem env0_unt (e0 : Env0 P w K mg base A outer s H) (e : H b = some (ObO b o)) : Env0 P w K mg base A outer s (unt H b) :=
  ⟨e0.frames, e0.mod, fun a v q => ⟨(e0.bs a v q).1, by
      by_cases z : a = b
      · rw [z]
        exact unt_same
      · rw [unt_ne z]
        exact (e0.bs a v q).2⟩, e0.bsz, e0.funs, fun a ha => by
      by_cases z : a = b
      · rw [z]
        exact unt_same
      · rw [unt_ne z]
        exact e0.frf a ha, hok_unt e0.hok e, e0.bare⟩
/-- a call's end, with b tracked within the call alone -/
theorem ce_unt (e : s.heap.get? b = some o) (n : H b = none) (h : CE outer P w (upd H b (ObO b o)) s (fun v H2 => H2 b = some (ObO b o) ∧ Q v (unt H2 b)) u s') : CE outer P w H s Q u s' := by
  obtain ⟨v, H2, os, bare, un, hok, r, hb, q⟩ := h
  have e2 : s'.heap.get? b = some o := obO_get hok hb
  have up : ∀ a, a ≠ b → H a = none → upd H b (ObO b o) a = none := fun a z y => by rw [upd_ne z]; exact y
  have us : ∀ a x, H a = some x → upd H b (ObO b o) a = some x := fun a x y => by rw [upd_ne (ne_of_none y n)]; exact y
  refine ⟨v, unt H2 b, os, bare, ⟨fun a x g y f1 f2 => ?_, fun a x g y f1 f2 => ?_, fun a x g y f1 => ?_, fun a x g f1 => un.there a x g f1, fun a ys y => ?_, fun a x z y => ?_, fun a ps y => ?_⟩, hok_unt hok hb, r, q⟩
  · by_cases z : a = b
    · rw [z] at g ⊢
      rw [e] at g
      cases g
      exact e2
    · exact un.keep a x g (up a z y) f1 f2
  · by_cases z : a = b
    · rw [z] at g ⊢
      rw [e] at g
      cases g
      exact ⟨o.slots, e2⟩
    · exact un.slot a x g (up a z y) f1 f2
  · by_cases z : a = b
    · rw [z]
      exact unt_same
    · rw [unt_ne z]
      exact un.free a x g (up a z y) f1
  · rw [unt_ne (ne_of_none y n)]
    exact un.tups a ys (us a _ y)
  · rw [unt_ne (ne_of_none y n)]
    exact un.frzs a x z (us a _ y)
  · obtain ⟨m, z⟩ := un.tbls a ps (us a _ y)
    exact ⟨m, by rw [unt_ne (ne_of_none y n)]; exact z⟩
/-- a call's end, with b hidden within the call -/
theorem ce_back (e : s.heap.get? b = some o) (hb : H b = some (ObO b o)) (nb : b ∉ frs outer) (h : CE outer P w (unt H b) s (fun v H2 => H2 b = none → Q v (upd H2 b (ObO b o))) u s') : CE outer P w H s Q u s' := by
  obtain ⟨v, H2, os, bare, un, hok, r, q⟩ := h
  have e2 : s'.heap.get? b = some o := un.keep b o e unt_same nb (by simp)
  have n2 : H2 b = none := un.free b o e unt_same (by simp)
  have nn : ∀ a, H a = none → a ≠ b := fun a y z => by rw [z, hb] at y; cases y
  have up : ∀ a, H a = none → unt H b a = none := fun a y => by rw [unt_ne (nn a y)]; exact y
  refine ⟨v, upd H2 b (ObO b o), os, bare, ⟨fun a x g y f1 f2 => un.keep a x g (up a y) f1 f2, fun a x g y f1 f2 => un.slot a x g (up a y) f1 f2, fun a x g y f1 => ?_, fun a x g f1 => un.there a x g f1, fun a ys y => ?_, fun a x z y => ?_, fun a ps y => ?_⟩, hok_track hok e2 n2, r, q n2⟩
  · rw [upd_ne (nn a y)]
    exact un.free a x g (up a y) f1
  · have z := ne_of y hb (fun t => by cases t)
    rw [upd_ne z]
    exact un.tups a ys (by rw [unt_ne z]; exact y)
  · have t := ne_of y hb (fun t => by cases t)
    rw [upd_ne t]
    exact un.frzs a x z (by rw [unt_ne t]; exact y)
  · have t := ne_of y hb (fun t => by cases t)
    obtain ⟨m, z⟩ := un.tbls a ps (by rw [unt_ne t]; exact y)
    exact ⟨m, by rw [upd_ne t]; exact z⟩
end
/-! ### the lambda is called -/
/-- the names of the lambda: its parameter, the captured name -/
structure Lam1 (scope : Scope) (x y : Str) : Prop where
  kind : scope.kind = .function
  co : scope.isCoroutine = false
  gen : scope.isGenerator = false
  names : scope.names = [(x, .local), (y, .free)]
  ne : x ≠ y
/-- the context of its body, entered at s -/
def lamX (P : Program) (w : World) (K : PySem.W.Frag) (mg : Str → Option Value) (base : Heap) (x y q : Str) (scope : Scope) (f c c' : Addr) (A : Around) (outer : List Env) (s : Shared) (H : Hp) : Cx where
  prog := P
  w := w
  K := K
  mg := mg
  base := base
  A := A.deeper (PySem.W.envX q scope s.heap.objs.size f (.ref c') [(y, c)])
  N := [x, y]
  s_0 := s
  H_0 := H
  env := PySem.W.envX q scope s.heap.objs.size f (.ref c') [(y, c)]
  outer := outer
  stack := PySem.W.envX q scope s.heap.objs.size f (.ref c') [(y, c)] :: outer
  ex := []
  fn := fun _ => false
  calm := true
  pn := []
  xe := fun _ _ => False
section
variable {P : Program} {w : World} {K : PySem.W.Frag} {mg : Str → Option Value} {base : Heap} {A : Around} {outer : List Env} {s s' : Shared} {H : Hp} {x y q : Str} {scope : Scope} {f c c' z : Addr} {v : V} {u : Value} {h1 : Heap} {tk : Nat} {o : Obj}
theorem lookup1 {a : Str} {n : Addr} {t : Str} (h : [(a, n)].lookup t = some c) : t = a ∧ c = n := by
  by_cases e : t = a
  · have hb : (t == a) = true := beq_iff_eq.mpr e
    simp only [List.lookup, hb] at h
    exact ⟨e, (Option.some.inj h).symm⟩
  · have hb : (t == a) = false := beq_eq_false_iff_ne.mpr e
    simp only [List.lookup, hb] at h
    cases h
theorem lookup1_self {a : Str} {n : Addr} : [(a, n)].lookup a = some n := by
  have hb : (a == a) = true := beq_iff_eq.mpr rfl
  simp only [List.lookup, hb]
theorem lam_start (L : Lam1 scope x y) (e0 : Env0 P w K mg base A outer s H) (hd : A.handled = none) (hc : s.heap.get? c = some o) (ho : o.data = .cell (some (.ref z))) (nc : H c = none) (r : RelV v u)
    (hns : h1.Ns s.heap.objs.size fun n => [(x, u)].reverse.lookup n) (kp : ∀ b o, s.heap.get? b = some o → h1.get? b = some o) :
    Inv (lamX P w K mg base x y q scope f c c' A outer s H) [] [some v, some (.ref z)] H { s with heap := h1, toks := tk } := by
  have kx : scope.names.lookup x = some .local := by
    rw [L.names]
    have hb : (x == x) = true := beq_iff_eq.mpr rfl
    simp only [List.lookup, hb]
  have ky : scope.names.lookup y = some .free := by
    rw [L.names]
    have hb : (y == x) = false := beq_eq_false_iff_ne.mpr (Ne.symm L.ne)
    have hb2 : (y == y) = true := beq_iff_eq.mpr rfl
    simp only [List.lookup, hb, hb2]
  have kind_of : ∀ t k, scope.names.lookup t = some k → (t = x ∧ k = .local) ∨ (t = y ∧ k = .free) := fun t k e => by
    rw [L.names] at e
    have m := PySem.mem_of_lookup e
    simp only [List.mem_cons, List.not_mem_nil, or_false, Prod.mk.injEq] at m
    exact m
  have lc : s.heap.IsCell c (some (.ref z)) := ⟨o, hc, ho⟩
  have lc1 : h1.IsCell c (some (.ref z)) := ⟨o, kp _ _ hc, ho⟩
  have noA : ∀ b : Addr, b ∉ (lamX P w K mg base x y q scope f c c' A outer s H).ex := fun b t => absurd (show b ∈ ([] : List Addr) from t) (by simp)
  refine ⟨⟨e0.mod, L.kind, rfl, rfl, Nat.le_refl _, fun a b d e1 e2 => ?_, fun a ha => ?_, fun a d t _ => ?_, fun _ => hd, Around.frames_deeper e0.frames, .inr ⟨rfl, rfl⟩, fun b t => absurd t (noA b), e0.bs, e0.bsz, fun b _ _ => noA b, fun b t => absurd t (noA b), e0.funs, e0.frf⟩,
    rfl, e0.bare, Un.kept kp, ⟨_, hns, fun i a t e1 e2 e3 => ?_⟩, fun a d e => ?_, e0.hok.fresh (Nat.le_refl _), fun a d e => ?_, fun p hp => absurd (show p ∈ ([] : List (Addr × Obj)) ++ [] from hp) (by simp), e0.hok.kept kp, rfl⟩
  · exact (lookup1 (show [(y, c)].lookup a = some d from e1)).1.trans (lookup1 (show [(y, c)].lookup b = some d from e2)).1.symm
  · have ha : scope.names.lookup a = some .cell ∨ scope.names.lookup a = some .free := ha
    rcases ha with ha | ha
    · rcases kind_of _ _ ha with ⟨_, t⟩ | ⟨_, t⟩ <;> cases t
    · rcases kind_of _ _ ha with ⟨_, t⟩ | ⟨t, _⟩
      · cases t
      · rw [t]
        exact ⟨c, lookup1_self⟩
  · exact absurd (show false = true from t) Bool.false_ne_true
  · have e1 : [x, y][i]? = some a := e1
    match i, e1, e2 with
    | 0, e1, e2 =>
      cases e1
      cases e2
      refine ⟨u, r, .inl ⟨kx, ?_⟩⟩
      show [(x, u)].lookup x = some u
      have hb : (x == x) = true := beq_iff_eq.mpr rfl
      simp only [List.lookup, hb]
    | 1, e1, e2 =>
      cases e1
      cases e2
      exact ⟨.ref z, rfl, .inr ⟨.inr ky, c, lookup1_self, lc1⟩⟩
    | i + 2, e1, e2 => cases e1
  · obtain ⟨_, rfl⟩ := lookup1 (show [(y, c)].lookup a = some d from e)
    exact ⟨_, lc1⟩
  · obtain ⟨_, rfl⟩ := lookup1 (show [(y, c)].lookup a = some d from e)
    exact nc
/-- what the lambda is, where it is tracked: at f; its cell c holds the object at z -/
structure LamAt (H : Hp) (params : Arguments) (body : Expr) (scope : Scope) (q y : Str) (f c z : Addr) (o : Obj) : Prop where
  fn : ∃ (pm ctv : Value) (c' : Addr), H f = some (ObO f (PySem.W.kla_obj "<lambda>" q params body scope [(y, c)] pm c' ctv)) ∧ H c' = some (LamX.CodeO c' q)
  cell : H c = some (ObO c o)
  data : o.data = .cell (some (.ref z))
theorem lam_call {params : Arguments} {body : Expr} {k : Nat} {t : TE} {Q : VK} (L : Lam1 scope x y) (hr : Room (k + 1) A) (e0 : Env0 P w K mg base A outer s H) (r : RelV v u) (hl : LamAt H params body scope q y f c z o)
    (hbind : ∀ pm cv ctv : Value, bindArgs (PySem.W.kla_fn "<lambda>" q params body scope [(y, c)] pm cv ctv) ⟨[u], []⟩ = pure [(x, u)])
    (hbody : ∀ (f c' : Addr) (s : Shared) (H : Hp), Room k (A.deeper (PySem.W.envX q scope s.heap.objs.size f (.ref c') [(y, c)])) → PE (lamX P w K mg base x y q scope f c c' A outer s H) body t)
    (ht : t [some v, some (.ref z)] (unt H c) fun v H2 => H2 c = none → Q v (upd H2 c (ObO c o))) : codeAny (model P w) A (.call (.ref f) ⟨[u], []⟩) (CR CX0 outer P w H s Q E0) s := by
  obtain ⟨⟨pm, ctv, c', hf, hco⟩, hc, hd⟩ := hl
  have of1 := obO_get e0.hok hf
  have oc1 := obO_get e0.hok hc
  obtain ⟨⟨oc, vs, tq, hoc, hdc, hvc⟩, _, _⟩ := e0.hok c' _ hco
  have lim : s.heap.NoLimit := e0.mod.nolimit.keeps fun b o e => (e0.bs b o e).1
  have ncf : c ∉ frs outer := fun m => by
    have z := e0.frf c m
    rw [hc] at z
    cases z
  refine PySem.W.kla_callFunE hr.depth of1 rfl L.co L.gen rfl ⟨c', oc, vs, tq, rfl, hoc, hdc, hvc⟩ ?_
  rw [hbind]
  refine wpAny_pure (wpAny_newFunctionEnv (fun p hp => ?_) (fun p hp => ?_) (fun h1 hns hsb => ⟨lim.fresh _ hsb, ?_⟩) L.kind)
  · rw [L.names] at hp
    simp only [List.mem_cons, List.not_mem_nil, or_false] at hp
    rcases hp with e | e <;> (rw [e]; intro z; cases z)
  · have e : p = (x, u) := by simpa using hp
    rw [e, L.names]
    have hb : (x == x) = true := beq_iff_eq.mpr rfl
    simp only [List.lookup, hb]
  · show codeAny _ _ (.expr body (PySem.W.envX q scope s.heap.objs.size f (.ref c') [(y, c)])) _ _
    have kp : ∀ b o, s.heap.get? b = some o → h1.get? b = some o := fun b o e => hsb.extBut b o (Nat.ne_of_lt (Heap.lt_size e)) (Heap.get?_push_of_some _ e)
    have J : Inv (lamX P w K mg base x y q scope f c c' A outer s (unt H c)) [] [some v, some (.ref z)] (unt H c) { s with heap := h1, toks := s.toks + [(x, u)].length } :=
      lam_start L (env0_unt e0 hc) hr.hd oc1 hd unt_same r hns kp
    refine PySem.W.kla_codeExpr (wpAny_mono ((hbody f c' s (unt H c) (hr.deeper _)).run [] _ _ _ _ J ht) (fun a s' hq => ?_) fun e s' hq => False.elim hq)
    obtain ⟨w', H', J', rv, q'⟩ := hq
    exact ce_back oc1 hc ncf ⟨w', H', J'.os, J'.bare, J'.base, J'.hok, rv, q'⟩
/-! ### the lambda is made, and handed to a def of the text -/
/-- the lambda is made: where its function object and its cell stand -/
theorem lam_new {X : Cx} {pins : List (Addr × Obj)} {σ : L2.St} {H : Hp} {s : Shared} {c P : Addr} {ql : Str} {params : Arguments} {body : Expr} {scope : Scope} {pos : Pos} {E : Value → Shared → Prop} {Q : Value → Shared → Prop} (I : Inv X pins σ H s) (TB : LamX.TabB X.base X.mg c P) (hcode : X.env.code = .ref c)
    (hq : ql = X.env.qual ++ "<lambda>") (hT : LamX.TabS H P ql) (hdef : defaultsOf params X.env = ([], [])) (hfree : ∀ y ∈ scope.names, y.2 = .free → ∃ c, X.env.cells.lookup y.1 = some c)
    (h : ∀ (f c1 : Addr) (pm ctv : Value) (H1 : Hp) (s1 : Shared), Inv X pins σ H1 s1 → (∀ b o, H b = some o → b ≠ P → H1 b = some o) → LamX.TabS H1 P ql →
      s1.heap.get? f = some (PySem.W.kla_obj "<lambda>" ql params body scope (cloFrom X.env.cells scope.names []) pm c1 ctv) → H1 f = none → f ∉ frs X.stack → X.base.get? f = none → H1 c1 = some (LamX.CodeO c1 ql) → Q (.ref f) s1) :
    wpAny (model X.prog X.w) X.A (eval (.Lambda params body scope pos) X.env) Q E s := by
  subst hq
  obtain ⟨ps, hP, ok, among⟩ := hT
  have atP : s.heap.get? P = some { cls := .none, data := .fields ps } := I.hok P _ hP
  have away : ∀ f, s.heap.objs.size ≤ f → f ∉ frs X.stack ∧ X.base.get? f = none := fun f hf => by
    refine ⟨fun z => ?_, ?_⟩
    · have z := I.stkSub _ z
      simp only [List.mem_cons] at z
      rcases z with e | e
      · have l := I.lt
        rw [← e] at l
        exact absurd (Nat.lt_of_lt_of_le l hf) (Nat.lt_irrefl _)
      · exact I.nofs hf e
    · cases q : X.base.get? f with
      | none => rfl
      | some o => exact absurd (Nat.lt_of_lt_of_le (Heap.lt_size (I.bk f o q)) hf) (Nat.lt_irrefl _)
  refine PySem.W.kla_eval hdef ?_
  cases hc : codeAmong pos ps.toList with
  | some cv =>
    obtain ⟨c1, e, hco⟩ := among pos cv hc
    subst e
    refine PySem.W.kla_makeFunctionHit (mg := X.mg) (c := c) (P := P) (ps := ps) (closure_ok hfree) I.ok.glob (I.mod.glob.keeps I.bk) hcode (TB.code.keeps I.bk) atP ok hc (TB.bm.keeps I.bk) fun ctv h2 tk kp hsz => ?_
    have I2 := I.kept (h' := h2.push (PySem.W.kla_obj "<lambda>" (X.env.qual ++ "<lambda>") params body scope (cloFrom X.env.cells scope.names []) ((X.mg "__name__").getD .none) c1 ctv)) (t' := tk) fun b o e => Heap.get?_push_of_some _ (kp b o e)
    exact h h2.objs.size c1 _ ctv H _ I2 (fun b o e _ => e) ⟨ps, hP, ok, among⟩ (Heap.get?_push_size _ rfl) (I.hok.fresh hsz) (away _ hsz).1 (away _ hsz).2 hco
  | none =>
    refine PySem.W.kla_makeFunction (mg := X.mg) (c := c) (P := P) (ps := ps) (closure_ok hfree) I.ok.glob (I.mod.glob.keeps I.bk) hcode (TB.code.keeps I.bk) atP ok hc TB.gP (TB.bm.keeps I.bk) fun c1 ctv h2 tk hx hge hlt hrec htb => ?_
    obtain ⟨c2, oc, vs, t, e2, hoc, hd, hv⟩ := hrec
    cases e2
    have hsz : s.heap.objs.size ≤ h2.objs.size := Nat.le_trans hge (Nat.le_of_lt hlt)
    have nC : H c1 = none := I.hok.fresh hge
    have nPc : P ≠ c1 := ne_of_none hP nC
    have I1 := LamX.inv_table (t' := tk) (more := #[rawInt pos.line, rawInt pos.col, .ref c1]) (h' := h2.push (PySem.W.kla_obj "<lambda>" (X.env.qual ++ "<lambda>") params body scope (cloFrom X.env.cells scope.names []) ((X.mg "__name__").getD .none) c1 ctv)) I hP
      (fun b o hb e => Heap.get?_push_of_some _ (hx b o hb e)) (Heap.get?_push_of_some _ htb) hge ⟨oc, vs, t, Heap.get?_push_of_some _ hoc, hd, hv⟩
    have keep : ∀ b o, H b = some o → b ≠ P → upd (upd H P (.tbl (ps ++ #[rawInt pos.line, rawInt pos.col, .ref c1]))) c1 (LamX.CodeO c1 (X.env.qual ++ "<lambda>")) b = some o := fun b o e nb => by
      rw [upd_ne (ne_of_none e nC), upd_ne nb]
      exact e
    have eL : (ps ++ #[rawInt pos.line, rawInt pos.col, .ref c1]).toList = ps.toList ++ [rawInt pos.line, rawInt pos.col, .ref c1] := by simp
    refine h h2.objs.size c1 _ ctv _ _ I1 keep ⟨_, by rw [upd_ne nPc, upd_same], by rw [eL]; exact PySem.TriplesOk_snoc _ _ _ _ ok, fun p2 cv hcv => ?_⟩ (Heap.get?_push_size _ rfl) ?_ (away _ hsz).1 (away _ hsz).2 upd_same
    · rw [eL] at hcv
      rcases LamX.among_app _ ok hcv with z | z
      · obtain ⟨c0, e1, e3⟩ := among p2 cv z
        refine ⟨c0, e1, keep _ _ e3 fun y => ?_⟩
        rw [y, hP] at e3
        exact LamX.codeO_ne _ (Option.some.inj e3).symm
      · exact ⟨c1, z, upd_same⟩
    · have n1 : h2.objs.size ≠ c1 := Nat.ne_of_gt hlt
      have n2 : h2.objs.size ≠ P := Nat.ne_of_gt (Nat.lt_of_lt_of_le (Heap.lt_size atP) hsz)
      rw [upd_ne n1, upd_ne n2]
      exact I.hok.fresh hsz
end
end WT

set_option Elab.async false
set_option linter.all false
set_option maxRecDepth 100000
set_option maxHeartbeats 4000000
namespace WT
open PySem PySem.Spec PyProof.Rows L2
theorem clo_one {x y : Str} {cells : List (Str × Addr)} {c : Addr} (h : cells.lookup y = some c) : cloFrom cells [(x, .local), (y, .free)] [] = [(y, c)] := by
  show (y, (cells.lookup y).getD 0) :: [] = _
  rw [h]
  rfl
section
variable {X : Cx} {pins : List (Addr × Obj)} {σ : L2.St} {H : Hp} {s : Shared} {y : Str} {c : Addr}
theorem cell_away (I : Inv X pins σ H s) (hf : X.fn y = true) (hc : X.env.cells.lookup y = some c) : c ∉ frs X.stack ∧ X.base.get? c = none := by
  have hge := I.ok.cab y c hf hc
  refine ⟨fun z => ?_, ?_⟩
  · have z := I.stkSub _ z
    simp only [List.mem_cons] at z
    rcases z with e | e
    · exact I.cne y c hc e
    · obtain ⟨_, o, ho, _⟩ := I.ok.funs.mem e
      exact absurd (Nat.lt_of_lt_of_le (Heap.lt_size ho) hge) (Nat.lt_irrefl _)
  · exact Heap.get?_none_of_le (Nat.le_trans I.ok.bsz hge)
end
section
variable {X : Cx} {g : Str} {G : Addr} {fd : FuncData} {ps : List Str} {sp : Sp} {k i : Nat} {C P : Addr} {ql x y : Str} {params : Arguments} {body : Expr} {scope : Scope} {lpos p pos : Pos} {e1 e2 : Expr} {t1 t2 : TE}
/-- g(e1, e2, lambda x: ..y..), y in slot i holds an object -/
def tLamCall (sp : Sp) (P : Addr) (ql : Str) (params : Arguments) (body : Expr) (scope : Scope) (y : Str) (i : Nat) (t1 t2 : TE) : TE := fun σ H Q => t1 σ H fun v1 H1 => t2 σ H1 fun v2 H2 => ∃ z, σ[i]? = some (some (.ref z)) ∧ LamX.TabS H2 P ql ∧
  ∀ (f c : Addr) (of oc : Obj) (H3 : Hp), (∀ b o, H2 b = some o → b ≠ P → H3 b = some o) → LamX.TabS H3 P ql → H3 f = none → H3 c = none → f ≠ c →
    LamAt (upd (upd H3 f (ObO f of)) c (ObO c oc)) params body scope ql y f c z oc →
    sp [v1, v2, .ref f] (upd (upd H3 f (ObO f of)) c (ObO c oc)) (fun v H5 => H5 f = some (ObO f of) ∧ H5 c = some (ObO c oc) ∧ ((∀ b q', H5 b = some (LamX.CodeO b q') → b ≠ c ∧ b ≠ f) → Q v (unt (unt H5 c) f))) E0
theorem pe_lamCall (F : FnOk X.prog X.w X.K X.mg X.base CX0 k G fd ps sp) (hr : Room k X.A) (hg : Gl X g) (hm : X.mg g = some (.ref G)) (hk : PySem.W.keepIn X.K (.ref G) = true) (hb : L2.Binds X.K fd ps [])
    (L : Lam1 scope x y) (TB : LamX.TabB X.base X.mg C P) (hcode : X.env.code = .ref C) (hq : ql = X.env.qual ++ "<lambda>") (hdef : defaultsOf params X.env = ([], []))
    (hN : X.N[i]? = some y) (hy : X.env.kindOf y = some .cell) (hfn : X.fn y = true) (h1 : PE X e1 t1) (h2 : PE X e2 t2) (hdb : (g == ("__debug__" : Str)) = false := by decide)
    (st : starEach [e1, e2, .Lambda params body scope lpos] X.env = [(false, eval e1 X.env), (false, eval e2 X.env), (false, eval (.Lambda params body scope lpos) X.env)] := by rfl)
    (st2 : starEach [e2, .Lambda params body scope lpos] X.env = [(false, eval e2 X.env), (false, eval (.Lambda params body scope lpos) X.env)] := by rfl) :
    PE X (.Call (.Name g p) [e1, e2, .Lambda params body scope lpos] [] pos) (tLamCall sp P ql params body scope y i t1 t2) := by
  refine ⟨fun pins s σ H Q I h => ?_⟩
  refine wpAny_Call_Name_kw (ld_glob I hg hm ?_ hdb)
  refine PySem.W.callWith_K (h₀ := X.base) I.ok.mod.kin hk ?_ (by rw [st, st2]) (by rw [st2]; rfl)
  rw [st]
  show wpAny _ _ (spliced [(false, eval e1 X.env), (false, eval e2 X.env), (false, eval (.Lambda params body scope lpos) X.env)]) _ _ s
  refine Calls.spliced_cons (thn (h1.run pins s σ H _ I h) fun u1 s1 ⟨v1, H1, I1, r1, q1⟩ => ?_)
  refine Calls.spliced_cons (thn (h2.run pins s1 σ H1 _ I1 q1) fun u2 s2 ⟨v2, H2, I2, r2, z, hz, hT, q2⟩ => ?_)
  obtain ⟨c, hc⟩ := I2.ok.has y (.inl hy)
  have hfree : ∀ t ∈ scope.names, t.2 = .free → ∃ c, X.env.cells.lookup t.1 = some c := fun t ht e => by
    rw [L.names] at ht
    simp only [List.mem_cons, List.not_mem_nil, or_false] at ht
    rcases ht with e2 | e2
    · rw [e2] at e
      cases e
    · rw [e2]
      exact ⟨c, hc⟩
  refine Calls.spliced_cons (lam_new I2 TB hcode hq hT hdef hfree fun f c1 pm ctv H3 s3 I3 kp T3 hf nf af bf hco => Calls.spliced_nil ⟨I3.kIn, ?_⟩)
  have hcl : cloFrom X.env.cells scope.names [] = [(y, c)] := by
    rw [L.names]
    exact clo_one hc
  rw [hcl] at hf
  -- the cell
  obtain ⟨m, hn, hl⟩ := I3.loc
  obtain ⟨uz, rz, lk⟩ := hl i y (.ref z) hN hz (.inr (.inl hy))
  obtain rfl : uz = Value.ref z := rz
  have hcell : s3.heap.IsCell c (some (.ref z)) := by
    rcases lk with ⟨e, _⟩ | ⟨_, c2, e, q⟩
    · rw [hy] at e
      cases e
    · rw [hc] at e
      cases e
      exact q
  obtain ⟨oc, hoc, hod⟩ := hcell
  have nc : H3 c = none := I3.freeC y c hc
  obtain ⟨ac, bc⟩ := cell_away I3 hfn hc
  have nfc : f ≠ c := fun e => by
    rw [e, hoc] at hf
    cases hf
    cases hod
  have nfc2 : upd H3 f (ObO f (PySem.W.kla_obj "<lambda>" ql params body scope [(y, c)] pm c1 ctv)) c = none := by
    rw [upd_ne (Ne.symm nfc)]
    exact nc
  have e0 := env0_track (env0_track I3.env0 hf nf af bf) hoc nfc2 ac bc
  have nc1 : c1 ≠ c := ne_of_none hco nc
  have nc2 : c1 ≠ f := ne_of_none hco nf
  have la : LamAt (upd (upd H3 f (ObO f (PySem.W.kla_obj "<lambda>" ql params body scope [(y, c)] pm c1 ctv))) c (ObO c oc)) params body scope ql y f c z oc :=
    ⟨⟨pm, ctv, c1, by rw [upd_ne nfc, upd_same], by rw [upd_ne nc1, upd_ne nc2]; exact hco⟩, upd_same, hod⟩
  have hs := q2 f c _ oc H3 kp T3 nf nc nfc la
  have rr : Vals [v1, v2, .ref f] [u1, u2, .ref f] := .cons r1 (.cons r2 (.cons rfl .nil))
  have hlen : [u1, u2, Value.ref f].length = ps.length := by
    rw [← rr.length]
    exact F.len _ _ _ _ hs
  have hrun := F.run X.A X.stack s3 _ ⟨[u1, u2, .ref f], []⟩ [u1, u2, .ref f] [v1, v2, .ref f] _ E0 hr e0 (by
    have z := hb s3 [u1, u2, .ref f] I3.kIn (by rw [List.append_nil]; exact hlen)
    rw [List.append_nil] at z
    exact z) rr hs
  refine wpAny_call (codeAny_mono hrun fun r s4 hq4 => ?_)
  cases r with
  | error e => exact (show False from hq4).elim
  | ok fl =>
    cases fl with
    | next => exact (show False from hq4).elim
    | brk => exact (show False from hq4).elim
    | cont => exact (show False from hq4).elim
    | ret u =>
      have c1' : CE X.stack X.prog X.w (upd H3 f (ObO f (PySem.W.kla_obj "<lambda>" ql params body scope [(y, c)] pm c1 ctv))) s3 (fun v H6 => H6 f = some (ObO f (PySem.W.kla_obj "<lambda>" ql params body scope [(y, c)] pm c1 ctv)) ∧ Q v (unt H6 f)) u s4 := by
        refine ce_unt hoc nfc2 ?_
        obtain ⟨v, H5, a1, a2, a3, a4, a5, a6, a7, a8⟩ := (show CE _ _ _ _ _ _ _ _ from hq4)
        refine ⟨v, H5, a1, a2, a3, a4, a5, a7, by rw [unt_ne nfc]; exact a6, a8 fun b q' e => ⟨fun z => ?_, fun z => ?_⟩⟩
        · subst z
          obtain ⟨⟨o2, v2, t2, g1, g2, _⟩, _, _⟩ := a4 b _ e
          have g3 := obO_get a4 a7
          rw [g1] at g3
          cases g3
          rw [hod] at g2
          cases g2
        · subst z
          obtain ⟨⟨o2, v2, t2, g1, g2, _⟩, _, _⟩ := a4 b _ e
          have g3 := obO_get a4 a6
          rw [g1] at g3
          cases g3
          cases g2
      exact I3.after (ce_unt hf nf c1')
end
section
variable {X : Cx} {k i : Nat} {q x y n : Str} {params : Arguments} {body : Expr} {scope : Scope} {p pos : Pos} {e : Expr} {t ta : TE}
/-- n(e), slot i holds such a lambda; t: the reading of its body -/
def tLamUse (params : Arguments) (body : Expr) (scope : Scope) (q y : Str) (i : Nat) (t ta : TE) : TE := fun σ H Q => ∃ f, σ[i]? = some (some (.ref f)) ∧ (∃ c z o, LamAt H params body scope q y f c z o) ∧
  ta σ H fun v H1 => ∃ c z o, LamAt H1 params body scope q y f c z o ∧ t [some v, some (.ref z)] (unt H1 c) fun v H2 => H2 c = none → Q v (upd H2 c (ObO c o))
theorem pe_lamUse (L : Lam1 scope x y) (hr : Room (k + 1) X.A) (hN : X.N[i]? = some n) (hv : Vis X.env.scope n) (ha : PE X e ta)
    (hbind : ∀ (c : Addr) (u pm cv ctv : Value), bindArgs (PySem.W.kla_fn "<lambda>" q params body scope [(y, c)] pm cv ctv) ⟨[u], []⟩ = pure [(x, u)])
    (hbody : ∀ (f c c' : Addr) (s : Shared) (H : Hp), Room k (X.A.deeper (PySem.W.envX q scope s.heap.objs.size f (.ref c') [(y, c)])) → PE (lamX X.prog X.w X.K X.mg X.base x y q scope f c c' X.A X.stack s H) body t)
    (hd : (n == ("__debug__" : Str)) = false := by decide) (hcd : (n == ("__classdict__" : Str)) = false := by decide)
    (he : starEach [e] X.env = (false, eval e X.env) :: starEach [] X.env := by rfl) : PE X (.Call (.Name n p) [e] [] pos) (tLamUse params body scope q y i t ta) := by
  refine ⟨fun pins s σ H Q I h => ?_⟩
  obtain ⟨f, hs, ⟨c0, z0, o0, l0⟩, ht⟩ := h
  refine wpAny_Call_Name_kw (thn ((pe_var (pos := p) hN hv hd hcd).run pins s σ H (fun v H1 => v = .ref f ∧ H1 = H) I ⟨.ref f, hs, rfl, rfl⟩) fun u s1 ⟨v, H1, I1, r1, ev, eH⟩ => ?_)
  subst ev
  rw [eH] at I1
  obtain rfl : u = Value.ref f := r1
  obtain ⟨⟨pm0, ct0, c10, hf0, _⟩, _, _⟩ := l0
  refine PySem.W.callWith_F ⟨_, _, _, _, obO_get I1.hok hf0⟩ ?_ he (by rfl)
  rw [he]
  show wpAny _ _ (spliced [(false, eval e X.env)]) _ _ s1
  refine Calls.spliced_cons (thn (ha.run pins s1 σ H _ I1 ht) fun u s2 ⟨v, H2, I2, r2, c, z, o, la, q2⟩ => Calls.spliced_nil ?_)
  obtain ⟨pm, ctv, c1, hf, _⟩ := id la.fn
  refine ⟨⟨_, _, _, _, obO_get I2.hok hf⟩, wpAny_call (codeAny_mono (lam_call L hr I2.env0 r2 la (fun pm cv ctv => hbind c u pm cv ctv) (fun f c' s H hr' => hbody f c c' s H hr') q2) fun r s3 hq => ?_)⟩
  cases r with
  | error e => exact (show False from hq).elim
  | ok fl =>
    cases fl with
    | next => exact (show False from hq).elim
    | brk => exact (show False from hq).elim
    | cont => exact (show False from hq).elim
    | ret u => exact I2.after hq
end
end WT

set_option Elab.async false
set_option linter.all false
set_option maxRecDepth 100000
set_option maxHeartbeats 2000000
/-! Small rules: a list against an empty list; d.update(e). -/
namespace WT
open PySem PySem.Spec PyProof.Rows L2
section
variable {X : Cx}
/-- xs == ys, ys an empty list -/
def rEqNil (K : PySem.W.Frag) : R2 := fun x y H Q => ∃ a b xs, x = .ref a ∧ y = .ref b ∧ SqL K H a xs ∧ SqL K H b [] ∧ Q (.bl xs.isEmpty) H
def rNeNil (K : PySem.W.Frag) : R2 := fun x y H Q => ∃ a b xs, x = .ref a ∧ y = .ref b ∧ SqL K H a xs ∧ SqL K H b [] ∧ Q (.bl (!xs.isEmpty)) H
theorem op_eqNil (hu : X.A.units < cLine) : OpR X (compareOp .Eq) (rEqNil X.K) := by
  intro pins s σ H x y v u Q I rx ry h
  obtain ⟨a, b, xs, rfl, rfl, ha, hb, q⟩ := h
  cases rx
  cases ry
  obtain ⟨as, ra, pa, _⟩ := I.list ha
  obtain ⟨bs, rb, pb, _⟩ := I.list hb
  cases rb
  cases ra with
  | nil =>
    exact SeqAt.eq_listAt (e := fun _ => true) pa.isList pb.isList rfl hu (fun j h1 _ => absurd h1 (by simp)) ⟨.bl true, H, I, rfl, q⟩
  | cons r t => exact SeqAt.eq_list_lengthsAt pa.isList pb.isList (by simp) hu ⟨.bl false, H, I, rfl, q⟩
theorem op_neNil (hu : X.A.units < cLine) : OpR X (compareOp .NotEq) (rNeNil X.K) := by
  intro pins s σ H x y v u Q I rx ry h
  obtain ⟨a, b, xs, rfl, rfl, ha, hb, q⟩ := h
  cases rx
  cases ry
  obtain ⟨as, ra, pa, _⟩ := I.list ha
  obtain ⟨bs, rb, pb, _⟩ := I.list hb
  cases rb
  cases ra with
  | nil => exact SeqAt.RcNeAt.lists (e := fun _ => true) pa.isList pb.isList rfl hu (fun j h1 _ => absurd h1 (by simp)) _ _ _ _ ⟨.bl false, H, I, rfl, q⟩
  | cons r t => exact SeqAt.RcNeAt.lists_lengths pa.isList pb.isList (by simp) hu _ _ _ _ ⟨.bl true, H, I, rfl, q⟩
/-- d.update(e), both of int and text keys -/
def rUpd : V → List V → Hp → VK → Prop := fun x vs H Q => ∃ a b kvs more, x = .ref a ∧ vs = [.ref b] ∧ H a = some (.dK kvs) ∧ H b = some (.dK more) ∧ a ≠ b ∧ kvs.length + more.length ≤ sizeLine ∧ Q .non (upd H a (.dK (mergeK kvs more)))
theorem mt_update : MtR X "dict.update" rUpd := by
  intro pins s σ H x xs v us Q I rx r h
  obtain ⟨a, b, kvs, more, rfl, rfl, ha, hb, hab, hz, q⟩ := h
  cases rx
  obtain ⟨u, rfl, rb⟩ := r.one
  cases rb
  obtain ⟨za, ya, va, ka, da⟩ := dk_of I.hok ha
  obtain ⟨zb, yb, vb, kb, db⟩ := dk_of I.hok hb
  have l1 := ka.length
  have l2 := kb.length
  refine call_meetsIn F.slot_dict_update da.typeIs F.entry_dict_update (F.args_dict_update_2 _ _) (meets_dict_update (mixKind X.prog X.w) a b hab yb) ⟨va, vb, da, db, by omega, fun h2 d2 _ sb => ?_⟩
  have hl : (mergeK kvs more).length ≤ sizeLine := Nat.le_trans (length_mergeK _ _) (by omega)
  have he : ∃ z, h2.get? a = some z := let ⟨o, _, _, e, _⟩ := d2; ⟨o, e⟩
  have I2 := d_write (t' := s.toks) I (by rw [ha]; exact True.intro) sb he (dk_new hl ya (KV.merge kb ka) d2)
  exact ⟨.non, _, I2, rfl, q⟩
end
end WT

set_option Elab.async false
set_option linter.all false
set_option maxRecDepth 100000
set_option maxHeartbeats 2000000
/-! zip(a list, a tuple, strict=True) of one length. -/
namespace WT
open PySem PySem.Spec PyProof.Rows L2
open PySem.W (kdx_alive)
/-- a strict zip: f0 the tuple that is out, f whether it knows so -/
abbrev ZipS (h : Heap) (z TI TO : Addr) (f0 : Value) (f : Bool) : Prop :=
  h.get? z = some { cls := .type "zip", dict := none, data := .fields #[f0, .bool f, .bool true, .ref TI, .ref TO], slots := #[] }
section
variable {prog : Program} {w : World} {A : Around} {E : Value → Shared → Prop} {s : Shared}
theorem noe_item {it : Value} {Q : Option Value → Shared → Prop} (h : wpAny (model prog w) A (Builtin.SmallTypes.nextOf it) (fun v s1 => Q (some v) s1) (fun _ _ => False) s) :
    wpAny (model prog w) A (Builtin.SmallTypes.nextOrEnd it) Q E s := by
  unfold Builtin.SmallTypes.nextOrEnd
  exact wpAny_bind (wpAny_attempt (wpAny_mono h (fun v s1 q => wpAny_pure q) fun _ _ q => False.elim q))
theorem noe_end {it : Value} {R : Heap → Prop} {Q : Option Value → Shared → Prop}
    (h : ∀ (E2 : Value → Shared → Prop), (∀ h2 e, R h2 → (∃ o, h2.get? e = some o ∧ o.cls = .type "StopIteration") → E2 (.ref e) { s with heap := h2 }) → wpAny (model prog w) A (Builtin.SmallTypes.nextOf it) (fun _ _ => False) E2 s)
    (hq : ∀ h2, R h2 → Q none { s with heap := h2 }) : wpAny (model prog w) A (Builtin.SmallTypes.nextOrEnd it) Q E s := by
  unfold Builtin.SmallTypes.nextOrEnd
  refine wpAny_bind (wpAny_attempt (wpAny_mono (h (fun e s1 => ∃ h2 a, e = .ref a ∧ s1 = { s with heap := h2 } ∧ R h2 ∧ ∃ o, h2.get? a = some o ∧ o.cls = .type "StopIteration") (fun h2 e r z => ⟨h2, e, rfl, rfl, r, z⟩)) (fun _ _ q => False.elim q) fun e s1 q => ?_))
  obtain ⟨h2, a, rfl, rfl, r, o, ho, hc⟩ := q
  exact wpAny_bind (wpAny_isInstance (T := "StopIteration") (b := true) ⟨o, ho, hc⟩ isSubtype_stop (wpAny_pure (hq h2 r)))
theorem zipS_item {z TI TO i1 i2 l1 l2 : Addr} {k1 k2 : Nat} {xs ys : Array Value} {x y a b : Value} {f : Bool} {Q : Value → Shared → Prop} (D : ZipApart z TI TO i1 i2 l1 l2)
    (hz : ZipS s.heap z TI TO .none f) (hTI : IsPair s.heap TI (.ref i1) (.ref i2)) (hTO : IsPair s.heap TO a b)
    (h1 : s.heap.IsListIter i1 l1 k1) (h2 : s.heap.IsTupleIter i2 l2 k2) (hl1 : s.heap.IsList l1 xs) (hl2 : s.heap.IsTuple l2 ys) (hx : xs[k1]? = some x) (hy : ys[k2]? = some y)
    (hQ : ∀ g, ZipS g z TI TO (rawInt s.heap.objs.size) false → IsPair g TO x y → g.IsListIter i1 l1 (k1 + 1) → g.IsTupleIter i2 l2 (k2 + 1) → IsPair g s.heap.objs.size x y → g.objs.size = s.heap.objs.size + 1 →
      (∀ c o, c ≠ z → c ≠ TO → c ≠ i1 → c ≠ i2 → s.heap.get? c = some o → g.get? c = some o) → Q (.ref s.heap.objs.size) { s with heap := g }) :
    wpAny (model prog w) A (Builtin.«zip.__next__» ⟨[.ref z], []⟩) (fun fin s2 => ∃ v, fin = .done (.ret v) ∧ Q v s2) E s := by
  show wpAny _ _ (field (.ref z) 2 >>= _) _ _ _
  refine wpAny_bind (wpAny_field hz rfl (x := .bool true) rfl ?_)
  show wpAny _ _ (field (.ref z) 3 >>= _) _ _ _
  refine wpAny_bind (wpAny_field hz rfl (x := .ref TI) rfl ?_)
  refine wpAny_bind (wpAny_seqItems hTI rfl ?_)
  show wpAny _ _ (Builtin.SmallTypes.ownedTupleIsFree (.ref z) >>= _) _ _ _
  refine wpAny_bind ?_
  unfold Builtin.SmallTypes.ownedTupleIsFree
  refine wpAny_bind (wpAny_field hz rfl (x := .none) rfl (wpAny_pure ?_))
  simp only [if_true]
  refine wpAny_bind (wpAny_rule (wpAny_bind (wpAny_field hz rfl (x := .ref TO) rfl ?_)))
  refine wpAny_bind (wpAny_setField_rec hz (by simp) fun g1 hz1 s1 => ?_)
  replace hz1 : ZipS g1 z TI TO .ellipsis f := hz1
  refine wpAny_bind ?_
  simp only [List.zipIdx_cons, List.zipIdx_nil, List.forIn_cons, List.forIn_nil]
  refine wpAny_bind (wpAny_bind (wpAny_onRaise ?_))
  show wpAny _ _ (Builtin.SmallTypes.nextOrEnd (.ref i1)) _ _ _
  refine noe_item (wpAny_nextOf_list_item (h1.extBut s1.extBut D.i1z) (hl1.extBut s1.extBut D.l1z) hx fun g2 n1 s2 => ?_)
  have hTO2 : IsPair g2 TO a b := s2.extBut _ _ D.TOi1 (s1.extBut _ _ D.TOz hTO)
  refine wpAny_bind (wpAny_seqItems hTO2 rfl (wpAny_bind (wpAny_updateSeq_pair hTO2 fun g3 hTO3 s3 => ?_)))
  replace hTO3 : IsPair g3 TO x b := hTO3
  refine wpAny_bind (wpAny_letGo (wpAny_pure ?_))
  refine wpAny_bind (wpAny_bind (wpAny_onRaise ?_))
  show wpAny _ _ (Builtin.SmallTypes.nextOrEnd (.ref i2)) _ _ _
  refine noe_item (RZ.nextOf_tuple_item (((h2.extBut s1.extBut D.i2z).extBut s2.extBut D.i12.symm).extBut s3.extBut D.TOi2.symm)
    (((hl2.extBut s1.extBut D.l2z).extBut s2.extBut D.l2i1).extBut s3.extBut D.l2TO) hy fun g4 n2 s4 => ?_)
  have hTO4 : IsPair g4 TO x b := s4.extBut _ _ D.TOi2 hTO3
  refine wpAny_bind (wpAny_seqItems hTO4 rfl (wpAny_bind (wpAny_updateSeq_pair hTO4 fun g5 hTO5 s5 => ?_)))
  replace hTO5 : IsPair g5 TO x y := hTO5
  refine wpAny_bind (wpAny_letGo (wpAny_pure (wpAny_pure ?_)))
  refine wpAny_bind (wpAny_seqItems hTO5 rfl (wpAny_bind (wpAny_newTuple ?_)))
  have hsz : g5.objs.size = s.heap.objs.size := by rw [s5.1, s4.1, s3.1, s2.1, s1.1]
  have hz5 : ZipS g5 z TI TO .ellipsis f := s5.extBut _ _ D.TOz.symm (s4.extBut _ _ D.i2z.symm (s3.extBut _ _ D.TOz.symm (s2.extBut _ _ D.i1z.symm hz1)))
  have k5 : ∀ c o, c ≠ z → c ≠ TO → c ≠ i1 → c ≠ i2 → s.heap.get? c = some o → g5.get? c = some o := fun c o c1 c2 c3 c4 e =>
    s5.extBut _ _ c2 (s4.extBut _ _ c4 (s3.extBut _ _ c2 (s2.extBut _ _ c3 (s1.extBut _ _ c1 e))))
  have n15 : g5.IsListIter i1 l1 (k1 + 1) := ((n1.extBut s3.extBut D.TOi1.symm).extBut s4.extBut D.i12).extBut s5.extBut D.TOi1.symm
  have n25 : g5.IsTupleIter i2 l2 (k2 + 1) := n2.extBut s5.extBut D.TOi2.symm
  have zlt : z < g5.objs.size := Heap.lt_size hz5
  show wpAny _ _ (Builtin.SmallTypes.ownedTupleHandOut (.ref z) (.ref g5.objs.size) >>= _) _ _ _
  refine wpAny_bind ?_
  unfold Builtin.SmallTypes.ownedTupleHandOut
  have hz6 : ZipS (g5.push { cls := .type "tuple", data := .seq #[x, y] }) z TI TO .ellipsis f := Heap.get?_push_of_some _ hz5
  refine wpAny_bind (wpAny_setField_rec hz6 (by simp) fun g7 hz7 s7 => ?_)
  replace hz7 : ZipS g7 z TI TO (rawInt g5.objs.size) f := hz7
  refine wpAny_setField_rec hz7 (by simp) fun g8 hz8 s8 => ?_
  replace hz8 : ZipS g8 z TI TO (rawInt g5.objs.size) false := hz8
  have up : ∀ c o, c ≠ z → g5.get? c = some o → g8.get? c = some o := fun c o c1 e => s8.extBut _ _ c1 (s7.extBut _ _ c1 (Heap.get?_push_of_some _ e))
  have hT8 : IsPair g8 g5.objs.size x y := s8.extBut _ _ (Nat.ne_of_gt zlt) (s7.extBut _ _ (Nat.ne_of_gt zlt) (Heap.get?_push_size _ rfl))
  have sz8 : g8.objs.size = g5.objs.size + 1 := by rw [s8.1, s7.1, Heap.size_push]
  rw [hsz] at hz8 hT8 sz8
  refine wpAny_pure ⟨_, rfl, ?_⟩
  show Q (.ref g5.objs.size) _
  rw [hsz]
  exact hQ g8 hz8 (up _ _ D.TOz hTO5) (n15.at fun o e => up _ o D.i1z e) (n25.at fun o e => up _ o D.i2z e) hT8 sz8 fun c o c1 c2 c3 c4 e => up c o c1 (k5 c o c1 c2 c3 c4 e)
/-- the tuple that is out is still there -/
theorem zipS_out {z TI TO T : Addr} {f : Bool} {oT : Obj} {Q : Bool → Shared → Prop} (hz : ZipS s.heap z TI TO (rawInt T) f) (hT : s.heap.get? T = some oT)
    (h : ∀ g, ZipS g z TI TO (rawInt T) true → Heap.SameBut z s.heap g → Q false { s with heap := g }) : wpAny (model prog w) A (Builtin.SmallTypes.ownedTupleIsFree (.ref z)) Q E s := by
  unfold Builtin.SmallTypes.ownedTupleIsFree
  refine wpAny_bind (wpAny_field hz rfl (x := rawInt T) rfl ?_)
  show wpAny _ _ (loadIfAlive ((T : Int).toNat) >>= _) _ _ _
  rw [Int.toNat_natCast]
  refine wpAny_bind (kdx_alive hT ?_)
  simp only [Option.isNone_some, Bool.false_eq_true, if_false]
  refine wpAny_bind (wpAny_field hz rfl (x := .bool f) rfl ?_)
  cases f with
  | true =>
    rw [if_neg (by simp)]
    exact wpAny_pure (h s.heap hz (Heap.SameBut.refl _ _))
  | false =>
    rw [if_pos (by simp)]
    exact wpAny_bind (wpAny_setField_rec hz (by simp) fun g hg sg => wpAny_pure (h g hg sg))
theorem zipS_item_held {z TI TO T i1 i2 l1 l2 : Addr} {f : Bool} {oT : Obj} {k1 k2 : Nat} {xs ys : Array Value} {x y : Value} {Q : Value → Shared → Prop} (D : ZipApart z TI TO i1 i2 l1 l2)
    (hz : ZipS s.heap z TI TO (rawInt T) f) (hT : s.heap.get? T = some oT) (hTI : IsPair s.heap TI (.ref i1) (.ref i2))
    (h1 : s.heap.IsListIter i1 l1 k1) (h2 : s.heap.IsTupleIter i2 l2 k2) (hl1 : s.heap.IsList l1 xs) (hl2 : s.heap.IsTuple l2 ys) (hx : xs[k1]? = some x) (hy : ys[k2]? = some y)
    (hQ : ∀ g, ZipS g z TI TO (rawInt T) true → g.IsListIter i1 l1 (k1 + 1) → g.IsTupleIter i2 l2 (k2 + 1) → IsPair g s.heap.objs.size x y → g.objs.size = s.heap.objs.size + 1 →
      (∀ c o, c ≠ z → c ≠ i1 → c ≠ i2 → s.heap.get? c = some o → g.get? c = some o) → Q (.ref s.heap.objs.size) { s with heap := g }) :
    wpAny (model prog w) A (Builtin.«zip.__next__» ⟨[.ref z], []⟩) (fun fin s2 => ∃ v, fin = .done (.ret v) ∧ Q v s2) E s := by
  show wpAny _ _ (field (.ref z) 2 >>= _) _ _ _
  refine wpAny_bind (wpAny_field hz rfl (x := .bool true) rfl ?_)
  show wpAny _ _ (field (.ref z) 3 >>= _) _ _ _
  refine wpAny_bind (wpAny_field hz rfl (x := .ref TI) rfl (wpAny_bind (wpAny_seqItems hTI rfl ?_)))
  show wpAny _ _ (Builtin.SmallTypes.ownedTupleIsFree (.ref z) >>= _) _ _ _
  refine wpAny_bind (zipS_out hz hT fun g1 hz1 s1 => ?_)
  simp only [Bool.false_eq_true, if_false]
  refine wpAny_bind ?_
  rw [← Array.forIn_toList]
  simp only [List.forIn_cons, List.forIn_nil]
  refine wpAny_bind (wpAny_bind (wpAny_holding ?_))
  show wpAny _ _ (Builtin.SmallTypes.nextOrEnd (.ref i1)) _ _ _
  refine noe_item (wpAny_nextOf_list_item (s := { s with heap := g1 }) (h1.extBut s1.extBut D.i1z) (hl1.extBut s1.extBut D.l1z) hx fun g2 n1 s2 => wpAny_pure (wpAny_bind (wpAny_bind (wpAny_holding ?_))))
  show wpAny _ _ (Builtin.SmallTypes.nextOrEnd (.ref i2)) _ _ _
  refine noe_item (RZ.nextOf_tuple_item (s := { s with heap := g2 }) ((h2.extBut s1.extBut D.i2z).extBut s2.extBut D.i12.symm) ((hl2.extBut s1.extBut D.l2z).extBut s2.extBut D.l2i1) hy fun g3 n2 s3 => wpAny_pure (wpAny_pure ?_))
  show wpAny _ _ (newTuple [x, y] >>= _) _ _ _
  refine wpAny_bind (wpAny_newTuple ?_)
  have hsz : g3.objs.size = s.heap.objs.size := by rw [s3.1, s2.1, s1.1]
  have hz3 : ZipS g3 z TI TO (rawInt T) true := s3.extBut _ _ D.i2z.symm (s2.extBut _ _ D.i1z.symm hz1)
  have hk : ∀ c o, c ≠ z → c ≠ i1 → c ≠ i2 → s.heap.get? c = some o → g3.get? c = some o := fun c o c1 c2 c3 e => s3.extBut _ _ c3 (s2.extBut _ _ c2 (s1.extBut _ _ c1 e))
  have n13 : g3.IsListIter i1 l1 (k1 + 1) := n1.extBut s3.extBut D.i12
  refine wpAny_pure ⟨_, rfl, ?_⟩
  show Q (.ref g3.objs.size) _
  have hp : IsPair (g3.push { cls := .type "tuple", data := .seq #[x, y] }) g3.objs.size x y := Heap.get?_push_size _ rfl
  have sz4 : (g3.push { cls := .type "tuple", data := .seq #[x, y] }).objs.size = g3.objs.size + 1 := Heap.size_push ..
  rw [hsz] at hp sz4 ⊢
  exact hQ _ (Heap.get?_push_of_some _ hz3) (n13.at fun o e => Heap.get?_push_of_some _ e) (n2.at fun o e => Heap.get?_push_of_some _ e) hp sz4 fun c o c1 c2 c3 e => Heap.get?_push_of_some _ (hk c o c1 c2 c3 e)
theorem stop_ok {α : Type} {Q : α → Shared → Prop} (hh : A.handled = none) (hE : ∀ g e, (∀ c o, s.heap.get? c = some o → g.get? c = some o) → (∃ o, g.get? e = some o ∧ o.cls = .type "StopIteration") → E (.ref e) { s with heap := g }) :
    wpAny (model prog w) A (Builtin.SmallTypes.stopIteration : Sem α) Q E s := by
  unfold Builtin.SmallTypes.stopIteration
  refine wpAny_bind ?_
  simp only [newExc, newTuple]
  refine wpAny_bind (wpAny_newObj_type ?_ (by size_fits))
  refine wpAny_bind (m := firstArgMember _ _) (wpAny_of_eq (a := Value.none) (by first | rfl | (simp only [firstArgMember]; rfl)) ?_)
  refine wpAny_newObj_type ?_ (by size_fits)
  simp only [raiseNew]
  refine wpAny_bind (wpAny_handled ?_)
  rw [hh]
  refine wpAny_bind (wpAny_pure (wpAny_throw ?_))
  exact hE _ _ (fun c o e => Heap.get?_push_of_some _ (Heap.get?_push_of_some _ e)) ⟨_, Heap.get?_push_size _ rfl, rfl⟩
theorem zipS_end {z TI TO i1 i2 l1 l2 : Addr} {k1 k2 : Nat} {xs ys : Array Value} {a b : Value} {f : Bool} {Q : Fin → Shared → Prop} (hh : A.handled = none) (D : ZipApart z TI TO i1 i2 l1 l2)
    (hz : ZipS s.heap z TI TO .none f) (hTI : IsPair s.heap TI (.ref i1) (.ref i2)) (hTO : IsPair s.heap TO a b)
    (h1 : s.heap.IsListIter i1 l1 k1) (h2 : s.heap.IsTupleIter i2 l2 k2) (hl1 : s.heap.IsList l1 xs) (hl2 : s.heap.IsTuple l2 ys) (hx : xs[k1]? = none) (hy : ys[k2]? = none)
    (hE : ∀ g e, (∀ c o, c ≠ z → c ≠ TO → c ≠ i1 → c ≠ i2 → s.heap.get? c = some o → g.get? c = some o) → (∃ o, g.get? e = some o ∧ o.cls = .type "StopIteration") → E (.ref e) { s with heap := g }) :
    wpAny (model prog w) A (Builtin.«zip.__next__» ⟨[.ref z], []⟩) Q E s := by
  show wpAny _ _ (field (.ref z) 2 >>= _) _ _ _
  refine wpAny_bind (wpAny_field hz rfl (x := .bool true) rfl ?_)
  show wpAny _ _ (field (.ref z) 3 >>= _) _ _ _
  refine wpAny_bind (wpAny_field hz rfl (x := .ref TI) rfl (wpAny_bind (wpAny_seqItems hTI rfl ?_)))
  show wpAny _ _ (Builtin.SmallTypes.ownedTupleIsFree (.ref z) >>= _) _ _ _
  refine wpAny_bind ?_
  unfold Builtin.SmallTypes.ownedTupleIsFree
  refine wpAny_bind (wpAny_field hz rfl (x := .none) rfl (wpAny_pure ?_))
  simp only [if_true]
  refine wpAny_bind (wpAny_rule (wpAny_bind (wpAny_field hz rfl (x := .ref TO) rfl ?_)))
  refine wpAny_bind (wpAny_setField_rec hz (by simp) fun g1 hz1 s1 => ?_)
  replace hz1 : ZipS g1 z TI TO .ellipsis f := hz1
  refine wpAny_bind ?_
  simp only [List.zipIdx_cons, List.zipIdx_nil, List.forIn_cons, List.forIn_nil]
  refine wpAny_bind (wpAny_bind (wpAny_onRaise ?_))
  show wpAny _ _ (Builtin.SmallTypes.nextOrEnd (.ref i1)) _ _ _
  refine noe_end (s := { s with heap := g1 }) (R := fun g => Heap.ExtBut i1 g1 g) (fun E2 h => wpAny_nextOf_list_end hh (h1.extBut s1.extBut D.i1z) (hl1.extBut s1.extBut D.l1z) hx h) fun g2 r2 => ?_
  have hz2 : ZipS g2 z TI TO .ellipsis f := r2 _ _ D.i1z.symm hz1
  refine wpAny_bind (wpAny_setField_rec hz2 (by simp) fun g3 hz3 s3 => wpAny_bind ?_)
  show wpAny _ _ (forIn [(Value.ref i2, 1)] PUnit.unit _ >>= _) _ _ _
  simp only [List.forIn_cons, List.forIn_nil]
  refine wpAny_bind (wpAny_bind (wpAny_bind ?_))
  refine noe_end (s := { s with heap := g3 }) (R := fun g => Heap.ExtBut i2 g3 g) (fun E2 h => RZ.nextOf_tuple_end hh (((h2.extBut s1.extBut D.i2z).extBut r2 D.i12.symm).extBut s3.extBut D.i2z) (((hl2.extBut s1.extBut D.l2z).extBut r2 D.l2i1).extBut s3.extBut D.l2z) hy h) fun g4 r4 => ?_
  simp only [Option.isSome_none, Bool.false_eq_true, if_false]
  refine wpAny_pure (wpAny_pure (wpAny_bind (wpAny_rule (stop_ok hh fun g5 e k5 he => ?_))))
  exact hE g5 e (fun c o c1 c2 c3 c4 q => k5 c o (r4 c o c4 (s3.extBut c o c1 (r2 c o c3 (s1.extBut c o c1 q))))) he
theorem zipS_end_held {z TI TO T i1 i2 l1 l2 : Addr} {k1 k2 : Nat} {xs ys : Array Value} {oT : Obj} {f : Bool} {Q : Fin → Shared → Prop} (hh : A.handled = none) (D : ZipApart z TI TO i1 i2 l1 l2)
    (hz : ZipS s.heap z TI TO (rawInt T) f) (hT : s.heap.get? T = some oT) (hTI : IsPair s.heap TI (.ref i1) (.ref i2))
    (h1 : s.heap.IsListIter i1 l1 k1) (h2 : s.heap.IsTupleIter i2 l2 k2) (hl1 : s.heap.IsList l1 xs) (hl2 : s.heap.IsTuple l2 ys) (hx : xs[k1]? = none) (hy : ys[k2]? = none)
    (hE : ∀ g e, (∀ c o, c ≠ z → c ≠ i1 → c ≠ i2 → s.heap.get? c = some o → g.get? c = some o) → (∃ o, g.get? e = some o ∧ o.cls = .type "StopIteration") → E (.ref e) { s with heap := g }) :
    wpAny (model prog w) A (Builtin.«zip.__next__» ⟨[.ref z], []⟩) Q E s := by
  show wpAny _ _ (field (.ref z) 2 >>= _) _ _ _
  refine wpAny_bind (wpAny_field hz rfl (x := .bool true) rfl ?_)
  show wpAny _ _ (field (.ref z) 3 >>= _) _ _ _
  refine wpAny_bind (wpAny_field hz rfl (x := .ref TI) rfl (wpAny_bind (wpAny_seqItems hTI rfl ?_)))
  show wpAny _ _ (Builtin.SmallTypes.ownedTupleIsFree (.ref z) >>= _) _ _ _
  refine wpAny_bind (zipS_out hz hT fun g1 hz1 s1 => ?_)
  simp only [Bool.false_eq_true, if_false]
  refine wpAny_bind ?_
  rw [← Array.forIn_toList]
  simp only [List.forIn_cons, List.forIn_nil]
  refine wpAny_bind (wpAny_bind (wpAny_holding ?_))
  show wpAny _ _ (Builtin.SmallTypes.nextOrEnd (.ref i1)) _ _ _
  refine noe_end (s := { s with heap := g1 }) (R := fun g => Heap.ExtBut i1 g1 g) (fun E2 h => wpAny_nextOf_list_end hh (h1.extBut s1.extBut D.i1z) (hl1.extBut s1.extBut D.l1z) hx h) fun g2 r2 => wpAny_bind ?_
  show wpAny _ _ (forIn [(Value.ref i2, 1)] PUnit.unit _ >>= _) _ _ _
  simp only [List.forIn_cons, List.forIn_nil]
  refine wpAny_bind (wpAny_bind (wpAny_bind ?_))
  refine noe_end (s := { s with heap := g2 }) (R := fun g => Heap.ExtBut i2 g2 g) (fun E2 h => RZ.nextOf_tuple_end hh ((h2.extBut s1.extBut D.i2z).extBut r2 D.i12.symm) ((hl2.extBut s1.extBut D.l2z).extBut r2 D.l2i1) hy h) fun g4 r4 => ?_
  simp only [Option.isSome_none, Bool.false_eq_true, if_false]
  refine wpAny_pure (wpAny_pure (wpAny_bind (wpAny_rule (stop_ok hh fun g5 e k5 he => ?_))))
  exact hE g5 e (fun c o c1 c3 c4 q => k5 c o (r4 c o c4 (r2 c o c3 (s1.extBut c o c1 q)))) he
/-! ### next of it -/
theorem next_of {z : Addr} {v : Value} {Q : Option Value → Shared → Prop} (hz : s.TypeIs (.ref z) "zip")
    (h : wpAny (model prog w) A.in1 (Builtin.«zip.__next__» ⟨[.ref z], []⟩) (fun fin s2 => ∃ v, fin = .done (.ret v) ∧ Q (some v) s2) (fun e s2 => ∃ a o, e = .ref a ∧ s2.heap.get? a = some o ∧ o.cls = .type "StopIteration" ∧ Q none s2) s) :
    wpAny (model prog w) A (pyNext (.ref z)) Q E s := by
  unfold pyNext
  refine wpAny_bind (wpAny_attempt (wpAny_callSpecial?_slot (name := Str.ofString "__next__") hz F.slot_zip_next (wpAny_call_entry F.slot_zip_next hz F.entry_zip_next (wpAny_mono h (fun fin s2 q => ?_) fun e s2 q => ?_) (F.args_zip_next_1 _))))
  · obtain ⟨v, e, q⟩ := q
    exact ⟨v, e, wpAny_pure q⟩
  · obtain ⟨a, o, rfl, ho, hc, q⟩ := q
    exact wpAny_bind (wpAny_isInstance (T := "StopIteration") (b := true) ⟨o, ho, hc⟩ isSubtype_stop (wpAny_pure q))
end
end WT

set_option Elab.async false
set_option linter.all false
set_option maxRecDepth 100000
set_option maxHeartbeats 2000000
/-! A strict zip is made. -/
namespace WT
open PySem PySem.Spec PyProof.Rows L2
open Sem (wp)
abbrev kS : List (Str × Value) := [(Str.ofString "strict", .bool true)]
theorem zs_typeCall (a b : Value) : checkTypeCall "zip" ⟨[a, b], kS⟩ = pure () := by kernel_rfl
theorem zs_newCall (a b : Value) : checkBuiltinCall "zip.__new__" ⟨[.type "zip", a, b], kS⟩ = pure () := by kernel_rfl
theorem zs_init (a b c : Value) : argsOk "object.__init__" ⟨[a, b, c], kS⟩ := by
  unfold argsOk; rw [signature?_of (id := "object.__init__") (n := ['_', '_', 't', 'i', 'n', 'i', '_', '_']) (o := ['t', 'c', 'e', 'j', 'b', 'o']) (by kernel_rfl) F.owner_object]; kernel_rfl
section
variable {prog : Program} {w : World} {A : Around} {E : Value → Shared → Prop} {s : Shared}
abbrev zsH1 (h : Heap) (l1 : Addr) : Heap := h.push { cls := .type "list_iterator", data := .fields #[.ref l1, .int 0 0] }
abbrev zsH2 (h : Heap) (l1 l2 : Addr) : Heap := (zsH1 h l1).push { cls := .type "tuple_iterator", data := .fields #[.ref l2, .int 0 0] }
abbrev zsH3 (h : Heap) (l1 l2 : Addr) : Heap := (zsH2 h l1 l2).push { cls := .type "tuple", data := .seq #[.ref h.objs.size, .ref (zsH1 h l1).objs.size] }
abbrev zsH4 (h : Heap) (l1 l2 : Addr) : Heap := (zsH3 h l1 l2).push { cls := .type "tuple", data := .seq #[.none, .none] }
abbrev zsH5 (h : Heap) (l1 l2 : Addr) : Heap := (zsH4 h l1 l2).push { cls := .type "zip", data := .fields #[.none, .bool false, .bool true, .ref (zsH2 h l1 l2).objs.size, .ref (zsH3 h l1 l2).objs.size] }
theorem zs_new (l1 l2 : Addr) (xs ys : Array Value) :
    Meets (Builtin.«zip.__new__» ⟨[.type "zip", .ref l1, .ref l2], kS⟩) (fun _ R s => s.heap.IsList l1 xs ∧ s.heap.IsTuple l2 ys ∧
      R (.ok (.ret (.ref (zsH4 s.heap l1 l2).objs.size))) { s with heap := zsH5 s.heap l1 l2 }) :=
  .of_wp fun prog w A R s h => by
    obtain ⟨hp, g, d, tk, os⟩ := s; obtain ⟨hl1, hl2, h⟩ := h
    have hsub := sub_zip
    have hL1 : Heap.IsList (Shared.heap ⟨hp, g, d, tk, os⟩) l1 xs := hl1
    have hL2 : Heap.IsTuple (Shared.heap ⟨hp.push { cls := .type "list_iterator", data := .fields #[.ref l1, .int 0 0] }, g, d, tk, os⟩) l2 ys := Heap.IsTuple.push hl2 _
    wp_walk using wpAny_pyIter_list hL1, wpAny_pyIter_tuple hL2
    exact ⟨_, rfl, h⟩
theorem zs_call {T newId initId : String} {Bn Bi : Builtin} {args : List Value} {kw : List (Str × Value)} {S : PySem.Spec} {Q Q₁ : Value → Shared → Prop} (ft : TypeCalled T newId initId)
    (hct : checkTypeCall T ⟨args, kw⟩ = pure ()) (hcn : checkBuiltinCall newId ⟨.type T :: args, kw⟩ = pure ())
    (entryN : entryFor table newId = some Bn) (entryI : entryFor table initId = some Bi) (g : Meets (Bn ⟨.type T :: args, kw⟩) S)
    (h : S A.in1 (wants Q₁ E) s)
    (hnext : ∀ obj s₁, Q₁ obj s₁ → s₁.TypeIs obj T ∧ argsOk initId ⟨obj :: args, kw⟩ ∧ ∃ Si, Meets (Bi ⟨obj :: args, kw⟩) Si ∧ Si A.in1 (wants (fun r s₂ => r = .none ∧ Q obj s₂) E) s₁) :
    wpAny (model prog w) A (call (.type T) args kw) Q E s := by
  obtain ⟨c, tl, hmro⟩ := ft.mro
  have hmade := ft.made
  have hsub := ft.sub
  refine wpAny_call (codeAny_of_tree ?_)
  show wpAny _ _ (callAny (.type T) _) _ _ _
  refine wpAny_pure ⟨Code.quiet_builtin _ (by decide +kernel), codeAny_builtin F.entry_type_call ?_⟩
  rw [Around.under_plain (weight_type_call_type T args kw) (units_type_call_type T args kw)]
  have h1 := ft.notType
  have h2 := ft.canCreate
  repeat (any_goals (first | assumption | wp_step))
  refine codeAny_mono (codeAny_call_builtin ft.plain entryN (wpAny_of_eq hcn (g prog w A.in1 _ s h))) fun r s₁ hr => ?_
  cases r with
  | error e => exact hr
  | ok fl =>
    cases fl with
    | ret obj =>
      obtain ⟨hT, hok, Si, gi, hsi⟩ := hnext _ _ hr
      have hli := ft.init.lookup
      have hbi := ft.init.bind obj
      repeat (any_goals (first | assumption | wp_step))
      refine codeAny_mono (codeAny_call_builtin ft.init.plain entryI (ft.init.check _ _ _ _ _ _ _ _ hT hok (gi prog w A.in1 _ s₁ hsi))) fun r₂ s₂ hr₂ => ?_
      cases r₂ with
      | error e => exact hr₂
      | ok fl₂ =>
        cases fl₂ with
        | ret r =>
          obtain ⟨rfl, hq⟩ := hr₂
          repeat (any_goals (first | assumption | wp_step))
        | _ => exact hr₂.elim
    | _ => exact hr.elim
theorem zs_objInit {self a b : Value} : Meets (Builtin.«object.__init__» ⟨[self, a, b], kS⟩) (fun _ R s => s.TypeIs self "zip" ∧ R (.ok (.ret .none)) s) := by
  refine Meets.of_wp fun prog w A R s hs => ?_
  obtain ⟨hT, hq⟩ := hs
  have hl := F.called_zip.init.lookup
  have hm := F.called_zip.made
  have hne : (some "zip.__new__" != some "object.__new__") = true := by decide
  repeat (any_goals (first | assumption | wp_step))
  exact ⟨_, rfl, hq⟩
theorem call_zs {l1 l2 : Addr} {xs ys : Array Value} {Q : Value → Shared → Prop} (hl1 : s.heap.IsList l1 xs) (hl2 : s.heap.IsTuple l2 ys)
    (h : ∀ h', ZipS h' (s.heap.objs.size + 4) (s.heap.objs.size + 2) (s.heap.objs.size + 3) .none false → IsPair h' (s.heap.objs.size + 2) (.ref s.heap.objs.size) (.ref (s.heap.objs.size + 1)) →
      IsPair h' (s.heap.objs.size + 3) .none .none → h'.IsListIter s.heap.objs.size l1 0 → h'.IsTupleIter (s.heap.objs.size + 1) l2 0 → h'.objs.size = s.heap.objs.size + 5 →
      (∀ c o, s.heap.get? c = some o → h'.get? c = some o) → Q (.ref (s.heap.objs.size + 4)) { s with heap := h' }) :
    wpAny (model prog w) A (call (.type "zip") [.ref l1, .ref l2] kS) Q E s := by
  refine zs_call (Q₁ := fun obj s₁ => s₁.TypeIs obj "zip" ∧ Q obj s₁) F.called_zip (zs_typeCall _ _) (zs_newCall _ _) F.entry_zip_new F.entry_object_init (zs_new l1 l2 xs ys) ⟨hl1, hl2, ?_⟩
    fun obj s₁ q => ⟨q.1, zs_init _ _ _, _, zs_objInit, q.1, rfl, q.2⟩
  have z1 : (zsH1 s.heap l1).objs.size = s.heap.objs.size + 1 := Heap.size_push ..
  have z2 : (zsH2 s.heap l1 l2).objs.size = s.heap.objs.size + 2 := by rw [Heap.size_push, z1]
  have z3 : (zsH3 s.heap l1 l2).objs.size = s.heap.objs.size + 3 := by rw [Heap.size_push, z2]
  have z4 : (zsH4 s.heap l1 l2).objs.size = s.heap.objs.size + 4 := by rw [Heap.size_push, z3]
  have z5 : (zsH5 s.heap l1 l2).objs.size = s.heap.objs.size + 5 := by rw [Heap.size_push, z4]
  have g5 : (zsH5 s.heap l1 l2).get? (zsH4 s.heap l1 l2).objs.size = some _ := Heap.get?_push_size _ rfl
  have g4 : (zsH5 s.heap l1 l2).get? (zsH3 s.heap l1 l2).objs.size = some _ := Heap.get?_push_of_some _ (Heap.get?_push_size _ rfl)
  have g3 : (zsH5 s.heap l1 l2).get? (zsH2 s.heap l1 l2).objs.size = some _ := Heap.get?_push_of_some _ (Heap.get?_push_of_some _ (Heap.get?_push_size _ rfl))
  have g2 : (zsH5 s.heap l1 l2).get? (zsH1 s.heap l1).objs.size = some _ := Heap.get?_push_of_some _ (Heap.get?_push_of_some _ (Heap.get?_push_of_some _ (Heap.get?_push_size _ rfl)))
  have g1 : (zsH5 s.heap l1 l2).get? s.heap.objs.size = some _ := Heap.get?_push_of_some _ (Heap.get?_push_of_some _ (Heap.get?_push_of_some _ (Heap.get?_push_of_some _ (Heap.get?_push_size _ rfl))))
  show _ ∧ _
  rw [z2, z3, z4] at g5
  rw [z1, z2] at g3
  rw [z3] at g4
  rw [z1] at g2
  rw [z4]
  exact ⟨⟨_, g5, rfl⟩, h _ g5 g3 g4 ⟨_, g1, rfl, rfl⟩ ⟨_, g2, rfl, rfl⟩ z5 fun c o x =>
    Heap.get?_push_of_some _ (Heap.get?_push_of_some _ (Heap.get?_push_of_some _ (Heap.get?_push_of_some _ (Heap.get?_push_of_some _ x))))⟩
end
end WT

set_option Elab.async false
set_option linter.all false
set_option maxRecDepth 100000
set_option maxHeartbeats 2000000
/-! list(zip(..)), both kinds. -/
namespace WT
open PySem PySem.Spec PyProof.Rows L2
/-- what gives new pairs, one a turn; S the list that is being filled -/
structure Nxt (P : Program) (w : World) (fp : List Addr) (z S : Addr) (us vs : List Value) (tn : Nat → Heap → Prop) : Prop where
  mem : z ∈ fp
  obj : ∀ i h, tn i h → ∀ b ∈ fp, ∃ o, h.get? b = some o
  typ : ∀ i h, tn i h → ∃ o, h.get? z = some o ∧ o.cls = .type "zip"
  keep : ∀ i h h', tn i h → (∀ b o, b ≠ S → h.get? b = some o → h'.get? b = some o) → tn i h'
  item : ∀ (A : Around) (E : Value → Shared → Prop) (s : Shared) (Q : Option Value → Shared → Prop) (i : Nat) (x y : Value), tn i s.heap → S < s.heap.objs.size → us[i]? = some x → vs[i]? = some y →
    (∀ g, tn (i + 1) g → IsPair g s.heap.objs.size x y → g.objs.size = s.heap.objs.size + 1 → (∀ c o, c ∉ fp → s.heap.get? c = some o → g.get? c = some o) → Q (some (.ref s.heap.objs.size)) { s with heap := g }) →
    wpAny (model P w) A (pyNext (.ref z)) Q E s
  done : ∀ (A : Around) (E : Value → Shared → Prop) (s : Shared) (Q : Option Value → Shared → Prop) (i : Nat), A.handled = none → tn i s.heap → us[i]? = none → vs[i]? = none →
    (∀ g, (∀ c o, c ∉ fp → s.heap.get? c = some o → g.get? c = some o) → Q none { s with heap := g }) → wpAny (model P w) A (pyNext (.ref z)) Q E s
  self : ∀ (A : Around) (E : Value → Shared → Prop) (s : Shared) (Q : Value → Shared → Prop) (i : Nat), tn i s.heap → Q (.ref z) s → wpAny (model P w) A (pyIter (.ref z)) Q E s
/-- at S a new list of new pairs -/
def ZL (H H' : Hp) (S : Addr) (ps : List (V × V)) : Prop :=
  ∃ refs : List Addr, refs.length = ps.length ∧ H' S = some (.lst (refs.map V.ref)) ∧ H S = none ∧ Same H H' ∧ ∀ (j : Nat) (t : Addr) (p : V × V), refs[j]? = some t → ps[j]? = some p → H t = none ∧ t ≠ S ∧ H' t = some (.tup [p.1, p.2])
section
variable {X : Cx} {pins : List (Addr × Obj)} {σ : L2.St} {H : Hp} {s : Shared} {A : Around} {fp : List Addr} {z S : Addr} {us vs : List Value} {xs ys : List V} {tn : Nat → Heap → Prop} {R : Result → Shared → Prop} {res : Value}
theorem nx_drain (hh : A.handled = none) (N : Nxt X.prog X.w fp z S us vs tn) (hv : Vals xs us) (hw : Vals ys vs) (hl : xs.length = ys.length) (hz : xs.length ≤ sizeLine) (hSn : H S = none)
    (hend : ∀ s' H', Inv X pins σ H' s' → ZL H H' S (xs.zip ys) → R (.ok (.ret res)) s') :
    ∀ (k i : Nat) (s : Shared) (Hc : Hp) (refs : List Addr), xs.length - i = k → i ≤ xs.length → Inv X pins σ Hc s → tn i s.heap → (∀ b ∈ fp, FpOk X pins Hc b) → refs.length = i → Hc S = some (.lst (refs.map V.ref)) →
      (∀ (j : Nat) (t : Addr) (p : V × V), refs[j]? = some t → (xs.zip ys)[j]? = some p → H t = none ∧ t ≠ S ∧ Hc t = some (.tup [p.1, p.2])) → Same H Hc →
      codeAny (model X.prog X.w) A (.builtin "list.extend.loop" ⟨[.ref S, .ref z, res], []⟩) R s := by
  intro k
  induction k with
  | zero =>
    intro i s Hc refs hk hi I st hf hr hS hp hs
    have e : i = xs.length := by omega
    subst e
    refine codeAny_builtin F.entry_extend_loop ?_
    rw [Around.under_plainId F.plain_extend_loop _]
    show wpAny _ A.in1 (pyNext (.ref z) >>= _) _ _ s
    refine wpAny_bind (N.done A.in1 _ s _ xs.length hh st (by rw [List.getElem?_eq_none_iff]; rw [← hv.length]; exact Nat.le_refl _) (by rw [List.getElem?_eq_none_iff]; rw [← hw.length, hl]; exact Nat.le_refl _) fun g kg => ?_)
    refine wpAny_pure (hend _ Hc (I.turnedL (t' := s.toks) (ch := fp) kg hf) ⟨refs, ?_, hS, hSn, hs, hp⟩)
    rw [List.length_zip, ← hl, Nat.min_self]; exact hr
  | succ k ih =>
    intro i s Hc refs hk hi I st hf hr hS hp hs
    have hlt : i < xs.length := by omega
    obtain ⟨u, hu, ru⟩ := hv.get (List.getElem?_eq_getElem hlt)
    obtain ⟨v, hv', rv⟩ := hw.get (List.getElem?_eq_getElem (show i < ys.length by omega))
    refine codeAny_builtin F.entry_extend_loop ?_
    rw [Around.under_plainId F.plain_extend_loop _]
    show wpAny _ A.in1 (pyNext (.ref z) >>= _) _ _ s
    obtain ⟨_, its, n, rl, hlen, eS⟩ := I.lstM hS
    have hSl : S < s.heap.objs.size := Heap.lt_size eS
    have hSf : S ∉ fp := fun h => by
      have := (hf S h).1
      rw [hS] at this
      cases this
    refine wpAny_bind (N.item A.in1 _ s _ i u v st hSl hu hv' fun g st' hT hsz kg => ?_)
    have hTn : Hc s.heap.objs.size = none := I.hok.fresh (Nat.le_refl _)
    have new : ObjOk X.prog X.w (upd Hc s.heap.objs.size (.tup [xs[i], ys[i]])) g s.heap.objs.size (.tup [xs[i], ys[i]]) :=
      ⟨by show 2 ≤ sizeLine; decide, [u, v], .cons ru (.cons rv .nil), ⟨_, hT, rfl, _, rfl⟩⟩
    have I1 : Inv X pins σ (upd Hc s.heap.objs.size (.tup [xs[i], ys[i]])) { s with heap := g } := I.turnedNew (t' := s.toks) (ch := fp) kg hf (Nat.le_refl _) new
    have hS1 : upd Hc s.heap.objs.size (.tup [xs[i], ys[i]]) S = some (.lst (refs.map V.ref)) := by rw [upd_ne (Nat.ne_of_lt hSl)]; exact hS
    have eS1 := kg S _ hSf eS
    have hrl : its.length = i := by rw [← hlen, List.length_map]; exact hr
    show wpAny _ A.in1 (updateSeq S (·.push (.ref s.heap.objs.size)) >>= _) _ _ _
    refine wpAny_bind ?_
    refine wpAny_updateSeq (s := { s with heap := g }) eS1 rfl (wpAny_pure ⟨plainId_quiet F.plain_extend_loop _, ?_⟩) (by simp only [List.size_toArray]; omega) (by show (its.toArray.push (.ref s.heap.objs.size)).size ≤ sizeLine + 1; rw [Array.size_push, List.size_toArray]; omega)
    have I2 : Inv X pins σ (upd (upd Hc s.heap.objs.size (.tup [xs[i], ys[i]])) S (.lst ((refs ++ [s.heap.objs.size]).map V.ref))) { s with heap := g.update S (Obj.mapSeq (·.push (.ref s.heap.objs.size))) } := by
      refine I1.lset (t' := s.toks) (its' := its ++ [.ref s.heap.objs.size]) hS1 eS1 (by simp) ?_ ?_
      · rw [List.map_append]
        exact rl.append (.cons rfl .nil)
      · rw [List.length_map, List.length_append, List.length_singleton]; omega
    have k2 : ∀ b o, b ≠ S → g.get? b = some o → (g.update S (Obj.mapSeq (·.push (.ref s.heap.objs.size)))).get? b = some o := fun b o hb e => (Heap.get?_update_other _ _ (Ne.symm hb)).trans e
    refine ih (i + 1) _ _ (refs ++ [s.heap.objs.size]) (by omega) hlt I2 (N.keep _ _ _ st' k2) (fun b hb => ⟨?_, (hf b hb).2⟩) (by rw [List.length_append, hr]; rfl) (upd_same ..) (fun j t p hj hq => ?_) (fun b o e => ?_)
    · obtain ⟨o, eo⟩ := N.obj i _ st b hb
      rw [upd_ne (show b ≠ S from fun e => hSf (e ▸ hb)), upd_ne (Nat.ne_of_lt (Heap.lt_size eo))]
      exact (hf b hb).1
    · by_cases hjl : j < refs.length
      · rw [List.getElem?_append_left hjl] at hj
        obtain ⟨q1, q2, q3⟩ := hp j t p hj hq
        refine ⟨q1, q2, ?_⟩
        rw [upd_ne q2, upd_ne (fun e => by rw [e, hTn] at q3; cases q3)]
        exact q3
      · have hj2 := List.getElem?_append_right (l₁ := refs) (l₂ := [s.heap.objs.size]) (i := j) (by omega)
        rw [hj2] at hj
        have ej : j = i := by
          have := (List.getElem?_eq_some_iff.mp hj).1
          simp at this
          omega
        subst ej
        have et : t = s.heap.objs.size := by simp [hr] at hj; exact hj.symm
        subst et
        have ep : p = (xs[j], ys[j]) := by
          have : (xs.zip ys)[j]? = some (xs[j], ys[j]) := by simp [List.getElem?_zip_eq_some, hlt, (show j < ys.length by omega)]
          rw [this] at hq
          exact (Option.some.inj hq).symm
        subst ep
        refine ⟨?_, Ne.symm (Nat.ne_of_lt hSl), ?_⟩
        · exact hs.free hTn
        · rw [upd_ne (Ne.symm (Nat.ne_of_lt hSl))]
          exact upd_same ..
    · rw [upd_ne (fun q => by rw [q, hSn] at e; cases e), upd_ne (fun q => by have := hs b o e; rw [q, hTn] at this; cases this)]
      exact hs b o e
theorem nolen_zip : typeLookup (.type "zip") "__len__" = pure none := by rw [typeLookup_type, builtinLookup_eq_fast]; kernel_rfl
theorem nohint_zip : typeLookup (.type "zip") "__length_hint__" = pure none := by rw [typeLookup_type, builtinLookup_eq_fast]; kernel_rfl
/-- list of it -/
theorem nx_list {E : Value → Shared → Prop} {Q : Value → Shared → Prop} (hh : A.handled = none) (I : Inv X pins σ H s) (N : Nxt X.prog X.w fp z s.heap.objs.size us vs tn) (st : tn 0 s.heap) (hf : ∀ b ∈ fp, FpOk X pins H b) (hv : Vals xs us) (hw : Vals ys vs) (hl : xs.length = ys.length) (hz : xs.length ≤ sizeLine)
    (hQ : ∀ S s' H', Inv X pins σ H' s' → ZL H H' S (xs.zip ys) → Q (.ref S) s') : wpAny (model X.prog X.w) A (call (.type "list") [.ref z]) Q E s := by
  have hzl : z < s.heap.objs.size := let ⟨o, e⟩ := N.obj _ _ st z N.mem; Heap.lt_size e
  have hSz : s.heap.objs.size ≠ z := Nat.ne_of_gt hzl
  refine callType_codes (Q₁ := fun obj s₁ => obj = .ref s.heap.objs.size ∧ s₁ = { s with heap := s.heap.push { cls := .type "list", data := .seq #[] } }) F.called_list (F.typeCall_list_1 _) F.entry_list_init
    (code_list_new _ ⟨rfl, rfl⟩) fun obj s₁ h₁ => ?_
  obtain ⟨rfl, rfl⟩ := h₁
  have hS : (s.heap.push { cls := .type "list", data := .seq #[] }).get? s.heap.objs.size = some { cls := .type "list", data := .seq #[] } := Heap.get?_push_size _ rfl
  refine ⟨⟨_, hS, rfl⟩, F.args_list_init_2 _ _, ?_⟩
  show wpAny _ A.in1.in1 (do let old ← Builtin.List.listItems (.ref s.heap.objs.size); Builtin.List.listUpdate (.ref s.heap.objs.size) (fun _ => #[]); letGo old.toList.reverse; Builtin.List.listExtendWith (.ref s.heap.objs.size) (.ref z) .none) _ _ _
  refine wpAny_bind ?_
  unfold Builtin.List.listItems
  refine wpAny_bind (wpAny_seqItems hS rfl (wpAny_pure ?_))
  show wpAny _ A.in1.in1 (updateSeq s.heap.objs.size (fun _ => #[]) >>= fun _ => letGo (#[] : Array Value).toList.reverse >>= fun _ => Builtin.List.listExtendWith (.ref s.heap.objs.size) (.ref z) .none) _ _ _
  refine wpAny_bind (wpAny_updateSeq hS rfl ?_)
  have hS2 := Heap.get?_update_self (Obj.mapSeq (fun _ => (#[] : Array Value))) hS rfl
  refine wpAny_bind (wpAny_letGo ?_)
  unfold Builtin.List.listExtendWith
  have up : ∀ (h : Heap) (f : Obj → Obj), (∀ b o, s.heap.get? b = some o → h.get? b = some o) → ∀ b o, s.heap.get? b = some o → (h.update s.heap.objs.size f).get? b = some o := fun h f q b o e =>
    (Heap.get?_update_other _ _ (Ne.symm (Nat.ne_of_lt (Heap.lt_size e)))).trans (q b o e)
  have k1 : ∀ b o, s.heap.get? b = some o → (s.heap.push { cls := .type "list", data := .seq #[] }).get? b = some o := fun b o e => Heap.get?_push_of_some _ e
  have k2 := up _ (Obj.mapSeq (fun _ => (#[] : Array Value))) k1
  have ty : ∀ {h : Heap}, (∀ b o, s.heap.get? b = some o → h.get? b = some o) → ∃ o, h.get? z = some o ∧ o.cls = .type "zip" := fun {h} q => let ⟨o, e, c⟩ := N.typ _ _ st; ⟨o, q _ _ e, c⟩
  have st2 : tn 0 _ := N.keep _ _ _ st fun b o _ e => k2 b o e
  refine wpAny_bind (wpAny_typeOf (show Shared.TypeIs { s with heap := _ } (.ref z) "zip" from ty k2) ?_)
  have h1 : Builtin.List.listSameRef (.ref s.heap.objs.size) (.ref z) = false := by simp [Builtin.List.listSameRef, hSz]
  have h2 : (Value.type "zip" == Value.type "list") = false := by decide
  have h3 : (Value.type "zip" == Value.type "tuple") = false := by decide
  simp only [h1, h2, h3, Bool.or_false, Bool.false_eq_true, if_false]
  refine wpAny_bind (N.self _ _ { s with heap := _ } _ 0 st2 ?_)
  refine wpAny_bind (wpAny_holding ?_)
  unfold Builtin.List.listLengthHint
  refine wpAny_bind (wpAny_specialOf (show Shared.TypeIs { s with heap := _ } (.ref z) "zip" from ty k2) nolen_zip ?_)
  show wpAny _ A.in1.in1 (specialOf (Value.ref z) (Str.ofString "__length_hint__") >>= _) _ _ _
  refine wpAny_bind (wpAny_specialOf (show Shared.TypeIs { s with heap := _ } (.ref z) "zip" from ty k2) nohint_zip ?_)
  refine wpAny_pure ?_
  show wpAny _ A.in1.in1 (rule "list.extend.makes-room" >>= fun _ => Builtin.List.listTouch (.ref s.heap.objs.size) >>= fun _ =>
    again (.builtin "list.extend.loop" ⟨[.ref s.heap.objs.size, .ref z, .none], []⟩)) _ _ _
  refine wpAny_bind (wpAny_rule ?_)
  refine wpAny_bind ?_
  show wpAny _ A.in1.in1 (updateSeq s.heap.objs.size (·.push .none) >>= fun _ => updateSeq s.heap.objs.size (·.pop)) _ _ _
  refine wpAny_bind (wpAny_updateSeq hS2 rfl ?_)
  have hS3 := Heap.get?_update_self (Obj.mapSeq (·.push Value.none)) hS2 rfl
  refine wpAny_updateSeq (hz := by seq_fits) hS3 rfl ?_
  have hS4 := Heap.get?_update_self (Obj.mapSeq (·.pop)) hS3 rfl
  have k4 := up _ (Obj.mapSeq (·.pop)) (up _ (Obj.mapSeq (·.push Value.none)) k2)
  refine wpAny_pure ⟨plainId_quiet F.plain_extend_loop _, ?_⟩
  have hSn : H s.heap.objs.size = none := I.hok.fresh (Nat.le_refl _)
  have I4 : Inv X pins σ (upd H s.heap.objs.size (.lst [])) { s with heap := _ } := I.laid (t' := s.toks) k4 (Nat.le_refl _) (show ObjOk X.prog X.w _ _ _ (.lst []) from ⟨Nat.zero_le _, [], _, .nil, hS4⟩)
  refine nx_drain (X := X) (pins := pins) (σ := σ) (H := H) (A := A.in1) hh N hv hw hl hz hSn (fun s' H' I' zl => ⟨rfl, hQ _ s' H' I' zl⟩) xs.length 0 _ _ [] (by omega) (Nat.zero_le _) I4 (N.keep _ _ _ st fun b o _ e => k4 b o e) (fun b hb => ⟨?_, (hf b hb).2⟩) rfl (upd_same ..) (fun j t p hj _ => by simp at hj) (fun b o e => ?_)
  · obtain ⟨o, eo⟩ := N.obj _ _ st b hb
    rw [upd_ne (Nat.ne_of_lt (Heap.lt_size eo))]
    exact (hf b hb).1
  · rw [upd_ne (fun q => by rw [q, hSn] at e; cases e)]
    exact e
end
end WT

set_option Elab.async false
set_option linter.all false
set_option maxRecDepth 100000
set_option maxHeartbeats 2000000
/-! list(zip(a, b)), list(zip(a, t, strict=True)), for .. in zip(a, t, strict=True). -/
namespace WT
open PySem PySem.Spec PyProof.Rows L2
open PySem.W (ktu_apart)
section
variable {P : Program} {w : World} {z TI TO i1 i2 l1 l2 S : Addr} {us vs : List Value}
/-- the tuple that is out -/
def OutT (S z i1 i2 : Addr) (h : Heap) (f0 : Value) (f : Bool) : Prop := (f0 = .none ∧ f = false) ∨ ∃ (T : Addr) (oT : Obj), f0 = rawInt T ∧ h.get? T = some oT ∧ T ≠ S ∧ T ≠ z ∧ T ≠ i1 ∧ T ≠ i2
theorem nxt_strict (D : ZipApart z TI TO i1 i2 l1 l2) (dS : S ≠ z ∧ S ≠ TI ∧ S ≠ TO ∧ S ≠ i1 ∧ S ≠ i2 ∧ S ≠ l1 ∧ S ≠ l2) (hl : us.length = vs.length) :
    Nxt P w [z, TI, TO, i1, i2] z S us vs (fun i h => (∃ f0 f, ZipS h z TI TO f0 f ∧ OutT S z i1 i2 h f0 f) ∧ IsPair h TI (.ref i1) (.ref i2) ∧ (∃ x y, IsPair h TO x y) ∧ h.IsListIter i1 l1 i ∧ h.IsTupleIter i2 l2 i ∧ h.IsList l1 us.toArray ∧ h.IsTuple l2 vs.toArray) where
  mem := by simp
  obj := fun i h st c hc => by
    obtain ⟨⟨f0, f, hz, _⟩, hTI, ⟨x, y, hTO⟩, ⟨o1, e1, _⟩, ⟨o2, e2, _⟩, _⟩ := st
    have e' : c = z ∨ c = TI ∨ c = TO ∨ c = i1 ∨ c = i2 := by simpa using hc
    rcases e' with q | q | q | q | q
    · rw [q]; exact ⟨_, hz⟩
    · rw [q]; exact ⟨_, hTI⟩
    · rw [q]; exact ⟨_, hTO⟩
    · rw [q]; exact ⟨o1, e1⟩
    · rw [q]; exact ⟨o2, e2⟩
  typ := fun i h st => by
    obtain ⟨⟨f0, f, hz, _⟩, _⟩ := st
    exact ⟨_, hz, rfl⟩
  keep := fun i h h' st k => by
    obtain ⟨⟨f0, f, hz, ho⟩, hTI, ⟨x, y, hTO⟩, h1, h2, hl1, hl2⟩ := st
    refine ⟨⟨f0, f, k _ _ (Ne.symm dS.1) hz, ?_⟩, k _ _ (Ne.symm dS.2.1) hTI, ⟨x, y, k _ _ (Ne.symm dS.2.2.1) hTO⟩, h1.at fun o e => k _ o (Ne.symm dS.2.2.2.1) e, h2.at fun o e => k _ o (Ne.symm dS.2.2.2.2.1) e, hl1.at fun o e => k _ o (Ne.symm dS.2.2.2.2.2.1) e, hl2.at fun o e => k _ o (Ne.symm dS.2.2.2.2.2.2) e⟩
    rcases ho with q | ⟨T, oT, q1, q2, q3, q4⟩
    · exact .inl q
    · exact .inr ⟨T, oT, q1, k _ _ q3 q2, q3, q4⟩
  item := fun A E s Q i x y st hS hx hy hQ => by
    obtain ⟨⟨f0, f, hz, ho⟩, hTI, ⟨x0, y0, hTO⟩, h1, h2, hl1, hl2⟩ := st
    have lt : ∀ {c o}, s.heap.get? c = some o → s.heap.objs.size ≠ c := fun e => Nat.ne_of_gt (Heap.lt_size e)
    have n1 : s.heap.objs.size ≠ i1 := let ⟨_, e, _⟩ := h1; lt e
    have n2 : s.heap.objs.size ≠ i2 := let ⟨_, e, _⟩ := h2; lt e
    have nz : s.heap.objs.size ≠ z := lt hz
    have nS : s.heap.objs.size ≠ S := Nat.ne_of_gt hS
    refine next_of (v := .none) ⟨_, hz, rfl⟩ ?_
    rcases ho with ⟨rfl, rfl⟩ | ⟨T, oT, rfl, hT, t1, t2, t3, t4⟩
    · refine zipS_item D hz hTI hTO h1 h2 hl1 hl2 (x := x) (y := y) (by simpa using hx) (by simpa using hy) fun g a1 a2 a3 a4 a5 a6 k => ?_
      refine hQ g ⟨⟨_, _, a1, .inr ⟨_, _, rfl, a5, nS, nz, n1, n2⟩⟩, k _ _ D.TIz D.TITO D.TIi1 D.TIi2 hTI, ⟨_, _, a2⟩, a3, a4, hl1.at fun o e => k _ o D.l1z D.l1TO D.l1i1 D.l1i2 e, hl2.at fun o e => k _ o D.l2z D.l2TO D.l2i1 D.l2i2 e⟩ a5 a6 fun c o hc e => ?_
      exact k c o (fun q => hc (by simp [q])) (fun q => hc (by simp [q])) (fun q => hc (by simp [q])) (fun q => hc (by simp [q])) e
    · refine zipS_item_held D hz hT hTI h1 h2 hl1 hl2 (x := x) (y := y) (by simpa using hx) (by simpa using hy) fun g a1 a3 a4 a5 a6 k => ?_
      refine hQ g ⟨⟨_, _, a1, .inr ⟨_, _, rfl, k _ _ t2 t3 t4 hT, t1, t2, t3, t4⟩⟩, k _ _ D.TIz D.TIi1 D.TIi2 hTI, ⟨x0, y0, k _ _ D.TOz D.TOi1 D.TOi2 hTO⟩, a3, a4, hl1.at fun o e => k _ o D.l1z D.l1i1 D.l1i2 e, hl2.at fun o e => k _ o D.l2z D.l2i1 D.l2i2 e⟩ a5 a6 fun c o hc e => ?_
      exact k c o (fun q => hc (by simp [q])) (fun q => hc (by simp [q])) (fun q => hc (by simp [q])) e
  done := fun A E s Q i hh st hx hy hQ => by
    obtain ⟨⟨f0, f, hz, ho⟩, hTI, ⟨x0, y0, hTO⟩, h1, h2, hl1, hl2⟩ := st
    refine next_of (v := .none) ⟨_, hz, rfl⟩ ?_
    rcases ho with ⟨rfl, rfl⟩ | ⟨T, oT, rfl, hT, t1, t2, t3, t4⟩
    · refine zipS_end (A := A.in1) hh D hz hTI hTO h1 h2 hl1 hl2 (by simpa using hx) (by simpa using hy) fun g e k he => ?_
      obtain ⟨o, eo, ec⟩ := he
      exact ⟨e, o, rfl, eo, ec, hQ g fun c o hc e => k c o (fun q => hc (by simp [q])) (fun q => hc (by simp [q])) (fun q => hc (by simp [q])) (fun q => hc (by simp [q])) e⟩
    · refine zipS_end_held (A := A.in1) hh D hz hT hTI h1 h2 hl1 hl2 (by simpa using hx) (by simpa using hy) fun g e k he => ?_
      obtain ⟨o, eo, ec⟩ := he
      exact ⟨e, o, rfl, eo, ec, hQ g fun c o hc e => k c o (fun q => hc (by simp [q])) (fun q => hc (by simp [q])) (fun q => hc (by simp [q])) e⟩
  self := fun A E s Q i st h => by
    obtain ⟨⟨f0, f, hz, _⟩, _⟩ := st
    refine wpAny_pyIter_slot (T := "zip") ⟨_, hz, rfl⟩ F.slot_zip_iter (wpAny_call_entry (T := "zip") F.slot_zip_iter ⟨_, hz, rfl⟩ F.entry_zip_iter ?_ (F.args_zip_iter_1 _))
    show wpAny _ _ (ret (.ref z)) _ _ s
    exact wpAny_pure ⟨_, rfl, "zip", _, ⟨_, hz, rfl⟩, F.slot_zip_next.lookup, h⟩
theorem nxt_plain (D : ZipApart z TI TO i1 i2 l1 l2) (dS : S ≠ z ∧ S ≠ TI ∧ S ≠ TO ∧ S ≠ i1 ∧ S ≠ i2 ∧ S ≠ l1 ∧ S ≠ l2) (hl : us.length = vs.length) :
    Nxt P w [z, TI, TO, i1, i2] z S us vs (fun i h => ((IsZip h z TI TO .none) ∨ ∃ T f oT, IsZipHeld h z TI TO T f ∧ h.get? T = some oT ∧ T ≠ S ∧ T ≠ z ∧ T ≠ i1 ∧ T ≠ i2) ∧ IsPair h TI (.ref i1) (.ref i2) ∧ (∃ x y, IsPair h TO x y) ∧ h.IsListIter i1 l1 i ∧ h.IsListIter i2 l2 i ∧ h.IsList l1 us.toArray ∧ h.IsList l2 vs.toArray) where
  mem := by simp
  obj := fun i h st c hc => by
    obtain ⟨hz, hTI, ⟨x, y, hTO⟩, ⟨o1, e1, _⟩, ⟨o2, e2, _⟩, _⟩ := st
    have e' : c = z ∨ c = TI ∨ c = TO ∨ c = i1 ∨ c = i2 := by simpa using hc
    rcases e' with q | q | q | q | q
    · rw [q]
      rcases hz with hz | ⟨_, _, _, hz, _⟩ <;> exact ⟨_, hz⟩
    · rw [q]; exact ⟨_, hTI⟩
    · rw [q]; exact ⟨_, hTO⟩
    · rw [q]; exact ⟨o1, e1⟩
    · rw [q]; exact ⟨o2, e2⟩
  typ := fun i h st => by
    obtain ⟨hz, _⟩ := st
    rcases hz with hz | ⟨_, _, _, hz, _⟩ <;> exact ⟨_, hz, rfl⟩
  keep := fun i h h' st k => by
    obtain ⟨hz, hTI, ⟨x, y, hTO⟩, h1, h2, hl1, hl2⟩ := st
    refine ⟨?_, k _ _ (Ne.symm dS.2.1) hTI, ⟨x, y, k _ _ (Ne.symm dS.2.2.1) hTO⟩, h1.at fun o e => k _ o (Ne.symm dS.2.2.2.1) e, h2.at fun o e => k _ o (Ne.symm dS.2.2.2.2.1) e, hl1.at fun o e => k _ o (Ne.symm dS.2.2.2.2.2.1) e, hl2.at fun o e => k _ o (Ne.symm dS.2.2.2.2.2.2) e⟩
    rcases hz with hz | ⟨T, f, oT, hz, q2, q3, q4⟩
    · exact .inl (k _ _ (Ne.symm dS.1) hz)
    · exact .inr ⟨T, f, oT, k _ _ (Ne.symm dS.1) hz, k _ _ q3 q2, q3, q4⟩
  item := fun A E s Q i x y st hS hx hy hQ => by
    obtain ⟨hz, hTI, ⟨x0, y0, hTO⟩, h1, h2, hl1, hl2⟩ := st
    have lt : ∀ {c o}, s.heap.get? c = some o → s.heap.objs.size ≠ c := fun e => Nat.ne_of_gt (Heap.lt_size e)
    have n1 : s.heap.objs.size ≠ i1 := let ⟨_, e, _⟩ := h1; lt e
    have n2 : s.heap.objs.size ≠ i2 := let ⟨_, e, _⟩ := h2; lt e
    have nS : s.heap.objs.size ≠ S := Nat.ne_of_gt hS
    rcases hz with hz | ⟨T, f, oT, hz, hT, t1, t2, t3, t4⟩
    · refine wpAny_pyNext_zip_item D hz hTI hTO h1 h2 hl1 hl2 (x := x) (y := y) (by simpa using hx) (by simpa using hy) fun g a1 a2 a3 a4 a5 a6 k => ?_
      refine hQ g ⟨.inr ⟨_, false, _, a1, a5, nS, lt hz, n1, n2⟩, k _ _ D.TIz D.TITO D.TIi1 D.TIi2 hTI, ⟨_, _, a2⟩, a3, a4, hl1.at fun o e => k _ o D.l1z D.l1TO D.l1i1 D.l1i2 e, hl2.at fun o e => k _ o D.l2z D.l2TO D.l2i1 D.l2i2 e⟩ a5 a6 fun c o hc e => ?_
      exact k c o (fun q => hc (by simp [q])) (fun q => hc (by simp [q])) (fun q => hc (by simp [q])) (fun q => hc (by simp [q])) e
    · refine wpAny_pyNext_zip_item_held D hz hT hTI h1 h2 hl1 hl2 (x := x) (y := y) (by simpa using hx) (by simpa using hy) fun g a1 a3 a4 a5 a6 k => ?_
      refine hQ g ⟨.inr ⟨_, true, _, a1, k _ _ t2 t3 t4 hT, t1, t2, t3, t4⟩, k _ _ D.TIz D.TIi1 D.TIi2 hTI, ⟨x0, y0, k _ _ D.TOz D.TOi1 D.TOi2 hTO⟩, a3, a4, hl1.at fun o e => k _ o D.l1z D.l1i1 D.l1i2 e, hl2.at fun o e => k _ o D.l2z D.l2i1 D.l2i2 e⟩ a5 a6 fun c o hc e => ?_
      exact k c o (fun q => hc (by simp [q])) (fun q => hc (by simp [q])) (fun q => hc (by simp [q])) e
  done := fun A E s Q i hh st hx hy hQ => by
    obtain ⟨hz, hTI, ⟨x0, y0, hTO⟩, h1, h2, hl1, hl2⟩ := st
    rcases hz with hz | ⟨T, f, oT, hz, hT, t1, t2, t3, t4⟩
    · exact wpAny_pyNext_zip_end hh D hz hTI hTO h1 h2 hl1 hl2 (.inl (by simpa using hx)) fun g k => hQ g fun c o hc e => k c o (fun q => hc (by simp [q])) (fun q => hc (by simp [q])) (fun q => hc (by simp [q])) (fun q => hc (by simp [q])) e
    · exact wpAny_pyNext_zip_end_held hh D hz hT hTI h1 h2 hl1 hl2 (.inl (by simpa using hx)) fun g k => hQ g fun c o hc e => k c o (fun q => hc (by simp [q])) (fun q => hc (by simp [q])) (fun q => hc (by simp [q])) e
  self := fun A E s Q i st h => by
    obtain ⟨hz, _⟩ := st
    have hT : s.TypeIs (.ref z) "zip" := by rcases hz with hz | ⟨T, f, oT, hz, _⟩ <;> exact ⟨_, hz, rfl⟩
    refine wpAny_pyIter_slot hT F.slot_zip_iter (wpAny_call_entry F.slot_zip_iter hT F.entry_zip_iter ?_ (F.args_zip_iter_1 _))
    show wpAny _ _ (ret (.ref z)) _ _ s
    exact wpAny_pure ⟨_, rfl, "zip", _, hT, F.slot_zip_next.lookup, h⟩
end
section
variable {X : Cx}
theorem fresh5 {pins : List (Addr × Obj)} {σ : L2.St} {H : Hp} {s : Shared} (I : Inv X pins σ H s) : ∀ c, c ∈ [s.heap.objs.size + 4, s.heap.objs.size + 2, s.heap.objs.size + 3, s.heap.objs.size, s.heap.objs.size + 1] → FpOk X pins H c := fun c hcm => by
  have e' : c = s.heap.objs.size + 4 ∨ c = s.heap.objs.size + 2 ∨ c = s.heap.objs.size + 3 ∨ c = s.heap.objs.size ∨ c = s.heap.objs.size + 1 := by simpa using hcm
  have hle : s.heap.objs.size ≤ c := by
    rcases e' with z | z | z | z | z <;> rw [z]
    · exact Nat.le_add_right _ _
    · exact Nat.le_add_right _ _
    · exact Nat.le_add_right _ _
    · exact Nat.le_refl _
    · exact Nat.le_add_right _ _
  exact I.fpOk hle (I.hok.fresh hle)
theorem apart5 {n a b : Nat} (ha : a < n) (hb : b < n) : n + 5 ≠ n + 4 ∧ n + 5 ≠ n + 2 ∧ n + 5 ≠ n + 3 ∧ n + 5 ≠ n ∧ n + 5 ≠ n + 1 ∧ n + 5 ≠ a ∧ n + 5 ≠ b := by
  refine ⟨?_, ?_, ?_, ?_, ?_, ?_, ?_⟩ <;> omega
/-- list(zip(a, b)), lists of one length -/
def tLZ (K : PySem.W.Frag) (ta : TA) : TE := fun σ H Q => ta σ H fun vs H1 => ∃ a b xs ys, vs = [.ref a, .ref b] ∧ SqL K H1 a xs ∧ SqL K H1 b ys ∧ xs.length = ys.length ∧ ∀ S H', ZL H1 H' S (xs.zip ys) → Q (.ref S) H'
/-- list(zip(a, t, strict=True)), of one length -/
def tLZS (K : PySem.W.Frag) (ta : TA) : TE := fun σ H Q => ta σ H fun vs H1 => ∃ a b xs ys, vs = [.ref a, .ref b] ∧ SqL K H1 a xs ∧ SqT K H1 b ys ∧ xs.length = ys.length ∧ ∀ S H', ZL H1 H' S (xs.zip ys) → Q (.ref S) H'
variable {e e2 : Expr} {ta : TA} {p p2 p3 pos pos2 kpos : Pos} {jj : Nat}
theorem one_arg {M : Model} {A : Around} {E : Value → Shared → Prop} {s : Shared} {T : String} {a : Expr} {env : Env} {Q : Value → Shared → Prop} (h : wpAny M A (eval a env) (fun v s1 => wpAny M A (call (.type T) [v]) Q E s1) E s)
    (he : starEach [a] env = (false, eval a env) :: starEach [] env := by rfl) : wpAny M A (callWith pos (.type T) [] (backTo pos (starEach [a] env)) []) Q E s :=
  PyProof.Rows.callWith_type1 (PyProof.Rows.args_cons (thn h fun v s1 q => PyProof.Rows.args_nil q) he) he rfl
theorem zip_kw {M : Model} {A : Around} {E : Value → Shared → Prop} {s : Shared} {env : Env} {Q : Value → Shared → Prop}
    (hall : (backToKw pos2 (keywordEach [⟨some "strict", .Constant (.bool true) jj p3, kpos⟩] env)).all (·.1.isSome) = true)
    (hpl : ((backTo pos2 (starEach [e, e2] env)).any (·.1) || (backToKw pos2 (keywordEach [⟨some "strict", .Constant (.bool true) jj p3, kpos⟩] env)).any (·.1.isNone)) = false)
    (hs : starEach [e, e2] env = (false, eval e env) :: starEach [e2] env)
    (h : wpAny M A (spliced (backTo pos2 (starEach [e, e2] env))) (fun vs s1 => wpAny M A (call (.type "zip") vs kS) Q E s1) E s) :
    wpAny M A (callWith pos2 (.type "zip") [] (backTo pos2 (starEach [e, e2] env)) (backToKw pos2 (keywordEach [⟨some "strict", .Constant (.bool true) jj p3, kpos⟩] env))) Q E s := by
  unfold callWith
  refine wpAny_bind (wpAny_holding (thn (PyProof.Rows.evalArgs_kw2 (Q := fun a s1 => wpAny M A (call (.type "zip") a.pos a.kw) Q E s1) hall (thn h fun vs s1 q => ?_) hs) fun a s1 h1 => wpAny_bind (wpAny_standAt ?_)))
  · exact PyProof.Rows.kwAll_cons (Constant_bool (PyProof.Rows.kwAll_nil q))
  · rw [hpl]
    refine wpAny_bind (wpAny_pure ?_)
    exact wpAny_bind (wpAny_mono h1 (fun r s₂ hr => wpAny_bind (wpAny_holding (wpAny_point (wpAny_pure hr)))) fun _ _ x => x)
theorem pe_lz (hc : X.calm = true) (hgl : Gl X "list") (hml : X.mg "list" = none) (hg : Gl X "zip") (hm : X.mg "zip" = none) (ha : PA X [e, e2] ta)
    (hs : starEach [e, e2] X.env = (false, eval e X.env) :: starEach [e2] X.env := by rfl) (hpl : (backTo pos2 (starEach [e2] X.env)).any (·.1) = false := by rfl)
    (he : starEach [.Call (.Name "zip" p2) [e, e2] [] pos2] X.env = (false, eval (.Call (.Name "zip" p2) [e, e2] [] pos2) X.env) :: starEach [] X.env := by rfl) :
    PE X (.Call (.Name "list" p) [.Call (.Name "zip" p2) [e, e2] [] pos2] [] pos) (tLZ X.K ta) := by
  refine ⟨fun pins s σ H Q I h => ?_⟩
  refine wpAny_Call_Name_kw (ld_blt I hgl hml (by rfl) (one_arg ?_ he))
  refine Call_ (ld_blt I hg hm PyProof.Rows.boot_zip (PyProof.Rows.callWith_type1 (thn (ha.run pos2 pins s σ H _ I h) fun us s1 ⟨vs, H1, I1, r1, q1⟩ => ?_) hs hpl))
  obtain ⟨a, b, xs, ys, ex, hqx, hqy, hl, q⟩ := q1
  subst ex
  cases r1 with
  | cons r rr =>
    cases rr with
    | cons r' rr =>
      cases rr
      cases r
      cases r'
      obtain ⟨its, rv, p1, z1⟩ := I1.list hqx
      obtain ⟨its2, rv2, p2, z2⟩ := I1.list hqy
      refine call_zip_2 p1.isList p2.isList fun h' hz hTI hTO h1 h2 hsz hk => ?_
      have I2 : Inv X pins σ H1 { s1 with heap := h' } := I1.kept (t' := s1.toks) hk
      have la := p1.lt
      have lb := p2.lt
      have D := ktu_apart s1.heap.objs.size a b la lb
      refine nx_list (X := X) (pins := pins) (σ := σ) (H := H1) (s := { s1 with heap := h' }) (I1.ok.hd hc) I2 (nxt_plain (S := h'.objs.size) (us := its) (vs := its2) D (by rw [hsz]; exact apart5 la lb) (by rw [← rv.length, ← rv2.length, hl])) ⟨.inl hz, hTI, ⟨_, _, hTO⟩, h1, h2, p1.isList.at fun o e => hk _ o e, p2.isList.at fun o e => hk _ o e⟩ (fresh5 I1) rv rv2 hl z1
        fun S s' H' I' zl => ⟨.ref S, H', I', rfl, q S H' zl⟩
theorem pe_lzs (hc : X.calm = true) (hgl : Gl X "list") (hml : X.mg "list" = none) (hg : Gl X "zip") (hm : X.mg "zip" = none) (ha : PA X [e, e2] ta)
    (hs : starEach [e, e2] X.env = (false, eval e X.env) :: starEach [e2] X.env := by rfl) (hpl : ((backTo pos2 (starEach [e, e2] X.env)).any (·.1) || (backToKw pos2 (keywordEach [⟨some "strict", .Constant (.bool true) jj p3, kpos⟩] X.env)).any (·.1.isNone)) = false := by rfl)
    (hall : (backToKw pos2 (keywordEach [⟨some "strict", .Constant (.bool true) jj p3, kpos⟩] X.env)).all (·.1.isSome) = true := by rfl)
    (he : starEach [.Call (.Name "zip" p2) [e, e2] [⟨some "strict", .Constant (.bool true) jj p3, kpos⟩] pos2] X.env = (false, eval (.Call (.Name "zip" p2) [e, e2] [⟨some "strict", .Constant (.bool true) jj p3, kpos⟩] pos2) X.env) :: starEach [] X.env := by rfl) :
    PE X (.Call (.Name "list" p) [.Call (.Name "zip" p2) [e, e2] [⟨some "strict", .Constant (.bool true) jj p3, kpos⟩] pos2] [] pos) (tLZS X.K ta) := by
  refine ⟨fun pins s σ H Q I h => ?_⟩
  refine wpAny_Call_Name_kw (ld_blt I hgl hml (by rfl) (one_arg ?_ he))
  refine wpAny_Call_Name_kw (ld_blt I hg hm PyProof.Rows.boot_zip ?_)
  refine zip_kw hall hpl hs (thn (ha.run pos2 pins s σ H _ I h) fun us s1 ⟨vs, H1, I1, r1, q1⟩ => ?_)
  obtain ⟨a, b, xs, ys, ex, hqx, hqy, hl, q⟩ := q1
  subst ex
  cases r1 with
  | cons r rr =>
    cases rr with
    | cons r' rr =>
      cases rr
      cases r
      cases r'
      obtain ⟨its, rv, p1, z1⟩ := I1.list hqx
      obtain ⟨its2, rv2, p2, z2⟩ := I1.tuple hqy
      obtain ⟨o2, ho2, _⟩ := id p2
      refine call_zs (ys := its2.toArray) p1.isList p2 fun h' hz hTI hTO h1 h2 hsz hk => ?_
      have I2 : Inv X pins σ H1 { s1 with heap := h' } := I1.kept (t' := s1.toks) hk
      have la := p1.lt
      have lb := Heap.lt_size ho2
      have D := ktu_apart s1.heap.objs.size a b la lb
      have p2' : h'.IsTuple b its2.toArray := Heap.IsTuple.at (show s1.heap.IsTuple b its2.toArray from p2) fun o e => hk _ o e
      exact nx_list (X := X) (pins := pins) (σ := σ) (H := H1) (s := { s1 with heap := h' }) (I1.ok.hd hc) I2 (nxt_strict (S := h'.objs.size) (us := its) (vs := its2) D (by rw [hsz]; exact apart5 la lb) (by rw [← rv.length, ← rv2.length, hl]))
        ⟨⟨_, _, hz, .inl ⟨rfl, rfl⟩⟩, hTI, ⟨_, _, hTO⟩, h1, h2, p1.isList.at fun o e => hk _ o e, p2'⟩ (fresh5 I1) rv rv2 hl z1
        fun S s' H' I' zl => ⟨.ref S, H', I', rfl, q S H' zl⟩
/-! ### for .. in zip(a, t, strict=True) -/
def ItzS (K : PySem.W.Frag) (a b : Addr) : It :=
  ⟨fun i H => ∃ (xs ys : List V) (x y : V), SqL K H a xs ∧ SqT K H b ys ∧ xs[i]? = some x ∧ ys[i]? = some y,
    fun i H v H' => ∃ T x y, v = .ref T ∧ H T = none ∧ H' = upd H T (.tup [x, y]) ∧ (∀ xs, SqL K H a xs → xs[i]? = some x) ∧ ∀ ys, SqT K H b ys → ys[i]? = some y,
    fun i H => ∃ xs ys : List V, SqL K H a xs ∧ SqT K H b ys ∧ xs.length ≤ i ∧ ys.length ≤ i⟩
theorem zipS_go {P : Program} {w : World} {A : Around} {E : Value → Shared → Prop} {s : Shared} {elts : List Expr} {kk : Nat} {tpos : Pos} {z TI TO T : Addr} {f : Bool} {Q : Unit → Shared → Prop} (hz : ZipS s.heap z TI TO (rawInt T) f)
    (hQ : ∀ h', ZipS h' z TI TO .none f → Heap.SameBut z s.heap h' → Q () { s with heap := h' }) : wpAny (model P w) A (letOwnedTupleGo (.Tuple elts kk tpos) (.ref z) (.ref T)) Q E s := by
  unfold letOwnedTupleGo
  refine wpAny_bind (wpAny_load hz ?_)
  show wpAny _ _ (if (["enumerate", "zip", "dict_itemiterator", "dict_reverseitemiterator", "odict_iterator", "itertools.zip_longest", "itertools.pairwise"].contains "zip" &&
      (#[rawInt T, .bool f, .bool true, .ref TI, .ref TO] : Array Value)[0]? == some (rawInt T)) = true then _ else _) Q E s
  rw [if_pos (by simp)]
  refine wpAny_bind (wpAny_rule ?_)
  show wpAny _ _ (setField (.ref z) 0 .none) Q E s
  exact wpAny_setField_rec hz (by simp) fun h' hz' hs' => hQ h' hz' hs'
theorem turn_zs {P : Program} {w : World} {K : PySem.W.Frag} {elts : List Expr} {kk : Nat} {tpos : Pos} {a b z TI TO i1 i2 : Addr} (D : ZipApart z TI TO i1 i2 a b) :
    Turn P w K (.Tuple elts kk tpos) (ItzS K a b) [z, TI, TO, i1, i2] z (fun i h => ZipS h z TI TO .none false ∧ IsPair h TI (.ref i1) (.ref i2) ∧ (∃ x y, IsPair h TO x y) ∧ h.IsListIter i1 a i ∧ h.IsTupleIter i2 b i) where
  mem := by simp
  obj := fun i h st c hc => by
    obtain ⟨hz, hTI, ⟨x, y, hTO⟩, ⟨o1, e1, _, d1⟩, ⟨o2, e2, _, d2⟩⟩ := st
    have e' : c = z ∨ c = TI ∨ c = TO ∨ c = i1 ∨ c = i2 := by simpa using hc
    rcases e' with q | q | q | q | q <;> rw [q]
    · exact ⟨_, hz, fun v q => nomatch q⟩
    · exact ⟨_, hTI, fun v q => nomatch q⟩
    · exact ⟨_, hTO, fun v q => nomatch q⟩
    · exact ⟨o1, e1, fun v q => by rw [d1] at q; cases q⟩
    · exact ⟨o2, e2, fun v q => by rw [d2] at q; cases q⟩
  keep := fun i h h' st k => by
    obtain ⟨hz, hTI, ⟨x, y, hTO⟩, h1, h2⟩ := st
    exact ⟨k z (by simp) _ hz, k TI (by simp) _ hTI, ⟨x, y, k TO (by simp) _ hTO⟩, h1.at fun o q => k i1 (by simp) o q, h2.at fun o q => k i2 (by simp) o q⟩
  item := by
    intro X hP hw hK hc i pins s σ H E I hf st hg
    subst hP hw hK
    obtain ⟨hz, hTI, ⟨x0, y0, hTO⟩, h1, h2⟩ := st
    obtain ⟨xs, ys, x, y, hqx, hqy, hx, hy⟩ := hg
    obtain ⟨its, rv, p, _⟩ := I.list hqx
    obtain ⟨its2, rv2, p2, _⟩ := I.tuple hqy
    obtain ⟨u, hu, ru⟩ := rv.get hx
    obtain ⟨u2, hu2, ru2⟩ := rv2.get hy
    have hzl : z < s.heap.objs.size := Heap.lt_size hz
    refine next_of (v := .none) ⟨_, hz, rfl⟩ (zipS_item D hz hTI hTO h1 h2 p.isList p2 (x := u) (y := u2) (by simpa using hu) (by simpa using hu2) fun h' z' TO' h1' h2' hT hsz hk => ?_)
    refine ⟨_, rfl, zipS_go (s := { s with heap := h' }) z' fun h'' z'' sb => ?_⟩
    have hT2 : h''.get? s.heap.objs.size = some { cls := .type "tuple", data := .seq #[u, u2] } := (sb.2 _ (Nat.ne_of_gt hzl)).trans hT
    have new : ObjOk X.prog X.w (upd H s.heap.objs.size (.tup [x, y])) h'' s.heap.objs.size (.tup [x, y]) :=
      ⟨by show 2 ≤ sizeLine; decide, [u, u2], .cons ru (.cons ru2 .nil), ⟨_, hT2, rfl, _, rfl⟩⟩
    have kk : ∀ c o, c ∉ [z, TI, TO, i1, i2] → s.heap.get? c = some o → h''.get? c = some o := fun c o hb q =>
      (sb.2 c (fun q' => hb (by simp [q']))).trans (hk c o (fun q' => hb (by simp [q'])) (fun q' => hb (by simp [q'])) (fun q' => hb (by simp [q'])) (fun q' => hb (by simp [q'])) q)
    have I1 : Inv X pins σ (upd H s.heap.objs.size (.tup [x, y])) { s with heap := h'' } := I.turnedNew (t' := s.toks) (ch := [z, TI, TO, i1, i2]) kk hf (Nat.le_refl _) new
    refine ⟨.ref s.heap.objs.size, _, I1, rfl, ⟨_, x, y, rfl, I.hok.fresh (Nat.le_refl _), rfl, fun l hl => by rw [I.list_inj hl hqx]; exact hx, fun l hl => by rw [I.tuple_inj hl hqy]; exact hy⟩, ⟨z'', ?_, ⟨u, u2, ?_⟩, ?_, ?_⟩, fun c hcm => ?_⟩
    · exact (sb.2 _ D.TIz).trans (hk _ _ D.TIz D.TITO D.TIi1 D.TIi2 hTI)
    · exact (sb.2 _ D.TOz).trans TO'
    · exact h1'.at fun o q => (sb.2 _ D.i1z).trans q
    · exact h2'.at fun o q => (sb.2 _ D.i2z).trans q
    · have hlt : c < s.heap.objs.size := by
        have e' : c = z ∨ c = TI ∨ c = TO ∨ c = i1 ∨ c = i2 := by simpa using hcm
        rcases e' with q | q | q | q | q <;> rw [q]
        · exact hzl
        · exact Heap.lt_size hTI
        · exact Heap.lt_size hTO
        · obtain ⟨_, e1, _⟩ := h1; exact Heap.lt_size e1
        · obtain ⟨_, e2, _⟩ := h2; exact Heap.lt_size e2
      rw [upd_ne (Nat.ne_of_lt hlt)]
      exact (hf c hcm).1
  done := by
    intro X hP hw hK hc i pins s σ H E I hf st hg
    subst hP hw hK
    obtain ⟨hz, hTI, ⟨x0, y0, hTO⟩, h1, h2⟩ := st
    obtain ⟨xs, ys, hqx, hqy, hx, hy⟩ := hg
    obtain ⟨its, rv, p, _⟩ := I.list hqx
    obtain ⟨its2, rv2, p2, _⟩ := I.tuple hqy
    have l1 := rv.length
    have l2 := rv2.length
    refine next_of (v := .none) ⟨_, hz, rfl⟩ (zipS_end (A := X.A.in1) (I.ok.hd hc) D hz hTI hTO h1 h2 p.isList p2 (by simp; omega) (by simp; omega) fun g e k he => ?_)
    obtain ⟨o, eo, ec⟩ := he
    exact ⟨e, o, rfl, eo, ec, rfl, I.turnedL (t' := s.toks) (ch := [z, TI, TO, i1, i2]) (fun c o hb q =>
      k c o (fun q' => hb (by simp [q'])) (fun q' => hb (by simp [q'])) (fun q' => hb (by simp [q'])) (fun q' => hb (by simp [q'])) q) hf⟩
  self := fun A i s Q E st h => by
    obtain ⟨hz, _⟩ := st
    have hT : s.TypeIs (.ref z) "zip" := ⟨_, hz, rfl⟩
    refine wpAny_pyIter_slot hT F.slot_zip_iter (wpAny_call_entry F.slot_zip_iter hT F.entry_zip_iter ?_ (F.args_zip_iter_1 _))
    show wpAny _ _ (ret (.ref z)) _ _ s
    exact wpAny_pure ⟨_, rfl, "zip", _, hT, F.slot_zip_next.lookup, h⟩
def iZipS (K : PySem.W.Frag) (ta : TA) : TI := fun σ H R => ta σ H fun vs H1 => ∃ a b xs ys, vs = [.ref a, .ref b] ∧ SqL K H1 a xs ∧ SqT K H1 b ys ∧ R (ItzS K a b) H1
theorem pi_zs {tpos : Pos} {elts : List Expr} {kk : Nat} (hg : Gl X "zip") (hm : X.mg "zip" = none) (ha : PA X [e, e2] ta)
    (hs : starEach [e, e2] X.env = (false, eval e X.env) :: starEach [e2] X.env := by rfl) (hpl : ((backTo pos2 (starEach [e, e2] X.env)).any (·.1) || (backToKw pos2 (keywordEach [⟨some "strict", .Constant (.bool true) jj p3, kpos⟩] X.env)).any (·.1.isNone)) = false := by rfl)
    (hall : (backToKw pos2 (keywordEach [⟨some "strict", .Constant (.bool true) jj p3, kpos⟩] X.env)).all (·.1.isSome) = true := by rfl) :
    PI X (.Tuple elts kk tpos) (.Call (.Name "zip" p2) [e, e2] [⟨some "strict", .Constant (.bool true) jj p3, kpos⟩] pos2) (iZipS X.K ta) := by
  refine ⟨fun pins s σ H R I h => ?_⟩
  refine wpAny_Call_Name_kw (ld_blt I hg hm PyProof.Rows.boot_zip ?_)
  refine zip_kw hall hpl hs (thn (ha.run pos2 pins s σ H _ I h) fun us s1 ⟨vs, H1, I1, r1, q1⟩ => ?_)
  obtain ⟨a, b, xs, ys, ex, hqx, hqy, q⟩ := q1
  subst ex
  cases r1 with
  | cons r rr =>
    cases rr with
    | cons r' rr =>
      cases rr
      cases r
      cases r'
      obtain ⟨its, rv, p1, _⟩ := I1.list hqx
      obtain ⟨its2, rv2, p2, _⟩ := I1.tuple hqy
      obtain ⟨o2, ho2, _⟩ := id p2
      refine call_zs (ys := its2.toArray) p1.isList p2 fun h' hz hTI hTO h1 h2 hsz hk => ?_
      have I2 : Inv X pins σ H1 { s1 with heap := h' } := I1.kept (t' := s1.toks) hk
      have T := turn_zs (P := X.prog) (w := X.w) (K := X.K) (elts := elts) (kk := kk) (tpos := tpos) (ktu_apart s1.heap.objs.size a b p1.lt (Heap.lt_size ho2))
      exact T.self _ 0 { s1 with heap := h' } _ _ ⟨hz, hTI, ⟨_, _, hTO⟩, h1, h2⟩ ⟨_, _, _, _, H1, rfl, I2, T, ⟨hz, hTI, ⟨_, _, hTO⟩, h1, h2⟩, fresh5 I1, q⟩
end
end WT

set_option Elab.async false
set_option linter.all false
set_option maxRecDepth 100000
set_option maxHeartbeats 2000000
/-! {elt for target in a walked thing}, elt an int or a text, no if. -/
namespace WT
open PySem PySem.Spec PyProof.Rows L2
section
variable {X : Cx}
/-- the set at D grows by the key k -/
abbrev setMore (P : Program) (w : World) (H : Hp) (D : Addr) (S : Key → Bool) (n : Nat) (k : Key) : Hp := upd H D (SetK P w D (fun j => S j || decide (j = k)) (if S k = true then n else n + 1))
def tSk (P : Program) (w : World) (wi : TI) (g : TG) (te : TE) (vs : List Nat) : TE := fun σ H Q => wi σ H fun J H1 => ∀ D, H1 D = none → ∃ W : Nat → Nat → Hp → Prop, (∃ m, W 0 m (upd H1 D (SetK P w D (fun _ => false) 0))) ∧ ∀ i m H, W i m H →
  (J.stop i H ∧ Q (.ref D) H) ∨ (J.go i H ∧ ∃ Nx : Hp → Prop, (∀ H', Nx H' → ∃ m', m' < m ∧ W (i + 1) m' H') ∧ ∀ x H', J.yld i H x H' → g x (wipe σ vs) H' fun σ2 H2 => wipe σ2 vs = wipe σ vs ∧
    te σ2 H2 fun y H4 => ∃ (k : Key) (S : Key → Bool) (n : Nat), y = kV k ∧ H4 D = some (SetK P w D S n) ∧ n + 1 < scanBound ∧ Nx (setMore P w H4 D S n k))
theorem addK_ok {pins : List (Addr × Obj)} {σ : L2.St} {H : Hp} {s : Shared} {E : Value → Shared → Prop} {D : Addr} {S : Key → Bool} {n : Nat} {k : Key} {u : Value} {Q : Value → Shared → Prop} (I : Inv X pins σ H s) (hD : H D = some (SetK X.prog X.w D S n)) (hu : RelV (kV k) u) (room : n + 1 < scanBound)
    (h : ∀ s', Inv X pins σ (setMore X.prog X.w H D S n k) s' → Q .none s') : wpAny (model X.prog X.w) X.A (call (.builtin "set.add") [.ref D, u]) Q E s := by
  refine call_set_add (kV_is hu) (key_scan hu) (setK_get I hD) room fun h' sb new => ?_
  have he : ∃ u, h'.get? D = some u := by
    obtain ⟨o, _, _, _, ho, _⟩ := new
    exact ⟨o, ho⟩
  exact h _ (I.write (e := D) (t' := s.toks + 1) (by rw [hD]; trivial) (.inl rfl) (fun b u hb hu => (sb.2 b hb).trans hu) he (setK_new new))
theorem skey_core {pins : List (Addr × Obj)} {s : Shared} {σ : L2.St} {H : Hp} {Q : VK} {elt tg iter : Expr} {scope : Scope} {own : List (PySem.Str × Nat)} {pos pos' : Pos} {wi : TI} {g : TG} {te : TE} {use : Option (Value → Sem Unit)} {Qf : Value → Shared → Prop}
    (hc : X.calm = true) (hN : X.N.Nodup) (I : Inv X pins σ H s) (hi : PI X tg iter wi) (ok : BlkOk X.N X.env.scope scope own)
    (hg : ∀ (s : Shared) (H : Hp) (C : Addr) (cl : List (PySem.Str × Addr)) (fp : List Addr), PG (X.blk s H scope (compEnvC scope cl C X.env) fp) tg g)
    (he : ∀ (s : Shared) (H : Hp) (C : Addr) (cl : List (PySem.Str × Addr)) (fp : List Addr), PE (X.blk s H scope (compEnvC scope cl C X.env) fp) elt te) (hs : ∀ x, foldedSetIterable iter X.env x = pure x)
    (h : tSk X.prog X.w wi g te (own.map (·.2)) σ H Q)
    (hRR : ∀ D C s' m H', Inv X pins σ H' s' → Q (.ref D) H' → s'.heap.Ns C m → FpOk X pins H' C → compPost (model X.prog X.w) X.A X.xe use Qf (.ref D) C (.ok .next) s') :
    wpAny (model X.prog X.w) X.A (comprehension (.SetComp elt [⟨tg, iter, [], 0⟩] scope pos) scope X.env pos' (newSet (.type "set")) false (eval iter X.env) use) Qf X.xe s := by
  have hfree : ∀ y ∈ scope.names, y.2 = .free → ∃ c, X.env.cells.lookup y.1 = some c := fun y hy e => (ok.free y hy e).elim (fun k => I.ok.has _ (.inl k)) fun k => I.ok.has _ (.inr k)
  refine wpAny_comprehension_free (use := use) rfl hs (closure_ok hfree) ok.kind (fun y hy e => by rw [ok.uniq y hy, e]) (thn (hi.run pins s σ H _ I h) fun xv s1 hx => thn hx fun itv s2 h2 => ?_)
  obtain ⟨it, fp, tn, J, H2, e, I2, T, st2, f2, q⟩ := h2
  subst e
  refine PpSet.newSet_ok (newEnv_comp ?_)
  generalize hD : s2.heap.objs.size = D
  have hDn : H2 D = none := I2.hok.fresh (Nat.le_of_eq hD)
  obtain ⟨W, ⟨m0, w0⟩, turn⟩ := q D hDn
  generalize hs3 : ({ s2 with heap := s2.heap.push { cls := .type "set", dict := none, data := .set #[] 0 (.fresh 0 0 (!X.w.params.followText "set-order")) } } : Shared) = s3
  have h3 : s3.heap = s2.heap.push { cls := .type "set", dict := none, data := .set #[] 0 (.fresh 0 0 (!X.w.params.followText "set-order")) } := by rw [← hs3]
  have I3 : Inv X pins σ (upd H2 D (SetK X.prog X.w D (fun _ => false) 0)) s3 := by
    rw [← hs3]
    refine I2.laid (t' := s2.toks) (fun b o e => Heap.get?_push_of_some _ e) (Nat.le_of_eq hD) (setK_new ?_)
    rw [← hD]
    exact ⟨_, #[], 0, _, Heap.get?_push_size _ rfl, ⟨rfl, rfl, rfl⟩, rfl, (fun e he => by simp at he), (fun k => by simp), (by decide), (by rfl), rfl⟩
  have sz : ∀ b ∈ fp, b < s2.heap.objs.size := fun b hb => let ⟨o, e, _⟩ := T.obj _ _ st2 b hb; Heap.lt_size e
  have f3 : ∀ b ∈ fp, FpOk X pins (upd H2 D (SetK X.prog X.w D (fun _ => false) 0)) b ∧ b < s3.heap.objs.size := fun b hb => by
    have hlt := sz b hb
    refine ⟨⟨?_, (f2 b hb).2⟩, by rw [h3, Heap.size_push]; exact Nat.lt_succ_of_lt hlt⟩
    rw [upd_ne (by rw [← hD]; exact Nat.ne_of_lt hlt)]
    exact (f2 b hb).1
  have st3 : tn 0 s3.heap := T.keep _ _ _ st2 fun b _ o e => by rw [h3]; exact Heap.get?_push_of_some _ e
  have I4 := block_start I3 ok hN f3
  have pg := hg s3 (upd H2 D (SetK X.prog X.w D (fun _ => false) 0)) s3.heap.objs.size (cellsFrom (s3.heap.objs.size + 1) scope.names (cloFrom X.env.cells scope.names [])) fp
  have pe := he s3 (upd H2 D (SetK X.prog X.w D (fun _ => false) 0)) s3.heap.objs.size (cellsFrom (s3.heap.objs.size + 1) scope.names (cloFrom X.env.cells scope.names [])) fp
  show codeAny _ _ (.compStart (.SetComp elt [⟨tg, iter, [], 0⟩] scope pos) 0 (.ref it) (.ref D) (compEnvC scope (cellsFrom (s3.heap.objs.size + 1) scope.names (cloFrom X.env.cells scope.names [])) s3.heap.objs.size X.env)) (compPost (model X.prog X.w) X.A X.xe use Qf (.ref D) s3.heap.objs.size) { s3 with heap := pushCells (s3.heap.push { cls := .type "dict", data := .dict #[] }) scope.names }
  have nfp : ∀ b ∈ fp, (upd H2 D (SetK X.prog X.w D (fun _ => false) 0)) b = none := fun b hb => (f3 b hb).1.1
  generalize hce : compEnvC scope (cellsFrom (s3.heap.objs.size + 1) scope.names (cloFrom X.env.cells scope.names [])) s3.heap.objs.size X.env = ce at I4 pg pe ⊢
  have cL : ce.locals = s3.heap.objs.size := by subst hce; rfl
  generalize hH3 : upd H2 D (SetK X.prog X.w D (fun _ => false) 0) = H3 at I3 I4 pg pe w0 nfp f3
  generalize hs4 : ({ s3 with heap := pushCells (s3.heap.push { cls := .type "dict", data := .dict #[] }) scope.names } : Shared) = s4 at I4 ⊢
  have st4 : tn 0 s4.heap := T.keep _ _ _ st3 fun b _ o e => by rw [← hs4]; exact pushCells_keeps _ _ _ _ (Heap.get?_push_of_some _ e)
  have stat : ∀ {σ' : L2.St} {H' : Hp} {s' : Shared}, Inv (X.blk s3 H3 scope ce fp) [] σ' H' s' → (∀ b ∈ fp, H' b = none) → ∀ b ∈ fp, FpOk (X.blk s3 H3 scope ce fp) [] H' b := fun {σ' H' s'} I' hn b hb =>
    ⟨hn b hb, (I'.ok.exf b hb).1, I'.ok.exfs b hb, .inl hb, fun x c e => (I'.ok.exf b hb).2 x c e, fun p hp => absurd (show p ∈ ([] : List (Addr × Obj)) ++ [] from hp) (by simp)⟩
  have loop : codeAny (model X.prog X.w) X.A (.compLoop (.SetComp elt [⟨tg, iter, [], 0⟩] scope pos) 0 (.ref it) (.ref D) ce) (compPost (model X.prog X.w) X.A X.xe use Qf (.ref D) s3.heap.objs.size) s4 := by
    refine PpSet.compLoopS_any (fun n s' => ∃ i H', Inv (X.blk s3 H3 scope ce fp) [] (wipe σ (own.map (·.2))) H' s' ∧ tn i s'.heap ∧ (∀ b ∈ fp, H' b = none) ∧ W i n H') ?_ m0 ⟨0, H3, I4, st4, nfp, w0⟩
    rintro n s5 ⟨i, H5, I5, st5, n5, w5⟩
    rcases turn i n H5 w5 with ⟨stop, qq⟩ | ⟨go, Nx, hNx, step⟩
    · have td := T.done (X.blk s3 H3 scope ce fp) rfl rfl rfl hc i [] s5 _ H5 (fun _ _ => False) I5 (stat I5 n5) st5 stop
      refine thnF td fun r s6 ⟨hr, I6⟩ => ?_
      subst hr
      have I7 : Inv X pins σ H5 s6 := I3.call' (ch := fp) I6.os I6.base I6.hok I6.bare fun b hb => ⟨(f3 b hb).1.2.2.2.1, (f3 b hb).1.2.1, (f3 b hb).1.2.2.2.2.1, (f3 b hb).1.2.2.2.2.2⟩
      have nC : H5 s3.heap.objs.size = none := by rw [← cL]; exact I6.free
      obtain ⟨m, hn, _⟩ := I6.loc
      have hn : s6.heap.Ns ce.locals m := hn
      rw [cL] at hn
      exact hRR D s3.heap.objs.size s6 m H5 I7 qq hn (I3.fpOk (Nat.le_refl _) nC)
    · have ti := T.item (X.blk s3 H3 scope ce fp) rfl rfl rfl hc i [] s5 _ H5 (fun _ _ => False) I5 (stat I5 n5) st5 go
      refine thnF ti fun r s6 ⟨u, hr, h6⟩ => ?_
      subst hr
      refine thnF h6 fun _ s7 ⟨x, H7, I7, r7, y7, st7, n7⟩ => ?_
      have I7' := I7.pinned (stat I7 n7) (T.obj _ _ st7)
      refine thnF (pg.run _ s7 _ H7 x u _ I7' r7 (step x H7 y7)) fun _ s8 ⟨σ8, H8, I8, hw8, q8⟩ => ?_
      simp only [List.forIn_nil]
      refine wpAny_pure ?_
      rw [if_pos rfl]
      refine thnF (pe.run _ s8 σ8 H8 _ I8 q8) fun zz s10 ⟨yv, H10, I10, r10, kb, S0, n0, ey, hD10, hz10, nx⟩ => ?_
      subst ey
      refine addK_ok (X := X.blk s3 H3 scope ce fp) I10 hD10 r10 hz10 fun s11 I11 => ?_
      obtain ⟨m', hm, w'⟩ := hNx _ nx
      have pin' : ∀ b ∈ fp, ∀ o, s7.heap.get? b = some o → s11.heap.get? b = some o ∧ (setMore X.prog X.w H10 D S0 n0 kb) b = none := fun b hb o e =>
        let z := I11.pin (b, o) (List.mem_append_right _ (List.mem_append_right _ (mem_pinsAt hb e)))
        ⟨z.1, z.2.1⟩
      have hl : (wipe σ (own.map (·.2))).length = σ8.length := by rw [← hw8, wipe_length]
      refine ⟨m', hm, i + 1, _, (I11.unpinned (pins := [])).weak hl (fun j v e => ?_), T.keep _ _ _ st7 fun b hb o e => (pin' b hb o e).1, fun b hb => ?_, w'⟩
      · rw [← hw8] at e
        exact (wipe_some e).1
      · obtain ⟨o, e, _⟩ := T.obj _ _ st7 b hb
        exact (pin' b hb o e).2
  exact PpSet.codeAny_compStart_set loop (T.self X.A 0 _ _ _ st4 loop)
/-- the set of keys as a value -/
theorem pe_sk {elt tg iter : Expr} {scope : Scope} {own : List (PySem.Str × Nat)} {pos : Pos} {wi : TI} {g : TG} {te : TE} (hc : X.calm = true) (hN : X.N.Nodup) (hi : PI X tg iter wi) (ok : BlkOk X.N X.env.scope scope own)
    (hg : ∀ (s : Shared) (H : Hp) (C : Addr) (cl : List (PySem.Str × Addr)) (fp : List Addr), PG (X.blk s H scope (compEnvC scope cl C X.env) fp) tg g)
    (he : ∀ (s : Shared) (H : Hp) (C : Addr) (cl : List (PySem.Str × Addr)) (fp : List Addr), PE (X.blk s H scope (compEnvC scope cl C X.env) fp) elt te) (hs : ∀ x, foldedSetIterable iter X.env x = pure x := by intro _; rfl) :
    PE X (.SetComp elt [⟨tg, iter, [], 0⟩] scope pos) (tSk X.prog X.w wi g te (own.map (·.2))) := by
  refine ⟨fun pins s σ H Q I h => ?_⟩
  rw [PpSet.eval_SetComp]
  refine skey_core hc hN I hi ok hg he hs h fun D C s' m H' I' q hn f => ⟨m, hn, fun h'' sb => ?_⟩
  obtain ⟨f0, f1, f2, f3, f4, f5⟩ := f
  exact ⟨.ref D, H', I'.turned (t' := s'.toks) (fun b o hb e => (sb.2 b hb).trans e) f0 f1 f3 f4 f5, rfl, q⟩
end
def memK (ks : List Key) (j : Key) : Bool := ks.any fun k => decide (j = k)
/-- over a tuple that stands still; the elt's keys are known -/
theorem sk_tup {P : Program} {w : World} {K : PySem.W.Frag} {a : Addr} {xs : List V} {g : TG} {te : TE} {vs : List Nat} {σ : L2.St} {H1 : Hp} {D : Addr} {Qd : Hp → Prop} (ks : List Key) (hk : ks.length = xs.length) (hb : xs.length + 1 < scanBound) (hx : SqT K H1 a xs) (hD : H1 D = none)
    (hs : ∀ (i : Nat) x k H, xs[i]? = some x → ks[i]? = some k → Same H1 H → ∀ N : VK, N (kV k) H → g x (wipe σ vs) H fun σ2 H2 => wipe σ2 vs = wipe σ vs ∧ te σ2 H2 N)
    (hd : ∀ H n, Same H1 H → (∀ p, p ≠ D → H p = H1 p) → H D = some (SetK P w D (fun j => memK ks j) n) → Qd H) :
    ∃ W : Nat → Nat → Hp → Prop, (∃ m, W 0 m (upd H1 D (SetK P w D (fun _ => false) 0))) ∧ ∀ i m H, W i m H →
      ((Itt K a).stop i H ∧ Qd H) ∨ ((Itt K a).go i H ∧ ∃ Nx : Hp → Prop, (∀ H', Nx H' → ∃ m', m' < m ∧ W (i + 1) m' H') ∧ ∀ x H', (Itt K a).yld i H x H' → g x (wipe σ vs) H' fun σ2 H2 => wipe σ2 vs = wipe σ vs ∧
        te σ2 H2 fun y H4 => ∃ (k : Key) (S : Key → Bool) (n : Nat), y = kV k ∧ H4 D = some (SetK P w D S n) ∧ n + 1 < scanBound ∧ Nx (setMore P w H4 D S n k)) := by
  have keep : ∀ H : Hp, (∀ p, p ≠ D → H p = H1 p) → Same H1 H := fun H h b o e => by rw [h b (fun z => by rw [z, hD] at e; cases e)]; exact e
  have seqT : ∀ H, Same H1 H → SqT K H a xs := fun H s => by
    rcases hx with (h | ⟨o, h⟩) | h
    · exact .inl (.inl (s _ _ h))
    · exact .inl (.inr ⟨o, s _ _ h⟩)
    · exact .inr h
  refine ⟨fun i m H => m = xs.length - i ∧ i ≤ xs.length ∧ (∀ p, p ≠ D → H p = H1 p) ∧ ∃ n, n ≤ i ∧ H D = some (SetK P w D (fun j => memK (ks.take i) j) n), ⟨xs.length, by simp, Nat.zero_le _, fun p hp => upd_ne hp, 0, Nat.le_refl _, ?_⟩, ?_⟩
  · rw [upd_same]
    congr
  rintro i m H ⟨rfl, hi, hp, n, hn, hS⟩
  have sm := keep H hp
  by_cases hlt : i < xs.length
  · refine .inr ⟨⟨xs, xs[i], seqT H sm, by simp [hlt]⟩, fun H' => xs.length - (i + 1) = xs.length - (i + 1) ∧ i + 1 ≤ xs.length ∧ (∀ p, p ≠ D → H' p = H1 p) ∧ ∃ n, n ≤ i + 1 ∧ H' D = some (SetK P w D (fun j => memK (ks.take (i + 1)) j) n), fun H' p' => ⟨xs.length - (i + 1), by omega, p'⟩, fun x H' y => ?_⟩
    obtain ⟨e, y⟩ := y
    subst e
    have hki : ks[i]? = some ks[i] := List.getElem?_eq_getElem (by omega)
    refine hs i x ks[i] H' (y xs (seqT _ sm)) hki sm _ ⟨ks[i], _, n, rfl, hS, by omega, rfl, hlt, fun p hp' => ?_, (if memK (ks.take i) ks[i] = true then n else n + 1), ?_, ?_⟩
    · show upd _ _ _ p = _
      rw [upd_ne hp']; exact hp p hp'
    · split <;> omega
    · show upd _ _ _ D = _
      rw [upd_same]
      congr
      funext j
      have et : ks.take (i + 1) = ks.take i ++ [ks[i]] := by rw [List.take_succ, List.getElem?_eq_getElem (by omega)]; rfl
      rw [et]
      simp only [memK, List.any_append, List.any_cons, List.any_nil, Bool.or_false]
  · have e : i = xs.length := by omega
    subst e
    refine .inl ⟨⟨xs, seqT _ sm, Nat.le_refl _⟩, hd H n sm hp ?_⟩
    rw [hS, List.take_of_length_le (by omega)]
end WT

set_option Elab.async false
set_option linter.all false
set_option maxRecDepth 100000
set_option maxHeartbeats 2000000
/-! The text of the program, what stands at the top, frames. -/
namespace WT
open PySem PySem.Spec PyProof.Rows L2
def topS (i : Nat) : Stmt := PySem.Challenge.pw_wiretongue_k71_whole_another_in_of_one_c.main.body.getD i (.Pass ⟨0, 0, 0, 0⟩)
abbrev FnP (K : PySem.W.Frag) (x : Str) (st : Stmt) (f : Addr) (fd : FuncData) : Prop := L2.FunD K x x (defArgs st) (defBody st) (defScope st) [] [] f fd
/-- the built-in names that the text uses are no names of the module -/
structure Frees (mg : Str → Option Value) : Prop where
  zip : mg "zip" = none
  list : mg "list" = none
  dict : mg "dict" = none
  len : mg "len" = none
  range : mg "range" = none
  tuple : mg "tuple" = none
  isinstance : mg "isinstance" = none
  str : mg "str" = none
  int : mg "int" = none
  max : mg "max" = none
  sum : mg "sum" = none
  enumerate : mg "enumerate" = none
  sorted : mg "sorted" = none
/-- the def named x keeps the promise sp -/
def Cal (P : Program) (w : World) (K : PySem.W.Frag) (mg : Str → Option Value) (base : Heap) (x : Str) (k : Nat) (ps : List Str) (sp : Sp) : Prop :=
  ∃ (f : Addr) (fd : FuncData), FnOk P w K mg base CX0 k f fd ps sp ∧ mg x = some (.ref f) ∧ PySem.W.keepIn K (.ref f) = true ∧ L2.Binds K fd ps []
/-- the def named x stands where the text has it -/
def Std (K : PySem.W.Frag) (mg : Str → Option Value) (x : Str) (st : Stmt) : Prop := ∃ (f : Addr) (fd : FuncData), FnP K x st f fd ∧ mg x = some (.ref f)
/-! ### frames -/
/-- all that was tracked stands as it was, but for what is no tuple at the addresses of l -/
def Kp (l : List Addr) (H H' : Hp) : Prop := ∀ b o, H b = some o → (b ∈ l → ∃ xs, o = .tup xs) → H' b = some o
theorem Kp.refl (l : List Addr) (H : Hp) : Kp l H H := fun _ _ e _ => e
theorem Kp.trans {l : List Addr} {H H1 H2 : Hp} (a : Kp l H H1) (b : Kp l H1 H2) : Kp l H H2 := fun c o e n => b c o (a c o e n) n
theorem Kp.mono {l m : List Addr} {H H' : Hp} (a : Kp l H H') (h : ∀ b ∈ l, b ∈ m) : Kp m H H' := fun c o e n => a c o e fun z => n (h c z)
theorem Kp.up {l : List Addr} {H H' : Hp} (a : Kp [] H H') : Kp l H H' := a.mono (by simp)
theorem Kp.same {H H' : Hp} (a : Kp [] H H') : Same H H' := fun c o e => a c o e (by simp)
theorem Same.kp {H H' : Hp} (l : List Addr) (a : Same H H') : Kp l H H' := fun c o e _ => a c o e
theorem Kp.new {l : List Addr} {H : Hp} {p : Addr} {o : HO} (h : H p = none) : Kp l H (upd H p o) := fun b u e _ => by rw [upd_ne (ne_of_none e h)]; exact e
theorem Kp.put {l : List Addr} {H : Hp} {p : Addr} {o o' : HO} (hp : H p = some o') (h : p ∈ l) (ho : ∀ xs, o' ≠ .tup xs := by intro _ h; cases h) : Kp l H (upd H p o) := fun b u e n => by
  by_cases z : b = p
  · subst z
    obtain ⟨xs, rfl⟩ := n h
    rw [hp] at e
    exact absurd (Option.some.inj e) (ho xs)
  · rw [upd_ne z]; exact e
theorem Kp.step {l : List Addr} {H H' : Hp} {p : Addr} {o : HO} (a : Kp l H H') (h : H' p = none) : Kp l H (upd H' p o) := a.trans (Kp.new h)
/-- what is neither in l is as it was -/
theorem Kp.at {l : List Addr} {H H' : Hp} {b : Addr} {o : HO} (a : Kp l H H') (e : H b = some o) (n : b ∉ l) : H' b = some o := a b o e fun z => absurd z n
theorem Kp.tup {l : List Addr} {H H' : Hp} {b : Addr} {xs : List V} (a : Kp l H H') (e : H b = some (.tup xs)) : H' b = some (.tup xs) := a b _ e fun _ => ⟨xs, rfl⟩
theorem Kp.free {l : List Addr} {H H' : Hp} (a : Kp l H H') {p : Addr} (hp : H' p = none) (hl : p ∉ l) : H p = none := by
  cases e : H p with
  | none => rfl
  | some o => rw [a.at e hl] at hp; cases hp
theorem Kp.fresh {l : List Addr} {H H' : Hp} {p : Addr} {o : HO} (a : Kp l H H') (hp : H p = none) : Kp l H (upd H' p o) := fun b u e n => by
  rw [upd_ne (fun z => by rw [z, hp] at e; cases e)]
  exact a b u e n
theorem Kp.drop' {l : List Addr} {H H1 H2 : Hp} {p : Addr} (a : Kp l H H1) (hp : H p = none) (b : Kp [p] H1 H2) : Kp l H H2 := fun c o e n => b c o (a c o e n) fun z => by
  rw [List.mem_singleton.mp z, hp] at e
  cases e
/-- what was made behind H alone was changed -/
theorem Kp.drop {l : List Addr} {H H1 H2 : Hp} {p : Addr} (a : Kp l H H1) (hp : H p = none) (b : Kp (p :: l) H1 H2) : Kp l H H2 := fun c o e n => b c o (a c o e n) fun z => by
  rcases List.mem_cons.mp z with z | z
  · rw [z, hp] at e; cases e
  · exact n z
/-! ### rules with the written part K told, for the blocks of comprehensions -/
section
variable {X : Cx}
theorem PE.toK {e : Expr} {t t' : TE} (h : PE X e t) (ht : t = t' := by rfl) : PE X e t' := ht ▸ h
theorem PG.toK {e : Expr} {t t' : TG} (h : PG X e t) (ht : t = t' := by rfl) : PG X e t' := ht ▸ h
theorem PI.toK {g e : Expr} {t t' : TI} (h : PI X g e t) (ht : t = t' := by rfl) : PI X g e t' := ht ▸ h
variable (K : PySem.W.Frag)
theorem ixl (h : X.K = K := by rfl) : IxR X (rIxL K) := h ▸ ix_list
theorem ixt (h : X.K = K := by rfl) : IxR X (rIxT K) := h ▸ ix_tup
theorem oIn (h : X.K = K := by rfl) : OpR X (compareOp .In) (rIn K false) := h ▸ op_in_seq
theorem oNotIn (h : X.K = K := by rfl) : OpR X (compareOp .NotIn) (rIn K true) := h ▸ op_notIn_seq
def rLenK (K : PySem.W.Frag) : List V → Hp → VK → Prop := fun xs H Q => ∃ p ys, xs = [.ref p] ∧ (SqL K H p ys ∨ SqT K H p ys) ∧ Q (.int ys.length) H
theorem cLen (h : X.K = K := by rfl) : CallR X (.builtin "len") (rLenK K) := h ▸ call_len_seq
def rListK (K : PySem.W.Frag) : List V → Hp → VK → Prop := fun xs H Q => ∃ p ys, xs = [.ref p] ∧ (SqL K H p ys ∨ SqT K H p ys) ∧ ∀ l, H l = none → Q (.ref l) (upd H l (.lst ys))
theorem cList (h : X.K = K := by rfl) : CallR X (.type "list") (rListK K) := h ▸ call_list_of
def rTupK (K : PySem.W.Frag) : List V → Hp → VK → Prop := fun xs H Q => ∃ p ys, xs = [.ref p] ∧ ((SqL K H p ys ∧ ∀ l, H l = none → Q (.ref l) (upd H l (.tup ys))) ∨ (SqT K H p ys ∧ Q (.ref p) H))
theorem cTup (h : X.K = K := by rfl) : CallR X (.type "tuple") (rTupK K) := h ▸ call_tuple_of
theorem cSum (hc : X.calm = true) (h : X.K = K := by rfl) : CallR X (.builtin "sum") (rSum K) := h ▸ cr_sum hc
theorem cIsi (h : X.K = K := by rfl) : CallR X (.builtin "isinstance") (rIsi K) := h ▸ call_isi
theorem cIsiT (h : X.K = K := by rfl) : CallR X (.builtin "isinstance") (rIsiT K) := h ▸ call_isiT
theorem slL (h : X.K = K := by rfl) : SlR X (rSlL K) := h ▸ sl_list
theorem slT (h : X.K = K := by rfl) : SlR X (rSlA K) := h ▸ sl_tupA
theorem mIndex (h : X.K = K := by rfl) : MtR X "list.index" (rIndex K) := h ▸ mt_index
theorem catA (h : X.K = K := by rfl) : OpR X (binaryOp .Add) (rCatA K) := h ▸ op_catA
end
end WT

set_option Elab.async false
set_option linter.all false
set_option maxRecDepth 100000
set_option maxHeartbeats 4000000
/-! The deck: draw, pick. -/
namespace WT
open PySem PySem.Spec PyProof.Rows L2
theorem nab_mono {x : Int} {a b : Nat} (h : x.natAbs < 2 ^ a) (hab : a ≤ b) : x.natAbs < 2 ^ b := Nat.lt_of_lt_of_le h (Nat.pow_le_pow_right (by decide) hab)
theorem nab_add {x y : Int} {a : Nat} (hx : x.natAbs < 2 ^ a) (hy : y.natAbs < 2 ^ a) : (x + y).natAbs < 2 ^ (a + 1) := by
  have := Int.natAbs_add_le x y
  rw [Nat.pow_succ]
  omega
theorem nab_mul {x y : Int} {a b : Nat} (hx : x.natAbs < 2 ^ a) (hy : y.natAbs < 2 ^ b) : (x * y).natAbs < 2 ^ (a + b) := by
  rw [Int.natAbs_mul, Nat.pow_add]
  exact Nat.mul_lt_mul'' hx hy
@[irreducible] def bits : Nat := 1048577
theorem bits_eq : bits = 1048577 := by unfold bits; rfl
abbrev dk3 (c : Addr) (sd a : Int) : List (Key × V) := [(Sum.inr "cells", .ref c), (Sum.inr "seed", .int sd), (Sum.inr "at", .int a)]
/-- the deck at d, its cells at c; n more draws are well within what it can count -/
def Deck (H : Hp) (d c : Addr) (n : Nat) : Prop := ∃ (cs : List Int) (sd at_ : Nat), H d = some (.dK (dk3 c sd at_)) ∧ H c = some (.lst (cs.map V.int)) ∧ d ≠ c ∧
  cs.length ≤ 63 ∧ (∀ z ∈ cs, z.natAbs < 2 ^ bits) ∧ sd < 2 ^ 127 ∧ at_ + n ≤ 2 ^ 60
theorem Deck.less {H : Hp} {d c : Addr} {n m : Nat} (D : Deck H d c n) (h : m ≤ n) : Deck H d c m := by
  obtain ⟨cs, sd, a, h1, h2, h3, h4, h5, h6, h7⟩ := D
  exact ⟨cs, sd, a, h1, h2, h3, h4, h5, h6, by omega⟩
theorem Deck.keep {H H' : Hp} {d c : Addr} {n : Nat} (D : Deck H d c n) (k : Kp [] H H') : Deck H' d c n := by
  obtain ⟨cs, sd, a, h1, h2, h⟩ := D
  exact ⟨cs, sd, a, k.at h1 (by simp), k.at h2 (by simp), h⟩
/-- more is kept: l may change -/
theorem Deck.kept {H H' : Hp} {d c : Addr} {n : Nat} {l : List Addr} (D : Deck H d c n) (k : Kp l H H') (hd : d ∉ l) (hc : c ∉ l) : Deck H' d c n := by
  obtain ⟨cs, sd, a, h1, h2, h⟩ := D
  exact ⟨cs, sd, a, k.at h1 hd, k.at h2 hc, h⟩
theorem Deck.ne {H : Hp} {d c : Addr} {n : Nat} (D : Deck H d c n) {p : Addr} (h : H p = none) : d ≠ p ∧ c ≠ p := by
  obtain ⟨cs, sd, a, h1, h2, _⟩ := D
  exact ⟨ne_of_none h1 h, ne_of_none h2 h⟩
abbrev s_draw : Stmt := topS 17
abbrev N_draw : List Str := ["_law_deck_here", "_law_sides", "_law_at", "_law_number", "_law_cell"]
abbrev P_draw : List Str := ["_law_deck_here", "_law_sides"]
theorem sc_draw : FnScope N_draw P_draw (defScope s_draw) := ⟨rfl, rfl, rfl, by decide +kernel, rfl, by decide +kernel, by decide +kernel⟩
/-- one draw of sides k: any number below k -/
def spDraw : Sp := fun vs H Q _ => ∃ (d c : Addr) (k n : Nat), vs = [.ref d, .int (k : Int)] ∧ Deck H d c (n + 1) ∧ 0 < k ∧ k < 1073741824 ∧ ∀ (r : Nat) H', r < k → Kp [d, c] H H' → Deck H' d c n → Q (.int (r : Int)) H'
theorem emod_nab (z : Int) {m : Int} {k : Nat} (hm : 0 < m) (h : m ≤ 2 ^ k) : (z % m).natAbs < 2 ^ k := by
  have h1 := Int.emod_nonneg z (Int.ne_of_gt hm)
  have h2 := Int.emod_lt_of_pos z hm
  have h3 : ((z % m).natAbs : Int) < ((2 ^ k : Nat) : Int) := by
    rw [Int.natAbs_of_nonneg h1]
    refine Int.lt_of_lt_of_le h2 ?_
    push_cast
    exact h
  exact Int.ofNat_lt.mp h3
theorem draw_end {Q : VK} {H H2 : Hp} {d c : Addr} {k n : Nat} (hQ : ∀ (r : Nat) H', r < k → Kp [d, c] H H' → Deck H' d c n → Q (V.int (r : Int)) H') (hk : 0 < k) (z : Int) (kp : Kp [d, c] H H2) (D : Deck H2 d c n) : Q (.int (z % (k : Int))) H2 := by
  have hm : z % (k : Int) = ((z % (k : Int)).toNat : Int) := (Int.toNat_of_nonneg (Int.emod_nonneg _ (by omega))).symm
  rw [hm]
  refine hQ _ _ ?_ kp D
  have := Int.emod_lt_of_pos z (show (0 : Int) < (k : Int) by omega)
  omega
section
variable {P : Program} {w : World} {K : PySem.W.Frag} {mg : Str → Option Value} {base : Heap}
theorem cal_draw (S : Std K mg "_law_draw" s_draw) (T : Frees mg) : Cal P w K mg base "_law_draw" 1 P_draw spDraw := by
  obtain ⟨f, fd, F, m⟩ := S
  refine ⟨f, fd, ?_, m, F.kp, F.bindsN fun _ _ _ _ _ _ us hl => match us, hl with | [_, _], _ => rfl⟩
  have sc := sc_draw
  refine F.ok sc (fun vs H Q E h => by obtain ⟨_, _, _, _, rfl, _⟩ := h; rfl) fun cdv A outer s H vs Q E hr h => ⟨_, PSs.nox (pss_cons (ps_dput (hu_of hr) (pv 0) pe_str (pe_op op_add (pe_dget (hu_of hr) (pv 0) pe_str (fun _ _ => rfl)) pe_int) rfl)
 (pss_cons (ps_set (i := 2) sc.nd rfl (Or.inl rfl) (pe_dget (hu_of hr) (pv 0) pe_str (fun _ _ => rfl)))
 (pss_cons (ps_set (i := 3) sc.nd rfl (Or.inl rfl) (pe_op op_add (pe_dget (hu_of hr) (pv 0) pe_str (fun _ _ => rfl)) (pe_op op_mulX (pe_op op_mulX pe_int (pv 2)) (pv 2))))
 (C8.pss_cut (ps_if (pt_cmpR (op_neNil (Nat.lt_of_succ_lt (hu_of hr))) (pe_dget (hu_of hr) (pv 0) pe_str (fun _ _ => rfl)) (pe_lst pa_nil) (nomark _)) (pss_cons (ps_set (i := 4) sc.nd rfl (Or.inl rfl) (PE.toK (t' := tBM0 K _ _ _) (pe_bm0 PySem.F.plainAttrs_list PySem.F.slot_list_pop PySem.F.type_list_pop mt_pop (pe_dget (hu_of hr) (pv 0) pe_str (fun _ _ => rfl)))))
 (pss_cons (ps_if (pt_cmpR op_ge (pv 4) (pe_op op_pow pe_int pe_int) (nomark _)) (pss_cons (ps_expr (PE.toK (t' := tBM K _ _ _ _) (pe_bm PySem.F.plainAttrs_list PySem.F.slot_list_append PySem.F.type_list_append mt_append (pe_dget (hu_of hr) (pv 0) pe_str (fun _ _ => rfl)) (pa_cons (pe_op op_fdiv (pv 4) (pv 1)) pa_nil))))
 (pss_one (ps_ret (pe_op op_mod (pv 4) (pv 1))))) pss_nil)
 (pss_one (ps_set (i := 3) sc.nd rfl (Or.inl rfl) (pe_op op_add (pv 3) (pe_op op_mulX pe_int (pv 4))))))) pss_nil)
 (pss_cons (ps_set (i := 3) sc.nd rfl (Or.inl rfl) (pe_op op_mod (pe_op op_mulX (pv 3) (pe_op op_add (pv 3) (pe_op op_mulX pe_int (pv 2)))) pe_int))
 (pss_cons (ps_set (i := 3) sc.nd rfl (Or.inl rfl) (pe_op op_mod (pe_op op_add (pe_op op_mulX (pv 3) (pv 3)) (pe_op op_mulX pe_int (pv 2))) pe_int))
 (pss_one (ps_ret (pe_op op_mod (pe_op op_fdiv (pv 3) pe_int) (pv 1)))))))))), ?_⟩
  obtain ⟨d, c, k, n, rfl, D, hk0, hk, hQ⟩ := h
  obtain ⟨cs, sd, a, h1, h2, hdc, h4, h5, h6, h7⟩ := D
  refine ⟨_, rfl, d, _, rfl, DGet.k (k := Sum.inr "at") h1, _, _, rfl, rfl, _, rfl, d, _, rfl, DPut.k (k := Sum.inr "at") h1 (show 3 < sizeLine from by decide), ?_⟩
  have e1 : putK (dk3 c sd a) (Sum.inr "at") (V.int ((a : Int) + 1)) = dk3 c sd ((a : Int) + 1) := by rfl
  show tSeq _ _ _ _ (upd H d (.dK (putK (dk3 c sd a) (Sum.inr "at") (V.int ((a : Int) + 1)))))
  rw [e1]
  generalize hH : upd H d _ = H1
  have g1 : H1 d = some (.dK (dk3 c sd ((a : Int) + 1))) := by rw [← hH]; exact upd_same ..
  have g2 : H1 c = some (.lst (cs.map V.int)) := by rw [← hH, upd_ne (Ne.symm hdc)]; exact h2
  have kp1 : Kp [d, c] H H1 := by rw [← hH]; exact Kp.put h1 (by simp)
  clear hH
  have ha : ((a : Int) + 1).natAbs < 2 ^ 61 := by have : (2:Nat) ^ 61 = 2 * 2 ^ 60 := by decide
                                                  omega
  have hs : ((sd : Int)).natAbs < 2 ^ 127 := by simpa using h6
  have c1 : ((7919 : Int) * ((a : Int) + 1)).natAbs < 2 ^ (13 + 61) := nab_mul (by decide) ha
  have c2 : ((7919 : Int) * ((a : Int) + 1) * ((a : Int) + 1)).natAbs < 2 ^ (13 + 61 + 61) := nab_mul c1 ha
  have c3 : ((48271 : Int) * ((a : Int) + 1)).natAbs < 2 ^ (16 + 61) := nab_mul (by decide) ha
  have c4 : ((104729 : Int) * ((a : Int) + 1)).natAbs < 2 ^ (17 + 61) := nab_mul (by decide) ha
  have hb := bits_eq
  have c5 : ((sd : Int) + 7919 * ((a : Int) + 1) * ((a : Int) + 1)).natAbs < 2 ^ (bits + 20) := nab_mono (nab_add (nab_mono hs (by decide)) (nab_mono c2 (Nat.le_refl _))) (by omega)
  refine ⟨_, rfl, d, _, rfl, DGet.k (k := Sum.inr "at") g1, ?_⟩
  refine ⟨_, rfl, d, _, rfl, DGet.k (k := Sum.inr "seed") g1, _, rfl, _, _, rfl, rfl, mulx_ok (a := 17) (by decide) ha (by decide), _, rfl, _, _, rfl, rfl, mulx_ok c1 ha (by decide), _, _, rfl, rfl, ?_⟩
  -- what is behind the if, once
  refine ⟨fun σ2 H2 => ∃ (N : Int) (v4 : Option V), σ2 = [some (.ref d), some (.int (k : Int)), some (.int ((a : Int) + 1)), some (.int N), v4] ∧ N.natAbs < 2 ^ (bits + 20) ∧ Kp [d, c] H H2 ∧ Deck H2 d c n, ?_, ?_⟩
  · refine ⟨_, rfl, d, _, rfl, DGet.k (k := Sum.inr "cells") g1, by decide, fun p hp => ?_⟩
    have np := Kp.new (l := [d, c]) (o := .lst []) hp
    have q1 : upd H1 p (.lst []) d = _ := (upd_ne (ne_of_none g1 hp)).trans g1
    have q2 : upd H1 p (.lst []) c = _ := (upd_ne (ne_of_none g2 hp)).trans g2
    refine ⟨c, p, cs.map V.int, rfl, rfl, SqL.of q2, SqL.of (upd_same ..), _, rfl, ?_⟩
    cases hcs : cs with
    | nil =>
      refine iteF ⟨_, _, rfl, c5, kp1.trans np, cs, sd, a + 1, q1, q2, hdc, h4, h5, h6, by omega⟩
    | cons z0 zs =>
      have hne : cs ≠ [] := by rw [hcs]; simp
      refine iteT ?_
      have hlast : (cs.map V.int)[(cs.map V.int).length - 1]? = some (.int (cs.getLast hne)) := by
        rw [List.length_map, List.getElem?_map, ← List.getLast?_eq_getElem?, List.getLast?_eq_some_getLast hne]; rfl
      have hz := h5 _ (List.getLast_mem hne)
      generalize cs.getLast hne = z at hlast hz
      refine ⟨_, rfl, d, _, rfl, DGet.k (k := Sum.inr "cells") q1, .inl ⟨rfl, _, SqL.of q2⟩, c, _, _, rfl, rfl, q2, hlast, ?_⟩
      generalize hH3 : upd (upd H1 p (.lst [])) c _ = H3
      have e3 : (cs.map V.int).dropLast = (cs.dropLast).map V.int := by rw [List.map_dropLast]
      have w1 : H3 d = some (.dK (dk3 c sd ((a : Int) + 1))) := by rw [← hH3, upd_ne hdc]; exact q1
      have w2 : H3 c = some (.lst ((cs.dropLast).map V.int)) := by rw [← hH3, upd_same, e3]
      have kp3 : Kp [d, c] H H3 := by rw [← hH3]; exact (kp1.trans np).trans (Kp.put q2 (by simp))
      clear hH3
      have hdl : ∀ y ∈ cs.dropLast, y.natAbs < 2 ^ bits := fun y hy => h5 y ((List.dropLast_sublist cs).subset hy)
      have hlen : cs.dropLast.length + 1 ≤ 63 := by
        rw [List.length_dropLast]
        have : 0 < cs.length := List.length_pos_iff.mpr hne
        omega
      refine ⟨_, rfl, _, _, rfl, rfl, ⟨by decide, by decide, by decide⟩, _, _, rfl, rfl, _, rfl, ite2 (fun _ => ?_) (fun _ => ?_)⟩
      · -- a great cell: a digit of it
        refine ⟨_, rfl, d, _, rfl, DGet.k (k := Sum.inr "cells") w1, .inl ⟨rfl, _, SqL.of w2⟩, _, rfl, _, rfl, _, _, rfl, rfl, ⟨by omega, by omega⟩, c, _, _, rfl, rfl, w2, Nat.lt_of_le_of_lt (show (cs.dropLast.map V.int).length ≤ 63 by rw [List.length_map]; omega) (by decide), ?_⟩
        refine ⟨_, rfl, _, rfl, _, _, rfl, rfl, (by show (0 : Int) < (k : Int); omega), ?_⟩
        refine draw_end hQ hk0 z (kp3.trans (Kp.put w2 (by simp))) ⟨cs.dropLast ++ [z / (k : Int)], sd, a + 1, ?_, ?_, hdc, ?_, ?_, h6, by omega⟩
        · rw [upd_ne hdc]; exact w1
        · rw [upd_same]; simp
        · simp at hlen ⊢; omega
        · intro y hy
          rcases List.mem_append.mp hy with hy | hy
          · exact hdl y hy
          · rw [List.mem_singleton.mp hy]
            exact Nat.lt_of_le_of_lt (Int.natAbs_ediv_le_natAbs z (k : Int)) hz
      · have c6 : ((69621 : Int) * z).natAbs < 2 ^ (17 + bits) := nab_mul (by decide) hz
        refine ⟨_, rfl, _, rfl, _, _, rfl, rfl, mulx_ok (a := 17) (b := bits) (by decide) hz (by omega), _, _, rfl, rfl, _, _, rfl, ?_, kp3, cs.dropLast, sd, a + 1, w1, w2, hdc, by omega, hdl, h6, by omega⟩
        have c7 : ((sd : Int) + 7919 * ((a : Int) + 1) * ((a : Int) + 1)).natAbs < 2 ^ 140 := nab_mono (nab_add (nab_mono hs (by decide)) (nab_mono c2 (Nat.le_refl _))) (by decide)
        exact nab_mono (nab_add (nab_mono c7 (show 140 ≤ 17 + bits by omega)) c6) (by omega)
  · rintro σ2 H2 ⟨N, v4, rfl, hN, kp2, D2⟩
    have c6 : ((N : Int) + 48271 * ((a : Int) + 1)).natAbs < 2 ^ (bits + 20 + 1) := nab_add hN (nab_mono c3 (by omega))
    refine ⟨_, rfl, _, rfl, _, rfl, _, _, rfl, rfl, mulx_ok (a := 17) (by decide) ha (by decide), _, _, rfl, rfl, _, _, rfl, rfl, mulx_ok hN c6 (by omega), _, _, rfl, rfl, (by show (0 : Int) < 170141183460469231731687303715884105727; decide), ?_⟩
    have hM1 : (N * (N + 48271 * ((a : Int) + 1)) % 170141183460469231731687303715884105727).natAbs < 2 ^ 127 := emod_nab _ (by decide) (by decide)
    refine ⟨_, rfl, _, rfl, _, _, rfl, rfl, mulx_ok (a := 127) (b := 127) hM1 hM1 (by decide), _, rfl, _, _, rfl, rfl, mulx_ok (a := 17) (by decide) ha (by decide), _, _, rfl, rfl, _, _, rfl, rfl, (by show (0 : Int) < 170141183460469231731687303715884105727; decide), ?_⟩
    refine ⟨_, rfl, _, _, rfl, rfl, ⟨by decide, by decide⟩, _, rfl, _, _, rfl, rfl, (by show (0 : Int) < (k : Int); omega), ?_⟩
    exact draw_end hQ hk0 _ kp2 D2
end
end WT

set_option Elab.async false
set_option linter.all false
set_option maxRecDepth 100000
set_option maxHeartbeats 4000000
/-! pick, names, lone. -/
namespace WT
open PySem PySem.Spec PyProof.Rows L2
theorem yesT {σ : L2.St} {H : Hp} {A B : Hp → Prop} (h : A H) : tYes σ H fun b H3 => if b = true then A H3 else B H3 := by
  show if true = true then A H else B H
  rw [if_pos rfl]
  exact h
abbrev s_pick : Stmt := topS 18
abbrev N_pick : List Str := ["_law_deck_here", "_law_some"]
abbrev P_pick : List Str := ["_law_deck_here", "_law_some"]
theorem sc_pick : FnScope N_pick P_pick (defScope s_pick) := ⟨rfl, rfl, rfl, by decide +kernel, rfl, by decide +kernel, by decide +kernel⟩
def spPick : Sp := fun vs H Q _ => ∃ (d c p : Addr) (n : Nat) (xs : List V), vs = [.ref d, .ref p] ∧ Deck H d c (n + 1) ∧ H p = some (.lst xs) ∧ p ≠ c ∧ xs ≠ [] ∧ xs.length < 1073741824 ∧ ∀ (i : Nat) (x : V) H', xs[i]? = some x → Kp [d, c] H H' → Deck H' d c n → Q x H'
section
variable {P : Program} {w : World} {K : PySem.W.Frag} {mg : Str → Option Value} {base : Heap}
theorem cal_pick (S : Std K mg "_law_pick" s_pick) (T : Frees mg) (cdraw : Cal P w K mg base "_law_draw" 1 P_draw spDraw) : Cal P w K mg base "_law_pick" 2 P_pick spPick := by
  obtain ⟨f, fd, F, m⟩ := S
  obtain ⟨fdraw, ddraw, G_draw, m_draw, k_draw, b_draw⟩ := cdraw
  refine ⟨f, fd, ?_, m, F.kp, F.bindsN fun _ _ _ _ _ _ us hl => match us, hl with | [_, _], _ => rfl⟩
  have sc := sc_pick
  refine F.ok sc (fun vs H Q E h => by obtain ⟨_, _, _, _, _, rfl, _⟩ := h; rfl) fun cdv A outer s H vs Q E hr h => ⟨_, PSs.nox (pss_one (ps_ret (pe_ix (ixl K) (pv 1) (pe_call G_draw (hr.mono (by decide)) rfl m_draw k_draw b_draw .nil pass0 (pa_cons (pv 0) (pa_cons (pe_callB (cLen K) rfl T.len (by decide +kernel) (pa_cons (pv 1) pa_nil)) pa_nil))) (fun _ _ => rfl)))), ?_⟩
  obtain ⟨d, c, p, n, xs, rfl, D, hp, hpc, hne, hlen, hQ⟩ := h
  have hpd : p ≠ d := by
    obtain ⟨_, _, _, h1, _⟩ := D
    exact ne_of hp h1 (fun z => by cases z)
  refine ⟨_, rfl, _, rfl, _, rfl, p, xs, rfl, .inl (SqL.of hp), d, c, xs.length, n, rfl, D, List.length_pos_iff.mpr hne, hlen, fun r H' hr' kp D' => ?_⟩
  exact ⟨p, xs, _, _, rfl, rfl, SqL.of (kp.at hp (by simp [hpd, hpc])), atI_nat (List.getElem?_eq_getElem hr'), hQ r _ H' (List.getElem?_eq_getElem hr') kp D'⟩
end
/-! ### names -/
/-- a name of a module: short, without a point -/
def plain (x : Str) : Bool := decide (x.length ≤ 6) && !(x.cps.toList.contains 46) && x.cps.all (· < 0x110000)
def preN (k : Nat) : Str := (["", "q", "abcde", "zzz"] : List Str).getD k ""
def letN (k : Nat) : Str := ⟨#[97 + k % 26]⟩
def mkNames (k f : Nat) : List Str := (List.range 26).map fun i => preN k ++ letN (f + i)
theorem str_app_cps (a b : Str) : (a ++ b).cps = a.cps ++ b.cps := rfl
theorem mkNames_plain : ∀ k < 4, ∀ j < 26, plain (preN k ++ letN j) = true := by decide +kernel
theorem letN_mod (f : Nat) : letN f = letN (f % 26) := by
  unfold letN
  rw [Nat.mod_mod]
theorem mkNames_nd (k f : Nat) : (mkNames k f).Nodup := by
  unfold mkNames
  rw [List.Nodup, List.pairwise_map]
  refine List.Pairwise.imp_of_mem ?_ (List.nodup_range (n := 26))
  intro a b ha hb hab e
  have h1 := congrArg Str.cps e
  rw [str_app_cps, str_app_cps] at h1
  have h2 := Array.append_right_inj (xs := (preN k).cps) |>.mp h1
  have h3 : (97 + (f + a) % 26 : Nat) = 97 + (f + b) % 26 := by
    have : (#[97 + (f + a) % 26] : Array Nat) = #[97 + (f + b) % 26] := h2
    simpa using this
  have := List.mem_range.mp ha
  have := List.mem_range.mp hb
  exact hab (by omega)
theorem abc_at (k : Nat) (h : k < 26) : atI (("abcdefghijklmnopqrstuvwxyz" : Str)).cps.toList (k : Int) = some (97 + k) := by
  refine atI_nat ?_
  have : ∀ k < 26, (("abcdefghijklmnopqrstuvwxyz" : Str)).cps.toList[k]? = some (97 + k) := by decide +kernel
  exact this k h
abbrev s_names : Stmt := topS 19
abbrev N_names : List Str := ["_law_deck_here", "_law_letters", "_law_way", "_law_first", "_law_some", "_law_k", "_law_sign"]
abbrev P_names : List Str := ["_law_deck_here"]
theorem sc_names : FnScope N_names P_names (defScope s_names) := ⟨rfl, rfl, rfl, by decide +kernel, rfl, by decide +kernel, by decide +kernel⟩
def NamesOk (ns : List Str) : Prop := ns.Nodup ∧ ∀ x ∈ ns, plain x = true
def spNames : Sp := fun vs H Q _ => ∃ (d c : Addr) (n : Nat), vs = [.ref d] ∧ Deck H d c (n + 2) ∧ ∀ (p : Addr) (ns : List Str) H', H p = none → H' p = some (.lst (ns.map V.str)) → ns.length = 26 → NamesOk ns → Kp [d, c] H H' → Deck H' d c n → Q (.ref p) H'
section
variable {P : Program} {w : World} {K : PySem.W.Frag} {mg : Str → Option Value} {base : Heap}
theorem cal_names (S : Std K mg "_law_names" s_names) (T : Frees mg) (cdraw : Cal P w K mg base "_law_draw" 1 P_draw spDraw) : Cal P w K mg base "_law_names" 2 P_names spNames := by
  obtain ⟨f, fd, F, m⟩ := S
  obtain ⟨fdraw, ddraw, G_draw, m_draw, k_draw, b_draw⟩ := cdraw
  refine ⟨f, fd, ?_, m, F.kp, F.bindsN fun _ _ _ _ _ _ us hl => match us, hl with | [_], _ => rfl⟩
  have sc := sc_names
  refine F.ok sc (fun vs H Q E h => by obtain ⟨_, _, _, rfl, _⟩ := h; rfl) fun cdv A outer s H vs Q E hr h => ⟨_, PSs.nox (pss_cons (ps_set (i := 1) sc.nd rfl (Or.inr rfl) pe_str)
 (pss_cons (ps_asg (pe_tup (pa_cons (pe_call G_draw (hr.mono (by decide)) rfl m_draw k_draw b_draw .nil pass0 (pa_cons (pv 0) (pa_cons pe_int pa_nil))) (pa_cons (pe_call G_draw (hr.mono (by decide)) rfl m_draw k_draw b_draw .nil pass0 (pa_cons (pv 0) (pa_cons pe_int pa_nil))) pa_nil))) (PG.toK (t' := gTup K 2 _) (pg_tup rfl (pgs_cons (pg_name (i := 2) sc.nd rfl (Or.inr rfl)) (pgs_cons (pg_name (i := 3) sc.nd rfl (Or.inr rfl)) pgs_nil)))))
 (pss_cons (ps_setLc (i := 4) (own := [("_law_k", 5)]) rfl sc.nd rfl rfl (sw_true rfl rfl rfl (by decide +kernel)) (pi_range1 rfl T.range (pa_cons pe_int pa_nil)) (blkOk_by (N := N_names) (sc := defScope s_names) (by decide +kernel)) (fun _ _ _ _ _ => (pg_name (i := 5) sc.nd rfl (Or.inl rfl))) (fun _ _ _ _ _ => pts_nil) (fun _ _ _ _ _ => (pe_ix ix_str (pv 1) (pe_op op_mod (pe_op op_add (pv 3) (pv 5)) pe_int) (fun _ _ => rfl))))
 (pss_one (ps_ret (pe_lc (own := [("_law_sign", 6)]) rfl sc.nd (PI.toK (t' := iList K _) (pi_list (pv 4))) (blkOk_by (N := N_names) (sc := defScope s_names) (by decide +kernel)) (fun _ _ _ _ _ => (pg_name (i := 6) sc.nd rfl (Or.inl rfl))) (fun _ _ _ _ _ => pts_nil) (fun _ _ _ _ _ => (pe_op op_add_str (pe_ix (ixl K) (pe_lst (pa_cons pe_str (pa_cons pe_str (pa_cons pe_str (pa_cons pe_str pa_nil))))) (pv 2) (fun _ _ => rfl)) (pv 6))))))))), ?_⟩
  obtain ⟨d, c, n, rfl, D, hQ⟩ := h
  refine ⟨_, rfl, d, c, 4, n + 1, rfl, D, by decide, by decide, fun w1 H1 hw1 kp1 D1 => ?_⟩
  refine ⟨_, rfl, d, c, 26, n, rfl, D1, by decide, by decide, fun f1 H2 hf1 kp2 D2 => ?_⟩
  refine ⟨(by show 2 ≤ sizeLine; decide), fun t ht => ⟨t, _, rfl, SqT.of (upd_same ..), rfl, ?_⟩⟩
  have kp3 : Kp [d, c] H (upd H2 t (.tup [.int w1, .int f1])) := (kp1.trans kp2).step ht
  have D3 := D2.keep (Kp.new (o := .tup [.int w1, .int f1]) ht)
  generalize upd H2 t (.tup [.int w1, .int f1]) = H3 at kp3 D3
  refine ⟨_, _, rfl, _, _, rfl, rfl, 26, rfl, by decide, by decide, fun E1 hE1 => lc_range (n := 26) (fun i H' => H' E1 = some (.lst ((List.range i).map fun j => V.str (letN (f1 + j)))) ∧ Kp [] H3 H') ⟨upd_same .., Kp.new hE1⟩ ?_ ?_⟩
  · rintro i H' hi ⟨hl, kp⟩
    refine ⟨rfl, yesT ?_⟩
    refine ⟨_, rfl, _, rfl, _, rfl, _, _, rfl, rfl, _, _, rfl, rfl, (by show (0 : Int) < 26; decide), _, _, 97 + (f1 + i) % 26, rfl, rfl, by decide, ?_, _, hl, ?_, ?_, ?_⟩
    · have e : (((f1 : Int) + (0 + (i : Int))) % 26) = (((f1 + i) % 26 : Nat) : Int) := by omega
      show atI _ (((f1 : Int) + (0 + (i : Int))) % 26) = _
      rw [e]
      exact abc_at _ (Nat.mod_lt _ (by decide))
    · rw [List.length_map, List.length_range]
      exact Nat.lt_of_lt_of_le hi (by decide)
    · rw [upd_same, List.range_succ, List.map_append]
      rfl
    · exact fun b o e _ => by
        rw [upd_ne (fun z => by rw [z, hE1] at e; cases e)]
        exact kp b o e (by simp)
  rintro H4 ⟨hl, kp4⟩
  have D4 := D3.keep kp4
  have kq4 : Kp [d, c] H H4 := kp3.trans (kp4.mono (by simp))
  refine ⟨_, rfl, E1, rfl, ⟨_, SqL.of hl⟩, fun E2 hE2 => ?_⟩
  refine lc_list (xs := (List.range 26).map fun j => V.str (letN (f1 + j))) (fun i H' => H' E2 = some (.lst (((mkNames w1 f1).take i).map V.str)) ∧ Kp [] H4 H') ⟨upd_same .., Kp.new hE2⟩ (fun i H' _ h => SqL.of (h.2 _ _ hl (by simp))) ?_ ?_
  · rintro i x H' hx ⟨hl', kp⟩
    have hi : i < 26 := by
      have := (List.getElem?_eq_some_iff.mp hx).1
      simpa using this
    have ex : x = V.str (letN (f1 + i)) := by
      rw [List.getElem?_map, List.getElem?_range hi] at hx
      exact (Option.some.inj hx).symm
    subst ex
    refine ⟨rfl, yesT ⟨by decide, fun p hp => ?_⟩⟩
    have q1 : upd H' p (.lst [.str "", .str "q", .str "abcde", .str "zzz"]) E2 = _ := (upd_ne (ne_of_none hl' hp)).trans hl'
    refine ⟨_, rfl, p, _, _, .str (preN w1), rfl, rfl, SqL.of (upd_same ..), ?_, _, rfl, _, _, rfl, rfl, ?_, _, q1, ?_, ?_, ?_⟩
    · refine atI_nat ?_
      have : w1 = 0 ∨ w1 = 1 ∨ w1 = 2 ∨ w1 = 3 := by omega
      rcases this with e | e | e | e <;> subst e <;> rfl
    · have hp2 : (preN w1).length ≤ 5 := by
        have : w1 = 0 ∨ w1 = 1 ∨ w1 = 2 ∨ w1 = 3 := by omega
        rcases this with e | e | e | e <;> subst e <;> decide
      have hl2 : (letN (f1 + i)).length = 1 := rfl
      rw [hl2]
      exact Nat.le_trans (Nat.add_le_add_right hp2 1) (by decide)
    · rw [List.length_map, List.length_take]
      exact Nat.lt_of_le_of_lt (Nat.min_le_left ..) (Nat.lt_of_lt_of_le hi (by decide))
    · have hlen : (mkNames w1 f1).length = 26 := by unfold mkNames; simp
      have eg : (mkNames w1 f1)[i]? = some (preN w1 ++ letN (f1 + i)) := by
        unfold mkNames
        rw [List.getElem?_map, List.getElem?_range hi]
        rfl
      rw [upd_same, List.take_succ, eg, List.map_append]
      rfl
    · exact fun b o e _ => by
        rw [upd_ne (fun z => by rw [z, hE2] at e; cases e), upd_ne (ne_of_none (kp b o e (by simp)) hp)]
        exact kp b o e (by simp)
  · rintro H5 ⟨hl5, kp5⟩
    have hlen : (mkNames w1 f1).length = 26 := by unfold mkNames; simp
    have hn : ((List.range 26).map fun j => V.str (letN (f1 + j))).length = 26 := by simp
    rw [hn, List.take_of_length_le (by omega)] at hl5
    refine hQ E2 _ H5 (kq4.free hE2 ?_) hl5 hlen ⟨mkNames_nd w1 f1, fun x hx => ?_⟩ (kq4.trans (kp5.mono (by simp))) (D4.keep kp5)
    · have := D4.ne hE2
      simp [Ne.symm this.1, Ne.symm this.2]
    · obtain ⟨i, _, rfl⟩ := List.mem_map.mp hx
      rw [letN_mod]
      exact mkNames_plain w1 hw1 _ (Nat.mod_lt _ (by decide))
end
end WT

set_option Elab.async false
set_option linter.all false
set_option maxRecDepth 100000
set_option maxHeartbeats 4000000
/-! Expressions: the data, their types, lone. -/
namespace WT
open PySem PySem.Spec PyProof.Rows L2
/-- two lists, place by place -/
def AllV {α : Type} (R : V → α → Prop) : List V → List α → Prop
  | [], [] => True
  | v :: vs, a :: as => R v a ∧ AllV R vs as
  | _, _ => False
theorem AllV.length {α : Type} {R : V → α → Prop} : ∀ {vs : List V} {as : List α}, AllV R vs as → vs.length = as.length
  | [], [], _ => rfl
  | _ :: _, _ :: _, h => congrArg (· + 1) (AllV.length h.2)
  | [], _ :: _, h => h.elim
  | _ :: _, [], h => h.elim
theorem AllV.imp {α : Type} {R R' : V → α → Prop} (f : ∀ v a, R v a → R' v a) : ∀ {vs : List V} {as : List α}, AllV R vs as → AllV R' vs as
  | [], [], _ => trivial
  | _ :: _, _ :: _, h => ⟨f _ _ h.1, AllV.imp f h.2⟩
  | [], _ :: _, h => h.elim
  | _ :: _, [], h => h.elim
theorem AllV.get {α : Type} {R : V → α → Prop} : ∀ {vs : List V} {as : List α} {i : Nat} {v : V}, AllV R vs as → vs[i]? = some v → ∃ a, as[i]? = some a ∧ R v a
  | v :: vs, a :: as, 0, x, h, e => ⟨a, rfl, by simp at e; rw [← e]; exact h.1⟩
  | v :: vs, a :: as, i + 1, x, h, e => by
    obtain ⟨b, h1, h2⟩ := AllV.get (i := i) h.2 (by simpa using e)
    exact ⟨b, by simpa using h1, h2⟩
  | [], _, _, _, _, e => by simp at e
  | _ :: _, [], _, _, h, _ => h.elim
theorem AllV.get' {α : Type} {R : V → α → Prop} {vs : List V} {as : List α} {i : Nat} {a : α} (h : AllV R vs as) (e : as[i]? = some a) : ∃ v, vs[i]? = some v ∧ R v a := by
  have hi : i < vs.length := by rw [h.length]; exact (List.getElem?_eq_some_iff.mp e).1
  obtain ⟨b, h1, h2⟩ := h.get (List.getElem?_eq_getElem hi)
  rw [e] at h1
  exact ⟨_, List.getElem?_eq_getElem hi, by rw [Option.some.inj h1]; exact h2⟩
theorem AllV.append {α : Type} {R : V → α → Prop} : ∀ {vs : List V} {as : List α} {ws : List V} {bs : List α}, AllV R vs as → AllV R ws bs → AllV R (vs ++ ws) (as ++ bs)
  | [], [], _, _, _, h => h
  | _ :: _, _ :: _, _, _, h, h' => ⟨h.1, AllV.append h.2 h'⟩
  | [], _ :: _, _, _, h, _ => h.elim
  | _ :: _, [], _, _, h, _ => h.elim
theorem AllV.snoc {α : Type} {R : V → α → Prop} {vs : List V} {as : List α} {v : V} {a : α} (h : AllV R vs as) (q : R v a) : AllV R (vs ++ [v]) (as ++ [a]) := h.append ⟨q, trivial⟩
/-! ### the data -/
inductive Op where | and | or | xor | sum | same | below | join
deriving DecidableEq
def opN : Op → Str
  | .and => "and" | .or => "or" | .xor => "xor" | .sum => "sum" | .same => "same" | .below => "below" | .join => "join"
inductive Ex where
  | name (x : Str)
  | num (w k : Nat)
  | not (a : Ex)
  | bin (o : Op) (a b : Ex)
  | pick (a b c : Ex)
  | cut (w : Nat) (a : Ex)
  | bit (k : Nat) (a : Ex)
def Ex.depth : Ex → Nat
  | .name _ => 1
  | .num _ _ => 1
  | .not a => a.depth + 1
  | .bin _ a b => max a.depth b.depth + 1
  | .pick a b c => max (max a.depth b.depth) c.depth + 1
  | .cut _ a => a.depth + 1
  | .bit _ a => a.depth + 1
def Ex.names : Ex → List Str
  | .name x => [x]
  | .num _ _ => []
  | .not a => a.names
  | .bin _ a b => a.names ++ b.names
  | .pick a b c => a.names ++ (b.names ++ c.names)
  | .cut _ a => a.names
  | .bit _ a => a.names
/-- the expression e as it lies in the heap -/
def IsEx (H : Hp) : Ex → V → Prop
  | .name x, v => ∃ a, v = .ref a ∧ H a = some (.tup [.str "name", .str x])
  | .num w k, v => ∃ a, v = .ref a ∧ H a = some (.tup [.str "num", .int (w : Int), .int (k : Int)])
  | .not e, v => ∃ a u, v = .ref a ∧ H a = some (.tup [.str "not", u]) ∧ IsEx H e u
  | .bin o e f, v => ∃ a u u', v = .ref a ∧ H a = some (.tup [.str (opN o), u, u']) ∧ IsEx H e u ∧ IsEx H f u'
  | .pick e f g, v => ∃ a u u' u'', v = .ref a ∧ H a = some (.tup [.str "pick", u, u', u'']) ∧ IsEx H e u ∧ IsEx H f u' ∧ IsEx H g u''
  | .cut w e, v => ∃ a u, v = .ref a ∧ H a = some (.tup [.str "cut", .int (w : Int), u]) ∧ IsEx H e u
  | .bit k e, v => ∃ a u, v = .ref a ∧ H a = some (.tup [.str "bit", .int (k : Int), u]) ∧ IsEx H e u
theorem IsEx.keep {l : List Addr} {H H' : Hp} (k : Kp l H H') : ∀ {e : Ex} {v : V}, IsEx H e v → IsEx H' e v
  | .name x, v, ⟨a, h1, h2⟩ => ⟨a, h1, k.tup h2⟩
  | .num w n, v, ⟨a, h1, h2⟩ => ⟨a, h1, k.tup h2⟩
  | .not e, v, ⟨a, u, h1, h2, h3⟩ => ⟨a, u, h1, k.tup h2, h3.keep k⟩
  | .bin o e f, v, ⟨a, u, u', h1, h2, h3, h4⟩ => ⟨a, u, u', h1, k.tup h2, h3.keep k, h4.keep k⟩
  | .pick e f g, v, ⟨a, u, u', u'', h1, h2, h3, h4, h5⟩ => ⟨a, u, u', u'', h1, k.tup h2, h3.keep k, h4.keep k, h5.keep k⟩
  | .cut w e, v, ⟨a, u, h1, h2, h3⟩ => ⟨a, u, h1, k.tup h2, h3.keep k⟩
  | .bit n e, v, ⟨a, u, h1, h2, h3⟩ => ⟨a, u, h1, k.tup h2, h3.keep k⟩
/-- the expression has the width w, its names by R -/
def Ty (R : Str → Nat → Prop) : Ex → Nat → Prop
  | .name x, w => w ≤ 64 ∧ R x w
  | .num w' k, w => w ≤ 64 ∧ w' = w ∧ k < 2 ^ w
  | .not e, w => w ≤ 64 ∧ Ty R e w
  | .bin o e f, w => w ≤ 64 ∧ match o with
    | .and | .or | .xor => Ty R e w ∧ Ty R f w
    | .same | .below => w = 1 ∧ ∃ u, Ty R e u ∧ Ty R f u
    | .sum => ∃ u v, Ty R e u ∧ Ty R f v ∧ w = 1 + max u v
    | .join => ∃ u v, Ty R e u ∧ Ty R f v ∧ w = u + v
  | .pick e f g, w => w ≤ 64 ∧ Ty R e 1 ∧ Ty R f w ∧ Ty R g w
  | .cut w' e, w => w ≤ 64 ∧ w' = w ∧ ∃ u, Ty R e u
  | .bit _ e, w => w ≤ 64 ∧ w = 1 ∧ ∃ u, Ty R e u
theorem Ty.le {R : Str → Nat → Prop} {e : Ex} {w : Nat} (h : Ty R e w) : w ≤ 64 := by cases e <;> exact h.1
theorem Ty.imp {R R' : Str → Nat → Prop} : ∀ {e : Ex} {w : Nat}, Ty R e w → (∀ x ∈ e.names, ∀ w, R x w → R' x w) → Ty R' e w
  | .name x, w, ⟨h, h1⟩, f => ⟨h, f x (by simp [Ex.names]) w h1⟩
  | .num w' k, w, h, f => h
  | .not e, w, ⟨h, h1⟩, f => ⟨h, h1.imp f⟩
  | .bin o a b, w, ⟨h, h1⟩, f => by
    have fa : ∀ x ∈ a.names, ∀ w, R x w → R' x w := fun x hx => f x (by simp [Ex.names, hx])
    have fb : ∀ x ∈ b.names, ∀ w, R x w → R' x w := fun x hx => f x (by simp [Ex.names, hx])
    refine ⟨h, ?_⟩
    cases o
    · exact ⟨h1.1.imp fa, h1.2.imp fb⟩
    · exact ⟨h1.1.imp fa, h1.2.imp fb⟩
    · exact ⟨h1.1.imp fa, h1.2.imp fb⟩
    · obtain ⟨u, v, h2, h3, h4⟩ := h1
      exact ⟨u, v, h2.imp fa, h3.imp fb, h4⟩
    · obtain ⟨h1, u, h2, h3⟩ := h1
      exact ⟨h1, u, h2.imp fa, h3.imp fb⟩
    · obtain ⟨h1, u, h2, h3⟩ := h1
      exact ⟨h1, u, h2.imp fa, h3.imp fb⟩
    · obtain ⟨u, v, h2, h3, h4⟩ := h1
      exact ⟨u, v, h2.imp fa, h3.imp fb, h4⟩
  | .pick a b c, w, ⟨h, h1, h2, h3⟩, f => ⟨h, h1.imp fun x hx => f x (by simp [Ex.names, hx]), h2.imp fun x hx => f x (by simp [Ex.names, hx]), h3.imp fun x hx => f x (by simp [Ex.names, hx])⟩
  | .cut w' e, w, ⟨h, h1, u, h2⟩, f => ⟨h, h1, u, h2.imp f⟩
  | .bit k e, w, ⟨h, h1, u, h2⟩, f => ⟨h, h1, u, h2.imp f⟩
/-! ### pools -/
def IsPr (H : Hp) (v : V) (x : Str × Nat) : Prop := ∃ a, v = .ref a ∧ H a = some (.tup [.str x.1, .int (x.2 : Int)])
def Pool (H : Hp) (p : Addr) (es : List (Str × Nat)) : Prop := ∃ vs, H p = some (.lst vs) ∧ AllV (IsPr H) vs es
theorem IsPr.keep {l : List Addr} {H H' : Hp} (k : Kp l H H') {v : V} {x : Str × Nat} (h : IsPr H v x) : IsPr H' v x := let ⟨a, h1, h2⟩ := h; ⟨a, h1, k.tup h2⟩
theorem Pool.keep {l : List Addr} {H H' : Hp} {p : Addr} {es : List (Str × Nat)} (h : Pool H p es) (k : Kp l H H') (hp : p ∉ l) : Pool H' p es := by
  obtain ⟨vs, h1, h2⟩ := h
  exact ⟨vs, k.at h1 hp, h2.imp fun _ _ q => q.keep k⟩
theorem Pool.ne {H : Hp} {d c p : Addr} {n : Nat} {es : List (Str × Nat)} (h : Pool H p es) (D : Deck H d c n) : p ≠ d := by
  obtain ⟨vs, h1, _⟩ := h
  obtain ⟨_, _, _, h2, _⟩ := D
  exact ne_of h1 h2 (fun z => by cases z)
abbrev InPool (es : List (Str × Nat)) (x : Str) (w : Nat) : Prop := (x, w) ∈ es
abbrev s_lone : Stmt := topS 20
abbrev N_lone : List Str := ["_law_deck_here", "_law_pool", "_law_broad", "_law_some", "_law_x", "_law_w"]
abbrev P_lone : List Str := ["_law_deck_here", "_law_pool", "_law_broad"]
theorem sc_lone : FnScope N_lone P_lone (defScope s_lone) := ⟨rfl, rfl, rfl, by decide +kernel, rfl, by decide +kernel, by decide +kernel⟩
def spLone : Sp := fun vs H Q _ => ∃ (d c p : Addr) (n br : Nat) (es : List (Str × Nat)), vs = [.ref d, .ref p, .int (br : Int)] ∧ Deck H d c (n + 2) ∧ Pool H p es ∧ p ≠ c ∧ es.length ≤ 1000 ∧ br ≤ 20 ∧
  ∀ (v : V) (e : Ex) H', IsEx H' e v → Ty (InPool es) e br → e.depth = 1 → Kp [d, c] H H' → Deck H' d c n → Q v H'
section
variable {P : Program} {w : World} {K : PySem.W.Frag} {mg : Str → Option Value} {base : Heap}
theorem cal_lone (S : Std K mg "_law_lone" s_lone) (T : Frees mg) (cdraw : Cal P w K mg base "_law_draw" 1 P_draw spDraw) (cpick : Cal P w K mg base "_law_pick" 2 P_pick spPick) : Cal P w K mg base "_law_lone" 3 P_lone spLone := by
  obtain ⟨f, fd, F, m⟩ := S
  obtain ⟨fdraw, ddraw, G_draw, m_draw, k_draw, b_draw⟩ := cdraw
  obtain ⟨fpick, dpick, G_pick, m_pick, k_pick, b_pick⟩ := cpick
  refine ⟨f, fd, ?_, m, F.kp, F.bindsN fun _ _ _ _ _ _ us hl => match us, hl with | [_, _, _], _ => rfl⟩
  have sc := sc_lone
  refine F.ok sc (fun vs H Q E h => by obtain ⟨_, _, _, _, _, _, rfl, _⟩ := h; rfl) fun cdv A outer s H vs Q E hr h => ⟨_, PSs.nox (pss_cons (ps_setLc (i := 3) (own := [("_law_x", 4), ("_law_w", 5)]) rfl sc.nd rfl rfl (sw_true rfl rfl rfl (by decide +kernel)) (PI.toK (t' := iList K _) (pi_list (pv 1))) (blkOk_by (N := N_lone) (sc := defScope s_lone) (by decide +kernel)) (fun _ _ _ _ _ => (PG.toK (t' := gTup K 2 _) (pg_tup rfl (pgs_cons (pg_name (i := 4) sc.nd rfl (Or.inl rfl)) (pgs_cons (pg_name (i := 5) sc.nd rfl (Or.inl rfl)) pgs_nil))))) (fun _ _ _ _ _ => pts_one (pt_cmpR op_eq (pv 5) (pv 2) (nomark _))) (fun _ _ _ _ _ => (pv 4)))
 (pss_cons (ps_if (PW.pt (pw_or (pt_cmpR (op_eqNil (Nat.lt_of_succ_lt (hu_of hr))) (pv 3) (pe_lst pa_nil) (nomark _)) (pw_or1 (pt_cmpR op_eq (pe_call G_draw (hr.mono (by decide)) rfl m_draw k_draw b_draw .nil pass0 (pa_cons (pv 0) (pa_cons pe_int pa_nil))) pe_int (nomark _))))) (pss_one (ps_ret (pe_tup (pa_cons pe_str (pa_cons (pv 2) (pa_cons (pe_call G_draw (hr.mono (by decide)) rfl m_draw k_draw b_draw .nil pass0 (pa_cons (pv 0) (pa_cons (pe_op op_oneShl pe_int (pv 2)) pa_nil))) pa_nil)))))) pss_nil)
 (pss_one (ps_ret (pe_tup (pa_cons pe_str (pa_cons (pe_call G_pick (hr.mono (by decide)) rfl m_pick k_pick b_pick .nil pass0 (pa_cons (pv 0) (pa_cons (pv 3) pa_nil))) pa_nil))))))), ?_⟩
  obtain ⟨d, c, p, n, br, es, rfl, D, hp, hpc, hes, hbr, hQ⟩ := h
  obtain ⟨vs, hv, av⟩ := id hp
  have hpd := hp.ne D
  have hlen := av.length
  refine ⟨_, rfl, p, rfl, ⟨_, SqL.of hv⟩, fun E1 hE1 => lc_list (xs := vs) (fun i H' => H' E1 = some (.lst (((es.take i).filter fun x => decide (x.2 = br)).map fun x => V.str x.1)) ∧ Kp [] H H') ⟨upd_same .., Kp.new hE1⟩ (fun i H' _ h => SqL.of (h.2.at hv (by simp))) ?_ ?_⟩
  · rintro i x H' hx ⟨hl, kp⟩
    obtain ⟨⟨y, b⟩, ha, t, rfl, ht⟩ := av.get hx
    refine ⟨t, _, rfl, SqT.of (kp.tup ht), rfl, _, _, rfl, _, _, rfl, rfl, rfl, ?_⟩
    have et : es.take (i + 1) = es.take i ++ [(y, b)] := by rw [List.take_succ, ha]; rfl
    refine ⟨_, rfl, _, rfl, rfl, _, rfl, ?_⟩
    by_cases hb : b = br
    · subst hb
      rw [show decide (V.int ((y, b).2 : Int) = V.int (b : Int)) = true from decide_eq_true rfl]
      refine iteT ⟨_, rfl, _, hl, ?_, ?_, ?_⟩
      · rw [List.length_map]
        have h1 := List.length_filter_le (fun x : Str × Nat => decide (x.2 = b)) (es.take i)
        have h2 : (es.take i).length ≤ es.length := by rw [List.length_take]; exact Nat.min_le_right ..
        exact Nat.lt_of_le_of_lt (Nat.le_trans h1 (Nat.le_trans h2 hes)) (by decide)
      · rw [upd_same, et, List.filter_append, List.map_append]
        simp
      · exact kp.fresh hE1
    · rw [show decide (V.int ((y, b).2 : Int) = V.int (br : Int)) = false from decide_eq_false (fun z => hb (by have := V.int.inj z; exact Int.ofNat_inj.mp this))]
      refine iteF ⟨?_, kp⟩
      rw [hl, et, List.filter_append, List.map_append]
      simp [hb]
  rintro H2 ⟨hl2, kp2⟩
  rw [List.take_of_length_le (by omega)] at hl2
  generalize hsel : (es.filter fun x => decide (x.2 = br)) = sel at hl2
  have hmem : ∀ x ∈ sel, x ∈ es ∧ x.2 = br := fun x hx => by
    rw [← hsel, List.mem_filter] at hx
    exact ⟨hx.1, of_decide_eq_true hx.2⟩
  have D2 := D.keep kp2
  have kq2 : Kp [d, c] H H2 := kp2.up
  have hne := D.ne hE1
  have hsl : sel.length ≤ 1000 := by rw [← hsel]; exact Nat.le_trans (List.length_filter_le _ _) hes
  -- a number
  have num : ∀ H3 m, n + 1 ≤ m → Kp [d, c] H H3 → Deck H3 d c m → spDraw [.ref d, .int (2 ^ br)] H3 (fun v H4 => [V.str "num", V.int (br : Int), v].length ≤ sizeLine ∧ ∀ t, H4 t = none → Q (.ref t) (upd H4 t (.tup [.str "num", .int (br : Int), v]))) E := fun H3 m hm kp3 D3 => by
    have e2 : ((2 : Int) ^ br) = ((2 ^ br : Nat) : Int) := by push_cast; rfl
    refine ⟨d, c, 2 ^ br, n, by rw [e2], D3.less hm, Nat.two_pow_pos br, Nat.lt_of_le_of_lt (Nat.pow_le_pow_right (by decide) hbr) (by decide), fun r H4 hr4 kp4 D4 => ⟨(by show 3 ≤ sizeLine; decide), fun t ht => ?_⟩⟩
    exact hQ _ (.num br r) _ ⟨t, rfl, upd_same ..⟩ ⟨by omega, rfl, hr4⟩ rfl ((kp3.trans kp4).step ht) (D4.keep (Kp.new ht))
  refine ⟨_, rfl, by decide, fun q hq => ⟨E1, q, _, rfl, rfl, SqL.of ((upd_ne (ne_of_none hl2 hq)).trans hl2), SqL.of (upd_same ..), _, rfl, ?_⟩⟩
  have kp3 : Kp [d, c] H (upd H2 q (.lst [])) := kq2.step hq
  have D3 := D2.keep (Kp.new (o := .lst []) hq)
  have hl3 : upd H2 q (.lst []) E1 = _ := (upd_ne (ne_of_none hl2 hq)).trans hl2
  generalize upd H2 q (.lst []) = H3 at kp3 D3 hl3
  cases hs0 : sel with
  | nil =>
    refine iteT (iteT ⟨_, rfl, _, rfl, _, rfl, br, rfl, rfl, Nat.le_trans hbr (by decide), ?_⟩)
    exact num H3 (n + 2) (by omega) kp3 D3
  | cons x0 xs0 =>
    have hne : sel ≠ [] := by rw [hs0]; simp
    refine iteF ⟨_, rfl, d, c, 6, n + 1, rfl, D3, by decide, by decide, fun r H4 hr4 kp4 D4 => ⟨rfl, _, rfl, ?_⟩⟩
    have kp34 := kp3.trans kp4
    have hcE : E1 ∉ [d, c] := by simp [Ne.symm (D.ne hE1).1, Ne.symm (D.ne hE1).2]
    have hl4 := kp4.at hl3 hcE
    by_cases hr0 : r = 0
    · subst hr0
      refine iteT ⟨_, rfl, _, rfl, _, rfl, br, rfl, rfl, Nat.le_trans hbr (by decide), ?_⟩
      exact num H4 (n + 1) (by omega) kp34 D4
    · rw [show decide (V.int (r : Int) = V.int 0) = false from decide_eq_false (fun z => hr0 (by have := V.int.inj z; omega))]
      refine iteF ⟨_, rfl, _, rfl, d, c, E1, n, _, rfl, D4, hl4, fun z => hcE (by simp [z]), by simpa using hne, Nat.lt_of_le_of_lt (show (sel.map fun x => V.str x.1).length ≤ 1000 by rw [List.length_map]; exact hsl) (by decide), fun i x H5 hx kp5 D5 => ⟨(by show 2 ≤ sizeLine; decide), fun t ht => ?_⟩⟩
      rw [List.getElem?_map] at hx
      cases hg : sel[i]? with
      | none => rw [hg] at hx; cases hx
      | some y =>
        rw [hg] at hx
        obtain rfl := Option.some.inj hx
        obtain ⟨m1, m2⟩ := hmem y (List.mem_of_getElem? hg)
        refine hQ _ (.name y.1) _ ⟨t, rfl, upd_same ..⟩ ⟨by omega, ?_⟩ rfl ((kp34.trans kp5).step ht) (D5.keep (Kp.new ht))
        show (y.1, br) ∈ es
        rw [← m2]
        exact m1
end
end WT

set_option Elab.async false
set_option linter.all false
set_option maxRecDepth 100000
set_option maxHeartbeats 8000000
/-! exp: a drawn expression. -/
namespace WT
open PySem PySem.Spec PyProof.Rows L2
abbrev s_exp : Stmt := topS 21
abbrev N_exp : List Str := ["_law_deck_here", "_law_pool", "_law_broad", "_law_deep", "_law_way", "_law_one", "_law_side", "_law_first", "_law_some", "_law_cut"]
abbrev P_exp : List Str := ["_law_deck_here", "_law_pool", "_law_broad", "_law_deep"]
theorem sc_exp : FnScope N_exp P_exp (defScope s_exp) := ⟨rfl, rfl, rfl, by decide +kernel, rfl, by decide +kernel, by decide +kernel⟩
/-- draws of an expression of depth j -/
def cE : Nat → Nat
  | 0 => 0
  | j + 1 => 3 * cE j + 3
def spExp (j : Nat) : Sp := fun vs H Q _ => 1 ≤ j ∧ ∃ (d c p : Addr) (n br : Nat) (b z : Int) (es : List (Str × Nat)), vs = [.ref d, .ref p, .int b, .int z] ∧ b = (br : Int) ∧ z = (j : Int) ∧ Deck H d c (n + cE j) ∧ Pool H p es ∧ p ≠ c ∧ es.length ≤ 1000 ∧ 1 ≤ br ∧ j ≤ 5 ∧ br + j ≤ 8 ∧
  ∀ (v : V) (e : Ex) H', IsEx H' e v → Ty (InPool es) e br → e.depth ≤ j → Kp [d, c] H H' → Deck H' d c n → Q v H'
section
variable {P : Program} {w : World} {K : PySem.W.Frag} {mg : Str → Option Value} {base : Heap}
theorem cal_exp (S : Std K mg "_law_exp" s_exp) (T : Frees mg) (cdraw : Cal P w K mg base "_law_draw" 1 P_draw spDraw) (clone : Cal P w K mg base "_law_lone" 3 P_lone spLone) (j : Nat) : Cal P w K mg base "_law_exp" (3 + j) P_exp (spExp j) := by
  induction j with
  | zero =>
    obtain ⟨f, fd, F, m⟩ := S
    exact ⟨f, fd, ⟨fun vs H Q E h => by have := h.1; omega, fun A outer s H args us vs Q E _ _ _ _ h => by have := h.1; omega⟩, m, F.kp, F.bindsN fun _ _ _ _ _ _ us hl => match us, hl with | [_, _, _, _], _ => rfl⟩
  | succ j ih =>
  obtain ⟨f, fd, F, m⟩ := S
  obtain ⟨fdraw, ddraw, G_draw, m_draw, k_draw, b_draw⟩ := cdraw
  obtain ⟨flone, dlone, G_lone, m_lone, k_lone, b_lone⟩ := clone
  obtain ⟨fexp, dexp, G_exp, m_exp, k_exp, b_exp⟩ := ih
  refine ⟨f, fd, ?_, m, F.kp, F.bindsN fun _ _ _ _ _ _ us hl => match us, hl with | [_, _, _, _], _ => rfl⟩
  have sc := sc_exp
  refine F.ok (k := 3 + j) sc (fun vs H Q E h => by obtain ⟨_, _, _, _, _, _, _, _, _, rfl, _⟩ := h; rfl) fun cdv A outer s H vs Q E hr h => ⟨_, PSs.nox (pss_cons (ps_set (i := 4) sc.nd rfl (Or.inl rfl) (pe_call G_draw (hr.mono (by omega)) rfl m_draw k_draw b_draw .nil pass0 (pa_cons (pv 0) (pa_cons pe_int pa_nil))))
 (pss_cons (ps_if (PW.pt (pw_or (pt_cmpR op_lt (pv 3) pe_int (nomark _)) (pw_or1 (pt_cmpR op_lt (pv 4) pe_int (nomark _))))) (pss_one (ps_ret (pe_call G_lone (hr.mono (by omega)) rfl m_lone k_lone b_lone .nil pass0 (pa_cons (pv 0) (pa_cons (pv 1) (pa_cons (pv 2) pa_nil)))))) pss_nil)
 (pss_cons (ps_set (i := 5) sc.nd rfl (Or.inl rfl) (pe_call G_exp (hr.mono (by omega)) rfl m_exp k_exp b_exp .nil pass0 (pa_cons (pv 0) (pa_cons (pv 1) (pa_cons (pv 2) (pa_cons (pe_op op_sub (pv 3) pe_int) pa_nil))))))
 (pss_cons (ps_if (pt_cmpR op_eq (pv 4) pe_int (nomark _)) (pss_one (ps_ret (pe_tup (pa_cons pe_str (pa_cons (pv 5) pa_nil))))) pss_nil)
 (pss_cons (ps_if (pt_cmpR op_lt (pv 4) pe_int (nomark _)) (pss_one (ps_ret (pe_tup (pa_cons (pe_ix (ixl K) (pe_lst (pa_cons pe_str (pa_cons pe_str (pa_cons pe_str pa_nil)))) (pe_op op_sub (pv 4) pe_int) (fun _ _ => rfl)) (pa_cons (pv 5) (pa_cons (pe_call G_exp (hr.mono (by omega)) rfl m_exp k_exp b_exp .nil pass0 (pa_cons (pv 0) (pa_cons (pv 1) (pa_cons (pv 2) (pa_cons (pe_op op_sub (pv 3) pe_int) pa_nil))))) pa_nil)))))) pss_nil)
 (pss_cons (ps_if (pt_cmpR op_eq (pv 4) pe_int (nomark _)) (pss_one (ps_ret (pe_tup (pa_cons pe_str (pa_cons (pe_call G_exp (hr.mono (by omega)) rfl m_exp k_exp b_exp .nil pass0 (pa_cons (pv 0) (pa_cons (pv 1) (pa_cons pe_int (pa_cons (pe_op op_sub (pv 3) pe_int) pa_nil))))) (pa_cons (pv 5) (pa_cons (pe_call G_exp (hr.mono (by omega)) rfl m_exp k_exp b_exp .nil pass0 (pa_cons (pv 0) (pa_cons (pv 1) (pa_cons (pv 2) (pa_cons (pe_op op_sub (pv 3) pe_int) pa_nil))))) pa_nil))))))) pss_nil)
 (pss_cons (ps_if (pt_cmpR op_eq (pv 4) pe_int (nomark _)) (pss_one (ps_ret (pe_tup (pa_cons pe_str (pa_cons (pv 2) (pa_cons (pe_call G_exp (hr.mono (by omega)) rfl m_exp k_exp b_exp .nil pass0 (pa_cons (pv 0) (pa_cons (pv 1) (pa_cons (pe_op op_add (pv 2) pe_int) (pa_cons (pe_op op_sub (pv 3) pe_int) pa_nil))))) pa_nil)))))) pss_nil)
 (pss_cons (ps_if (pt_cmpR op_eq (pv 2) pe_int (nomark _)) (pss_cons (ps_set (i := 6) sc.nd rfl (Or.inl rfl) (pe_op op_add pe_int (pe_call G_draw (hr.mono (by omega)) rfl m_draw k_draw b_draw .nil pass0 (pa_cons (pv 0) (pa_cons pe_int pa_nil)))))
 (pss_cons (ps_set (i := 7) sc.nd rfl (Or.inl rfl) (pe_call G_exp (hr.mono (by omega)) rfl m_exp k_exp b_exp .nil pass0 (pa_cons (pv 0) (pa_cons (pv 1) (pa_cons (pv 6) (pa_cons (pe_op op_sub (pv 3) pe_int) pa_nil))))))
 (pss_cons (ps_if (pt_cmpR op_eq (pv 4) pe_int (nomark _)) (pss_one (ps_ret (pe_tup (pa_cons pe_str (pa_cons (pe_call G_draw (hr.mono (by omega)) rfl m_draw k_draw b_draw .nil pass0 (pa_cons (pv 0) (pa_cons (pv 6) pa_nil))) (pa_cons (pv 7) pa_nil)))))) pss_nil)
 (pss_one (ps_ret (pe_tup (pa_cons (pe_ix (ixl K) (pe_lst (pa_cons pe_str (pa_cons pe_str pa_nil))) (pe_op op_sub (pv 4) pe_int) (fun _ _ => rfl)) (pa_cons (pv 7) (pa_cons (pe_call G_exp (hr.mono (by omega)) rfl m_exp k_exp b_exp .nil pass0 (pa_cons (pv 0) (pa_cons (pv 1) (pa_cons (pv 6) (pa_cons (pe_op op_sub (pv 3) pe_int) pa_nil))))) pa_nil))))))))) pss_nil)
 (pss_cons (ps_if (pt_cmpR op_lt (pv 4) pe_int (nomark _)) (pss_cons (ps_set (i := 8) sc.nd rfl (Or.inl rfl) (pe_lst (pa_cons (pe_call G_exp (hr.mono (by omega)) rfl m_exp k_exp b_exp .nil pass0 (pa_cons (pv 0) (pa_cons (pv 1) (pa_cons (pe_op op_sub (pv 2) pe_int) (pa_cons (pe_op op_sub (pv 3) pe_int) pa_nil))))) pa_nil)))
 (pss_cons (ps_expr (PE.toK (t' := tBM K _ _ _ _) (pe_bm PySem.F.plainAttrs_list PySem.F.slot_list_append PySem.F.type_list_append mt_append (pv 8) (pa_cons (pe_call G_exp (hr.mono (by omega)) rfl m_exp k_exp b_exp .nil pass0 (pa_cons (pv 0) (pa_cons (pv 1) (pa_cons (pe_op op_add pe_int (pe_call G_draw (hr.mono (by omega)) rfl m_draw k_draw b_draw .nil pass0 (pa_cons (pv 0) (pa_cons (pe_op op_sub (pv 2) pe_int) pa_nil)))) (pa_cons (pe_op op_sub (pv 3) pe_int) pa_nil))))) pa_nil))))
 (pss_one (ps_ret (pe_op (catA K) (pe_tup (pa_cons pe_str pa_nil)) (pe_callTy (cTup K) rfl T.tuple (by decide +kernel) (pa_cons (pe_ix (ixl K) (pe_lst (pa_cons (pv 8) (pa_cons (pe_revL (pv 8)) pa_nil))) (pe_op op_sub (pv 4) pe_int) (fun _ _ => rfl)) pa_nil))))))) pss_nil)
 (pss_cons (ps_set (i := 9) sc.nd rfl (Or.inl rfl) (pe_op op_add pe_int (pe_call G_draw (hr.mono (by omega)) rfl m_draw k_draw b_draw .nil pass0 (pa_cons (pv 0) (pa_cons (pe_op op_sub (pv 2) pe_int) pa_nil)))))
 (pss_one (ps_ret (pe_tup (pa_cons pe_str (pa_cons (pe_call G_exp (hr.mono (by omega)) rfl m_exp k_exp b_exp .nil pass0 (pa_cons (pv 0) (pa_cons (pv 1) (pa_cons (pv 9) (pa_cons (pe_op op_sub (pv 3) pe_int) pa_nil))))) (pa_cons (pe_call G_exp (hr.mono (by omega)) rfl m_exp k_exp b_exp .nil pass0 (pa_cons (pv 0) (pa_cons (pv 1) (pa_cons (pe_op op_sub (pv 2) (pv 9)) (pa_cons (pe_op op_sub (pv 3) pe_int) pa_nil))))) pa_nil)))))))))))))))), ?_⟩
  obtain ⟨_, d, c, p, n, br, b, z, es, rfl, rfl, rfl, D, hp, hpc, hes, hbr1, hj5, hbr, hQ⟩ := h
  have hpd := hp.ne D
  have hpl : p ∉ [d, c] := by simp [hpd, hpc]
  have eC : cE (j + 1) = 3 * cE j + 3 := rfl
  refine ⟨_, rfl, d, c, 11, n + 3 * cE j + 2, rfl, D.less (by omega), by decide, by decide, fun way H1 hway kp1 D1 => ?_⟩
  have lone : spLone [.ref d, .ref p, .int (br : Int)] H1 Q E := ⟨d, c, p, n, br, es, rfl, D1.less (by omega), hp.keep kp1 hpl, hpc, hes, by omega, fun v e H' h1 h2 h3 h4 h5 => hQ v e H' h1 h2 (by omega) (kp1.trans h4) h5⟩
  refine ⟨_, rfl, _, _, rfl, rfl, _, rfl, ?_⟩
  cases j with
  | zero => exact iteT (iteT ⟨_, rfl, _, rfl, _, rfl, lone⟩)
  | succ j0 =>
  generalize hj : j0 + 1 = j at *
  have hd2 : decide (((j + 1 : Nat) : Int) < 2) = false := decide_eq_false (by omega)
  rw [hd2]
  refine iteF ⟨_, rfl, _, _, rfl, rfl, _, rfl, ?_⟩
  have two : way < 2 ∨ 2 ≤ way := by omega
  rcases two with hw2 | hw2
  · rw [show decide ((way : Int) < 2) = true from decide_eq_true (by omega)]
    exact iteT ⟨_, rfl, _, rfl, _, rfl, lone⟩
  rw [show decide ((way : Int) < 2) = false from decide_eq_false (by omega)]
  have rc : ∀ (H2 : Hp) (br' m : Nat) (b' z' : Int) (R : VK), b' = br' → z' = j → Kp [d, c] H H2 → Deck H2 d c (m + cE j) → 1 ≤ br' → br' + j ≤ 8 →
      (∀ v e H', IsEx H' e v → Ty (InPool es) e br' → e.depth ≤ j → Kp [d, c] H H' → Kp [d, c] H2 H' → Deck H' d c m → R v H') → spExp j [.ref d, .ref p, .int b', .int z'] H2 R E :=
    fun H2 br' m b' z' R e1 e2 k D2 h1 h2 h => ⟨by omega, d, c, p, m, br', b', z', es, rfl, e1, e2, D2, hp.keep k hpl, hpc, hes, h1, by omega, h2, fun v e H' x1 x2 x3 x4 x5 => h v e H' x1 x2 x3 (k.trans x4) x4 x5⟩
  refine iteF ⟨_, rfl, _, rfl, _, rfl, _, rfl, _, _, rfl, rfl, rc H1 br (n + 2 * cE j + 2) _ _ _ rfl (by push_cast; omega) kp1 (D1.less (by omega)) hbr1 (by omega) fun v1 e1 H2 x1 t1 p1 kp2 kq2 D2 => ?_⟩
  -- a tuple at the end
  have fin : ∀ (xs : List V) (e : Ex) (m : Nat) (H3 : Hp), xs.length ≤ 4 → Kp [d, c] H H3 → Deck H3 d c m → n ≤ m → (∀ t, H3 t = none → IsEx (upd H3 t (.tup xs)) e (.ref t)) → Ty (InPool es) e br → e.depth ≤ j + 1 → xs.length ≤ sizeLine ∧ ∀ t, H3 t = none → Q (.ref t) (upd H3 t (.tup xs)) :=
    fun xs e m H3 h1 h2 h3 h4 h5 h6 h7 => ⟨Nat.le_trans h1 (by decide), fun t ht => hQ _ e _ (h5 t ht) h6 h7 (h2.step ht) ((h3.less h4).keep (Kp.new ht))⟩
  have ways : way = 2 ∨ way = 3 ∨ way = 4 ∨ way = 5 ∨ way = 6 ∨ way = 7 ∨ way = 8 ∨ way = 9 ∨ way = 10 := by omega
  rcases ways with e | e | e | e | e | e | e | e | e <;> subst e
  · -- not
    refine ⟨_, rfl, rfl, _, rfl, iteT ⟨_, rfl, fin _ (.not e1) _ H2 (by show 2 ≤ 4; decide) kp2 D2 (by omega) (fun t ht => ⟨t, v1, rfl, upd_same .., x1.keep (Kp.new (l := []) ht)⟩) ⟨by omega, t1⟩ (by show e1.depth + 1 ≤ _; omega)⟩⟩
  · -- and
    refine ⟨_, rfl, rfl, _, rfl, iteF ⟨_, rfl, _, _, rfl, rfl, _, rfl, iteT ⟨by decide, fun q hq => ?_⟩⟩⟩
    refine ⟨_, rfl, _, _, rfl, rfl, q, _, _, .str "and", rfl, rfl, SqL.of (upd_same ..), rfl, _, rfl, _, rfl, _, rfl, _, rfl, _, rfl, _, _, rfl, rfl, ?_⟩
    refine rc _ br (n + cE j + 2) _ _ _ rfl (by push_cast; omega) (kp2.step hq) ((D2.less (by omega)).keep (Kp.new hq)) hbr1 (by omega) fun v2 e2 H3 x2 t2 p2 kp3 kq3 D3 => ?_
    exact fin _ (.bin .and e1 e2) _ H3 (by show 3 ≤ 4; decide) kp3 D3 (by omega) (fun t ht => ⟨t, v1, v2, rfl, upd_same .., (x1.keep (Kp.new (l := []) hq)).keep (kq3.step ht), x2.keep (Kp.new (l := []) ht)⟩) ⟨by omega, t1, t2⟩ (by show max e1.depth e2.depth + 1 ≤ _; omega)
  · -- or
    refine ⟨_, rfl, rfl, _, rfl, iteF ⟨_, rfl, _, _, rfl, rfl, _, rfl, iteT ⟨by decide, fun q hq => ?_⟩⟩⟩
    refine ⟨_, rfl, _, _, rfl, rfl, q, _, _, .str "or", rfl, rfl, SqL.of (upd_same ..), rfl, _, rfl, _, rfl, _, rfl, _, rfl, _, rfl, _, _, rfl, rfl, ?_⟩
    refine rc _ br (n + cE j + 2) _ _ _ rfl (by push_cast; omega) (kp2.step hq) ((D2.less (by omega)).keep (Kp.new hq)) hbr1 (by omega) fun v2 e2 H3 x2 t2 p2 kp3 kq3 D3 => ?_
    exact fin _ (.bin .or e1 e2) _ H3 (by show 3 ≤ 4; decide) kp3 D3 (by omega) (fun t ht => ⟨t, v1, v2, rfl, upd_same .., (x1.keep (Kp.new (l := []) hq)).keep (kq3.step ht), x2.keep (Kp.new (l := []) ht)⟩) ⟨by omega, t1, t2⟩ (by show max e1.depth e2.depth + 1 ≤ _; omega)
  · -- xor
    refine ⟨_, rfl, rfl, _, rfl, iteF ⟨_, rfl, _, _, rfl, rfl, _, rfl, iteT ⟨by decide, fun q hq => ?_⟩⟩⟩
    refine ⟨_, rfl, _, _, rfl, rfl, q, _, _, .str "xor", rfl, rfl, SqL.of (upd_same ..), rfl, _, rfl, _, rfl, _, rfl, _, rfl, _, rfl, _, _, rfl, rfl, ?_⟩
    refine rc _ br (n + cE j + 2) _ _ _ rfl (by push_cast; omega) (kp2.step hq) ((D2.less (by omega)).keep (Kp.new hq)) hbr1 (by omega) fun v2 e2 H3 x2 t2 p2 kp3 kq3 D3 => ?_
    exact fin _ (.bin .xor e1 e2) _ H3 (by show 3 ≤ 4; decide) kp3 D3 (by omega) (fun t ht => ⟨t, v1, v2, rfl, upd_same .., (x1.keep (Kp.new (l := []) hq)).keep (kq3.step ht), x2.keep (Kp.new (l := []) ht)⟩) ⟨by omega, t1, t2⟩ (by show max e1.depth e2.depth + 1 ≤ _; omega)
  · -- pick
    refine ⟨_, rfl, rfl, _, rfl, iteF ⟨_, rfl, _, _, rfl, rfl, _, rfl, iteF ⟨_, rfl, rfl, _, rfl, iteT ⟨_, rfl, _, rfl, _, rfl, _, _, rfl, rfl, ?_⟩⟩⟩⟩
    refine rc _ 1 (n + cE j + 2) _ _ _ rfl (by push_cast; omega) kp2 (D2.less (by omega)) (by omega) (by omega) fun v2 e2 H3 x2 t2 p2 kp3 kq3 D3 => ⟨_, rfl, _, rfl, _, rfl, _, rfl, _, rfl, _, _, rfl, rfl, ?_⟩
    refine rc _ br (n + 2) _ _ _ rfl (by push_cast; omega) kp3 (D3.less (by omega)) hbr1 (by omega) fun v3 e3 H4 x3 t3 p3 kp4 kq4 D4 => ?_
    exact fin _ (.pick e2 e1 e3) _ H4 (by show 4 ≤ 4; decide) kp4 D4 (by omega) (fun t ht => ⟨t, v2, v1, v3, rfl, upd_same .., x2.keep (kq4.step ht), (x1.keep kq3).keep (kq4.step ht), x3.keep (Kp.new (l := []) ht)⟩) ⟨by omega, t2, t1, t3⟩ (by show max (max e2.depth e1.depth) e3.depth + 1 ≤ _; omega)
  · -- cut
    refine ⟨_, rfl, rfl, _, rfl, iteF ⟨_, rfl, _, _, rfl, rfl, _, rfl, iteF ⟨_, rfl, rfl, _, rfl, iteF ⟨_, rfl, rfl, _, rfl, iteT ⟨_, rfl, _, rfl, _, rfl, _, rfl, _, _, rfl, rfl, _, rfl, _, _, rfl, rfl, ?_⟩⟩⟩⟩⟩
    refine rc _ (br + 1) (n + 2) _ _ _ (by push_cast; rfl) (by push_cast; omega) kp2 (D2.less (by omega)) (by omega) (by omega) fun v2 e2 H3 x2 t2 p2 kp3 kq3 D3 => ?_
    exact fin _ (.cut br e2) _ H3 (by show 3 ≤ 4; decide) kp3 D3 (by omega) (fun t ht => ⟨t, v2, rfl, upd_same .., x2.keep (Kp.new (l := []) ht)⟩) ⟨by omega, rfl, _, t2⟩ (by show e2.depth + 1 ≤ _; omega)
  · -- bit, sum
    refine ⟨_, rfl, rfl, _, rfl, iteF ⟨_, rfl, _, _, rfl, rfl, _, rfl, iteF ⟨_, rfl, rfl, _, rfl, iteF ⟨_, rfl, rfl, _, rfl, iteF ⟨_, rfl, rfl, _, rfl, ?_⟩⟩⟩⟩⟩
    by_cases hb1 : br = 1
    · subst hb1
      rw [show decide (V.int ((1 : Nat) : Int) = V.int 1) = true from decide_eq_true rfl]
      refine iteT ⟨_, rfl, d, c, 3, n + 2 * cE j + 1, rfl, D2.less (by omega), by decide, by decide, fun r H3 hr3 kq3 D3 => ?_⟩
      have kp3 := kp2.trans kq3
      refine ⟨_, _, rfl, rfl, _, rfl, _, rfl, _, rfl, _, rfl, _, _, rfl, rfl, ?_⟩
      refine rc _ (1 + r) (n + cE j + 1) _ _ _ (by push_cast; rfl) (by push_cast; omega) kp3 (D3.less (by omega)) (by omega) (by omega) fun v2 e2 H4 x2 t2 p2 kp4 kq4 D4 => ?_
      refine ⟨_, rfl, rfl, _, rfl, iteT ⟨_, rfl, _, rfl, d, c, 1 + r, n + cE j, by push_cast; rfl, D4, by omega, by omega, fun r2 H5 hr5 kq5 D5 => ⟨_, rfl, ?_⟩⟩⟩
      exact fin _ (.bit r2 e2) _ H5 (by show 3 ≤ 4; decide) (kp4.trans kq5) D5 (by omega) (fun t ht => ⟨t, v2, rfl, upd_same .., x2.keep (kq5.step ht)⟩) ⟨by omega, rfl, _, t2⟩ (by show e2.depth + 1 ≤ _; omega)
    · rw [show decide (V.int (br : Int) = V.int 1) = false from decide_eq_false (fun z => hb1 (by have := V.int.inj z; omega))]
      refine iteF ⟨_, rfl, _, _, rfl, rfl, _, rfl, iteT ⟨_, rfl, _, rfl, _, rfl, _, _, rfl, rfl, _, rfl, _, _, rfl, rfl, ?_⟩⟩
      refine rc _ (br - 1) (n + cE j + 2) _ _ _ (by omega) (by push_cast; omega) kp2 (D2.less (by omega)) (by omega) (by omega) fun v2 e2 H3 x2 t2 p2 kp3 kq3 D3 => ⟨(by show 1 ≤ sizeLine; decide), fun l hl => ?_⟩
      have hld : l ∉ [d, c] := by simp [Ne.symm (D3.ne hl).1, Ne.symm (D3.ne hl).2]
      have kp3' : Kp [d, c] H (upd H3 l (.lst [v2])) := kp3.step hl
      have D3' := D3.keep (Kp.new (o := .lst [v2]) hl)
      have x2' := x2.keep (Kp.new (l := []) (o := .lst [v2]) hl)
      have hl3 : upd H3 l (.lst [v2]) l = some (.lst [v2]) := upd_same ..
      generalize upd H3 l (.lst [v2]) = H3' at kp3' D3' x2' hl3
      refine ⟨_, rfl, .inl ⟨rfl, _, SqL.of hl3⟩, _, rfl, _, rfl, _, rfl, _, rfl, _, _, rfl, rfl, d, c, br - 1, n + cE j + 1, by rw [Int.ofNat_sub (by omega)]; rfl, D3', by omega, by omega, fun r H4 hr4 kq4 D4 => ⟨_, _, rfl, rfl, _, rfl, _, _, rfl, rfl, ?_⟩⟩
      refine rc _ (1 + r) (n + 1) _ _ _ (by push_cast; rfl) (by push_cast; omega) (kp3'.trans kq4) (D4.less (by omega)) (by omega) (by omega) fun v3 e3 H5 x3 t3 p3 kp5 kq5 D5 => ?_
      have hl5 : H5 l = some (.lst [v2]) := (kq4.trans kq5).at hl3 hld
      have x25 := x2'.keep (kq4.trans kq5)
      refine ⟨l, _, _, rfl, rfl, hl5, (by show 1 < sizeLine; decide), ?_⟩
      have kl : Kp [l] H5 (upd H5 l (.lst ([v2] ++ [v3]))) := Kp.put hl5 (by simp)
      have kp6 : Kp [d, c] H (upd H5 l (.lst ([v2] ++ [v3]))) := kp5.fresh (kp3.free hl hld)
      have D6 := D5.kept kl (by have := (D3.ne hl).1; simp [this]) (by have := (D3.ne hl).2; simp [this])
      have hl6 : upd H5 l (.lst ([v2] ++ [v3])) l = some (.lst [v2, v3]) := upd_same ..
      have y2 := x25.keep kl
      have y3 := x3.keep kl
      generalize upd H5 l (.lst ([v2] ++ [v3])) = H6 at kp6 D6 hl6 y2 y3
      refine ⟨(by show 1 ≤ sizeLine; decide), fun t1 ht1 => ⟨_, rfl, _, rfl, l, _, rfl, SqL.of ((upd_ne (ne_of_none hl6 ht1)).trans hl6), fun rv hrv => ⟨(by show 2 ≤ sizeLine; decide), fun q hq => ?_⟩⟩⟩
      have g1 : upd (upd (upd H6 t1 (.tup [.str "sum"])) rv (.lst [v2, v3].reverse)) q (.lst [.ref l, .ref rv]) l = some (.lst [v2, v3]) := by
        have hq' : H6 q = none := by
          have h0 : rv ≠ q := fun z => by rw [z, upd_same] at hq; cases hq
          have h2 : upd H6 t1 (.tup [.str "sum"]) q = none := by rw [← hq, upd_ne (Ne.symm h0)]
          have h1 : t1 ≠ q := fun z => by rw [z, upd_same] at h2; cases h2
          rw [upd_ne (Ne.symm h1)] at h2
          exact h2
        have hrv' : H6 rv = none := by
          have h1 : t1 ≠ rv := fun z => by rw [z, upd_same] at hrv; cases hrv
          rw [upd_ne (Ne.symm h1)] at hrv
          exact hrv
        rw [upd_ne (ne_of_none hl6 hq'), upd_ne (ne_of_none hl6 hrv'), upd_ne (ne_of_none hl6 ht1)]
        exact hl6
      have g2 : upd (upd (upd H6 t1 (.tup [.str "sum"])) rv (.lst [v2, v3].reverse)) q (.lst [.ref l, .ref rv]) rv = some (.lst [v3, v2]) := by
        rw [upd_ne (fun z => by rw [← z, upd_same] at hq; cases hq), upd_same]
        rfl
      have kn : Kp [] H6 (upd (upd (upd H6 t1 (.tup [.str "sum"])) rv (.lst [v2, v3].reverse)) q (.lst [.ref l, .ref rv])) := ((Kp.new ht1).step hrv).step hq
      have g3 : upd (upd (upd H6 t1 (.tup [.str "sum"])) rv (.lst [v2, v3].reverse)) q (.lst [.ref l, .ref rv]) t1 = some (.tup [.str "sum"]) := ((Kp.new (l := []) hrv).step hq).tup (upd_same ..)
      have g4 : upd (upd (upd H6 t1 (.tup [.str "sum"])) rv (.lst [v2, v3].reverse)) q (.lst [.ref l, .ref rv]) q = some (.lst [.ref l, .ref rv]) := upd_same ..
      generalize upd (upd (upd H6 t1 (.tup [.str "sum"])) rv (.lst [v2, v3].reverse)) q (.lst [.ref l, .ref rv]) = H7 at g1 g2 g3 g4 kn
      have kp7 := kp6.trans kn.up
      have D7 := D6.keep kn
      have z2 := y2.keep kn
      have z3 := y3.keep kn
      refine ⟨_, rfl, _, _, rfl, rfl, q, _, _, .ref l, rfl, rfl, SqL.of g4, rfl, l, _, rfl, .inl ⟨SqL.of g1, fun ta ht2 => ?_⟩⟩
      have h1 : upd H7 ta (.tup [v2, v3]) t1 = some (.tup [.str "sum"]) := (Kp.new (l := []) ht2).tup g3
      refine ⟨t1, ta, _, _, rfl, rfl, SqT.of h1, SqT.of (upd_same ..), (by show 3 ≤ sizeLine; decide), fun z => by simp at z, fun _ z => by simp at z, fun _ _ t3' ht3 => ?_⟩
      refine hQ _ (.bin .sum e2 e3) _ ⟨t3', v2, v3, rfl, upd_same .., z2.keep ((Kp.new (l := []) ht2).step ht3), z3.keep ((Kp.new (l := []) ht2).step ht3)⟩ ⟨by omega, _, _, t2, t3, by omega⟩ (by show max _ _ + 1 ≤ _; omega) ((kp7.step ht2).step ht3) (((D7.less (by omega)).keep (Kp.new ht2)).keep (Kp.new ht3))
  · -- same, sum
    refine ⟨_, rfl, rfl, _, rfl, iteF ⟨_, rfl, _, _, rfl, rfl, _, rfl, iteF ⟨_, rfl, rfl, _, rfl, iteF ⟨_, rfl, rfl, _, rfl, iteF ⟨_, rfl, rfl, _, rfl, ?_⟩⟩⟩⟩⟩
    by_cases hb1 : br = 1
    · subst hb1
      rw [show decide (V.int ((1 : Nat) : Int) = V.int 1) = true from decide_eq_true rfl]
      refine iteT ⟨_, rfl, d, c, 3, n + 2 * cE j + 1, rfl, D2.less (by omega), by decide, by decide, fun r H3 hr3 kq3 D3 => ?_⟩
      have kp3 := kp2.trans kq3
      refine ⟨_, _, rfl, rfl, _, rfl, _, rfl, _, rfl, _, rfl, _, _, rfl, rfl, ?_⟩
      refine rc _ (1 + r) (n + cE j + 1) _ _ _ (by push_cast; rfl) (by push_cast; omega) kp3 (D3.less (by omega)) (by omega) (by omega) fun v2 e2 H4 x2 t2 p2 kp4 kq4 D4 => ?_
      refine ⟨_, rfl, rfl, _, rfl, iteF ⟨by decide, fun q hq => ?_⟩⟩
      refine ⟨_, rfl, _, _, rfl, rfl, q, _, _, .str "same", rfl, rfl, SqL.of (upd_same ..), rfl, _, rfl, _, rfl, _, rfl, _, rfl, _, rfl, _, _, rfl, rfl, ?_⟩
      refine rc _ (1 + r) (n + 1) _ _ _ (by push_cast; rfl) (by push_cast; omega) (kp4.step hq) ((D4.less (by omega)).keep (Kp.new hq)) (by omega) (by omega) fun v3 e3 H5 x3 t3 p3 kp5 kq5 D5 => ?_
      exact fin _ (.bin .same e2 e3) _ H5 (by show 3 ≤ 4; decide) kp5 D5 (by omega) (fun t ht => ⟨t, v2, v3, rfl, upd_same .., (x2.keep (Kp.new (l := []) hq)).keep (kq5.step ht), x3.keep (Kp.new (l := []) ht)⟩) ⟨by omega, rfl, _, t2, t3⟩ (by show max e2.depth e3.depth + 1 ≤ _; omega)
    · rw [show decide (V.int (br : Int) = V.int 1) = false from decide_eq_false (fun z => hb1 (by have := V.int.inj z; omega))]
      refine iteF ⟨_, rfl, _, _, rfl, rfl, _, rfl, iteT ⟨_, rfl, _, rfl, _, rfl, _, _, rfl, rfl, _, rfl, _, _, rfl, rfl, ?_⟩⟩
      refine rc _ (br - 1) (n + cE j + 2) _ _ _ (by omega) (by push_cast; omega) kp2 (D2.less (by omega)) (by omega) (by omega) fun v2 e2 H3 x2 t2 p2 kp3 kq3 D3 => ⟨(by show 1 ≤ sizeLine; decide), fun l hl => ?_⟩
      have hld : l ∉ [d, c] := by simp [Ne.symm (D3.ne hl).1, Ne.symm (D3.ne hl).2]
      have kp3' : Kp [d, c] H (upd H3 l (.lst [v2])) := kp3.step hl
      have D3' := D3.keep (Kp.new (o := .lst [v2]) hl)
      have x2' := x2.keep (Kp.new (l := []) (o := .lst [v2]) hl)
      have hl3 : upd H3 l (.lst [v2]) l = some (.lst [v2]) := upd_same ..
      generalize upd H3 l (.lst [v2]) = H3' at kp3' D3' x2' hl3
      refine ⟨_, rfl, .inl ⟨rfl, _, SqL.of hl3⟩, _, rfl, _, rfl, _, rfl, _, rfl, _, _, rfl, rfl, d, c, br - 1, n + cE j + 1, by rw [Int.ofNat_sub (by omega)]; rfl, D3', by omega, by omega, fun r H4 hr4 kq4 D4 => ⟨_, _, rfl, rfl, _, rfl, _, _, rfl, rfl, ?_⟩⟩
      refine rc _ (1 + r) (n + 1) _ _ _ (by push_cast; rfl) (by push_cast; omega) (kp3'.trans kq4) (D4.less (by omega)) (by omega) (by omega) fun v3 e3 H5 x3 t3 p3 kp5 kq5 D5 => ?_
      have hl5 : H5 l = some (.lst [v2]) := (kq4.trans kq5).at hl3 hld
      have x25 := x2'.keep (kq4.trans kq5)
      refine ⟨l, _, _, rfl, rfl, hl5, (by show 1 < sizeLine; decide), ?_⟩
      have kl : Kp [l] H5 (upd H5 l (.lst ([v2] ++ [v3]))) := Kp.put hl5 (by simp)
      have kp6 : Kp [d, c] H (upd H5 l (.lst ([v2] ++ [v3]))) := kp5.fresh (kp3.free hl hld)
      have D6 := D5.kept kl (by have := (D3.ne hl).1; simp [this]) (by have := (D3.ne hl).2; simp [this])
      have hl6 : upd H5 l (.lst ([v2] ++ [v3])) l = some (.lst [v2, v3]) := upd_same ..
      have y2 := x25.keep kl
      have y3 := x3.keep kl
      generalize upd H5 l (.lst ([v2] ++ [v3])) = H6 at kp6 D6 hl6 y2 y3
      refine ⟨(by show 1 ≤ sizeLine; decide), fun t1 ht1 => ⟨_, rfl, _, rfl, l, _, rfl, SqL.of ((upd_ne (ne_of_none hl6 ht1)).trans hl6), fun rv hrv => ⟨(by show 2 ≤ sizeLine; decide), fun q hq => ?_⟩⟩⟩
      have g1 : upd (upd (upd H6 t1 (.tup [.str "sum"])) rv (.lst [v2, v3].reverse)) q (.lst [.ref l, .ref rv]) l = some (.lst [v2, v3]) := by
        have hq' : H6 q = none := by
          have h0 : rv ≠ q := fun z => by rw [z, upd_same] at hq; cases hq
          have h2 : upd H6 t1 (.tup [.str "sum"]) q = none := by rw [← hq, upd_ne (Ne.symm h0)]
          have h1 : t1 ≠ q := fun z => by rw [z, upd_same] at h2; cases h2
          rw [upd_ne (Ne.symm h1)] at h2
          exact h2
        have hrv' : H6 rv = none := by
          have h1 : t1 ≠ rv := fun z => by rw [z, upd_same] at hrv; cases hrv
          rw [upd_ne (Ne.symm h1)] at hrv
          exact hrv
        rw [upd_ne (ne_of_none hl6 hq'), upd_ne (ne_of_none hl6 hrv'), upd_ne (ne_of_none hl6 ht1)]
        exact hl6
      have g2 : upd (upd (upd H6 t1 (.tup [.str "sum"])) rv (.lst [v2, v3].reverse)) q (.lst [.ref l, .ref rv]) rv = some (.lst [v3, v2]) := by
        rw [upd_ne (fun z => by rw [← z, upd_same] at hq; cases hq), upd_same]
        rfl
      have kn : Kp [] H6 (upd (upd (upd H6 t1 (.tup [.str "sum"])) rv (.lst [v2, v3].reverse)) q (.lst [.ref l, .ref rv])) := ((Kp.new ht1).step hrv).step hq
      have g3 : upd (upd (upd H6 t1 (.tup [.str "sum"])) rv (.lst [v2, v3].reverse)) q (.lst [.ref l, .ref rv]) t1 = some (.tup [.str "sum"]) := ((Kp.new (l := []) hrv).step hq).tup (upd_same ..)
      have g4 : upd (upd (upd H6 t1 (.tup [.str "sum"])) rv (.lst [v2, v3].reverse)) q (.lst [.ref l, .ref rv]) q = some (.lst [.ref l, .ref rv]) := upd_same ..
      generalize upd (upd (upd H6 t1 (.tup [.str "sum"])) rv (.lst [v2, v3].reverse)) q (.lst [.ref l, .ref rv]) = H7 at g1 g2 g3 g4 kn
      have kp7 := kp6.trans kn.up
      have D7 := D6.keep kn
      have z2 := y2.keep kn
      have z3 := y3.keep kn
      refine ⟨_, rfl, _, _, rfl, rfl, q, _, _, .ref rv, rfl, rfl, SqL.of g4, rfl, rv, _, rfl, .inl ⟨SqL.of g2, fun ta ht2 => ?_⟩⟩
      have h1 : upd H7 ta (.tup [v3, v2]) t1 = some (.tup [.str "sum"]) := (Kp.new (l := []) ht2).tup g3
      refine ⟨t1, ta, _, _, rfl, rfl, SqT.of h1, SqT.of (upd_same ..), (by show 3 ≤ sizeLine; decide), fun z => by simp at z, fun _ z => by simp at z, fun _ _ t3' ht3 => ?_⟩
      refine hQ _ (.bin .sum e3 e2) _ ⟨t3', v3, v2, rfl, upd_same .., z3.keep ((Kp.new (l := []) ht2).step ht3), z2.keep ((Kp.new (l := []) ht2).step ht3)⟩ ⟨by omega, _, _, t3, t2, by omega⟩ (by show max _ _ + 1 ≤ _; omega) ((kp7.step ht2).step ht3) (((D7.less (by omega)).keep (Kp.new ht2)).keep (Kp.new ht3))
  · -- below, join
    refine ⟨_, rfl, rfl, _, rfl, iteF ⟨_, rfl, _, _, rfl, rfl, _, rfl, iteF ⟨_, rfl, rfl, _, rfl, iteF ⟨_, rfl, rfl, _, rfl, iteF ⟨_, rfl, rfl, _, rfl, ?_⟩⟩⟩⟩⟩
    by_cases hb1 : br = 1
    · subst hb1
      rw [show decide (V.int ((1 : Nat) : Int) = V.int 1) = true from decide_eq_true rfl]
      refine iteT ⟨_, rfl, d, c, 3, n + 2 * cE j + 1, rfl, D2.less (by omega), by decide, by decide, fun r H3 hr3 kq3 D3 => ?_⟩
      have kp3 := kp2.trans kq3
      refine ⟨_, _, rfl, rfl, _, rfl, _, rfl, _, rfl, _, rfl, _, _, rfl, rfl, ?_⟩
      refine rc _ (1 + r) (n + cE j + 1) _ _ _ (by push_cast; rfl) (by push_cast; omega) kp3 (D3.less (by omega)) (by omega) (by omega) fun v2 e2 H4 x2 t2 p2 kp4 kq4 D4 => ?_
      refine ⟨_, rfl, rfl, _, rfl, iteF ⟨by decide, fun q hq => ?_⟩⟩
      refine ⟨_, rfl, _, _, rfl, rfl, q, _, _, .str "below", rfl, rfl, SqL.of (upd_same ..), rfl, _, rfl, _, rfl, _, rfl, _, rfl, _, rfl, _, _, rfl, rfl, ?_⟩
      refine rc _ (1 + r) (n + 1) _ _ _ (by push_cast; rfl) (by push_cast; omega) (kp4.step hq) ((D4.less (by omega)).keep (Kp.new hq)) (by omega) (by omega) fun v3 e3 H5 x3 t3 p3 kp5 kq5 D5 => ?_
      exact fin _ (.bin .below e2 e3) _ H5 (by show 3 ≤ 4; decide) kp5 D5 (by omega) (fun t ht => ⟨t, v2, v3, rfl, upd_same .., (x2.keep (Kp.new (l := []) hq)).keep (kq5.step ht), x3.keep (Kp.new (l := []) ht)⟩) ⟨by omega, rfl, _, t2, t3⟩ (by show max e2.depth e3.depth + 1 ≤ _; omega)
    · rw [show decide (V.int (br : Int) = V.int 1) = false from decide_eq_false (fun z => hb1 (by have := V.int.inj z; omega))]
      refine iteF ⟨_, rfl, _, _, rfl, rfl, _, rfl, iteF ⟨_, rfl, _, rfl, _, _, rfl, rfl, d, c, br - 1, n + 2 * cE j + 1, by rw [Int.ofNat_sub (by omega)]; rfl, D2.less (by omega), by omega, by omega, fun r H3 hr3 kq3 D3 => ⟨_, _, rfl, rfl, ?_⟩⟩⟩
      refine ⟨_, rfl, _, rfl, _, rfl, _, rfl, _, _, rfl, rfl, ?_⟩
      refine rc _ (1 + r) (n + cE j + 1) _ _ _ (by push_cast; rfl) (by push_cast; omega) (kp2.trans kq3) (D3.less (by omega)) (by omega) (by omega) fun v2 e2 H4 x2 t2 p2 kp4 kq4 D4 => ⟨_, rfl, _, rfl, _, rfl, _, rfl, _, _, rfl, rfl, _, rfl, _, _, rfl, rfl, ?_⟩
      refine rc _ (br - (1 + r)) (n + 1) _ _ _ (by omega) (by push_cast; omega) kp4 (D4.less (by omega)) (by omega) (by omega) fun v3 e3 H5 x3 t3 p3 kp5 kq5 D5 => ?_
      exact fin _ (.bin .join e2 e3) _ H5 (by show 3 ≤ 4; decide) kp5 D5 (by omega) (fun t ht => ⟨t, v2, v3, rfl, upd_same .., x2.keep (kq5.step ht), x3.keep (Kp.new (l := []) ht)⟩) ⟨by omega, _, _, t2, t3, by omega⟩ (by show max _ _ + 1 ≤ _; omega)
end
end WT

set_option Elab.async false
set_option linter.all false
set_option maxRecDepth 100000
set_option maxHeartbeats 8000000
/-! What stands while a module is drawn; its ins. -/
namespace WT
open PySem PySem.Spec PyProof.Rows L2
inductive MRow where
  | clock (x : Str)
  | inr (x : Str) (w : Nat) (c : Str)
  | wire (x : Str) (w : Nat) (e : Ex)
  | out (x : Str) (w : Nat) (c : Str) (e : Ex)
  | box (x : Str) (w : Nat) (c : Str) (k : Nat) (e : Ex)
  | cross (x : Str) (c : Str) (k : Nat) (s : Str)
  | use (x m : Str) (handed : List Str) (given : List Ex)
def MRow.nm : MRow → Str
  | .clock x => x | .inr x _ _ => x | .wire x _ _ => x | .out x _ _ _ => x | .box x _ _ _ _ => x | .cross x _ _ _ => x | .use x _ _ _ => x
def IsRow (H : Hp) (v : V) : MRow → Prop
  | .clock x => ∃ a, v = .ref a ∧ H a = some (.tup [.str "clock", .str x])
  | .inr x w c => ∃ a, v = .ref a ∧ H a = some (.tup [.str "in", .str x, .int (w : Int), .str c])
  | .wire x w e => ∃ a u, v = .ref a ∧ H a = some (.tup [.str "wire", .str x, .int (w : Int), u]) ∧ IsEx H e u
  | .out x w c e => ∃ a u, v = .ref a ∧ H a = some (.tup [.str "out", .str x, .int (w : Int), .str c, u]) ∧ IsEx H e u
  | .box x w c k e => ∃ a u, v = .ref a ∧ H a = some (.tup [.str "box", .str x, .int (w : Int), .str c, .int (k : Int), u]) ∧ IsEx H e u
  | .cross x c k s => ∃ a, v = .ref a ∧ H a = some (.tup [.str "cross", .str x, .str c, .int (k : Int), .str s])
  | .use x m hd gv => ∃ a p q us, v = .ref a ∧ H a = some (.tup [.str "use", .str x, .str m, .ref p, .ref q]) ∧ H p = some (.tup (hd.map V.str)) ∧ H q = some (.tup us) ∧ AllV (fun u e => IsEx H e u) us gv
theorem IsRow.keep {l : List Addr} {H H' : Hp} (k : Kp l H H') : ∀ {r : MRow} {v : V}, IsRow H v r → IsRow H' v r
  | .clock _, v, ⟨a, h1, h2⟩ => ⟨a, h1, k.tup h2⟩
  | .inr _ _ _, v, ⟨a, h1, h2⟩ => ⟨a, h1, k.tup h2⟩
  | .wire _ _ _, v, ⟨a, u, h1, h2, h3⟩ => ⟨a, u, h1, k.tup h2, h3.keep k⟩
  | .out _ _ _ _, v, ⟨a, u, h1, h2, h3⟩ => ⟨a, u, h1, k.tup h2, h3.keep k⟩
  | .box _ _ _ _ _, v, ⟨a, u, h1, h2, h3⟩ => ⟨a, u, h1, k.tup h2, h3.keep k⟩
  | .cross _ _ _ _, v, ⟨a, h1, h2⟩ => ⟨a, h1, k.tup h2⟩
  | .use _ _ _ _, v, ⟨a, p, q, us, h1, h2, h3, h4, h5⟩ => ⟨a, p, q, us, h1, k.tup h2, k.tup h3, k.tup h4, h5.imp fun _ _ q => q.keep k⟩
/-- a list of rows at p -/
def Rows (H : Hp) (p : Addr) (rs : List MRow) : Prop := ∃ vs, H p = some (.lst vs) ∧ AllV (IsRow H) vs rs
theorem Rows.keep {l : List Addr} {H H' : Hp} {p : Addr} {rs : List MRow} (h : Rows H p rs) (k : Kp l H H') (hp : p ∉ l) : Rows H' p rs := by
  obtain ⟨vs, h1, h2⟩ := h
  exact ⟨vs, k.at h1 hp, h2.imp fun _ _ q => q.keep k⟩
/-! ### what stands while a module is drawn -/
abbrev Ent : Type := Str × Nat × Str
/-- the pool of the clock t -/
def poolOf (L : List Ent) (t : Str) : List (Str × Nat) := (L.filter fun e => decide (e.2.2 = t)).map fun e => (e.1, e.2.1)
theorem poolOf_snoc (L : List Ent) (e : Ent) (t : Str) : poolOf (L ++ [e]) t = if e.2.2 = t then poolOf L t ++ [(e.1, e.2.1)] else poolOf L t := by
  unfold poolOf
  rw [List.filter_append, List.map_append]
  by_cases h : e.2.2 = t
  · simp [h]
  · simp [h]
theorem poolOf_len (L : List Ent) (t : Str) : (poolOf L t).length ≤ L.length := by
  unfold poolOf
  rw [List.length_map]
  exact List.length_filter_le _ _
theorem mem_poolOf {L : List Ent} {t : Str} {x : Str} {w : Nat} : (x, w) ∈ poolOf L t ↔ (x, w, t) ∈ L := by
  unfold poolOf
  rw [List.mem_map]
  constructor
  · rintro ⟨⟨a, b, c⟩, h, e⟩
    rw [List.mem_filter] at h
    have h2 : c = t := of_decide_eq_true h.2
    simp at e
    obtain ⟨rfl, rfl⟩ := e
    rw [← h2]
    exact h.1
  · intro h
    exact ⟨(x, w, t), by rw [List.mem_filter]; exact ⟨h, by simp⟩, rfl⟩
abbrev Tk : Type := List (Str × Addr)
structure Ads where
  d : Addr
  c : Addr
  pn : Addr
  pl : Addr
  pp : Addr
  pt : Addr
  ps : Tk
  top : Int
/-- what may change while a module is drawn -/
def Ads.ch (a : Ads) : List Addr := a.d :: a.c :: a.pn :: a.pl :: a.ps.map (·.2)
def Ads.ticks (a : Ads) : List Str := a.ps.map (·.1)
structure Scene (H : Hp) (a : Ads) (n : Nat) (ns : List Str) (lf : Int) (L : List Ent) : Prop where
  deck : Deck H a.d a.c n
  names : H a.pn = some (.lst (ns.map V.str))
  left : H a.pl = some (.lst [.int lf])
  pools : H a.pp = some (.dK (a.ps.map fun q => ((Sum.inr q.1 : Key), V.ref q.2)))
  pool : ∀ q ∈ a.ps, Pool H q.2 (poolOf L q.1)
  ticks : H a.pt = some (.lst (a.ticks.map V.str))
  nd : (a.c :: a.pn :: a.pl :: a.pt :: a.ps.map (·.2)).Nodup
  tnd : a.ticks.Nodup
  ne : a.ps ≠ []
  few : a.ps.length ≤ 3
  small : L.length ≤ 300
  low : lf ≤ a.top
  low98 : a.top ≤ 98
  plainN : ∀ x ∈ ns, plain x = true
section
variable {H H' : Hp} {a : Ads} {n m : Nat} {ns : List Str} {lf : Int} {L : List Ent}
theorem Scene.less (S : Scene H a n ns lf L) (h : m ≤ n) : Scene H a m ns lf L := { S with deck := S.deck.less h }
theorem Scene.pt_out (S : Scene H a n ns lf L) : a.pt ∉ a.ch := by
  have h := S.nd
  have hd : a.pt ≠ a.d := by
    obtain ⟨_, _, _, h1, _⟩ := S.deck
    exact ne_of S.ticks h1 (fun z => by cases z)
  simp only [List.nodup_cons, List.mem_cons, not_or] at h
  obtain ⟨⟨h1, h2, h3, h4⟩, ⟨h5, h6, h7⟩, ⟨h8, h9⟩, h10, _⟩ := h
  simp only [Ads.ch, List.mem_cons, not_or]
  exact ⟨hd, Ne.symm h3, Ne.symm h6, Ne.symm h8, h10⟩
theorem Scene.pp_out (S : Scene H a n ns lf L) : a.pp ∉ a.ch := by
  have hd : a.pp ≠ a.d := fun z => by
    obtain ⟨_, _, _, h1, _⟩ := S.deck
    have h2 := S.pools
    rw [z, h1] at h2
    have h3 := congrArg (fun o : Option HO => match o with | some (.dK k) => k.length | _ => 0) h2
    have h4 := S.ne
    have h5 := S.few
    have h6 := congrArg (fun o : Option HO => match o with | some (.dK ((_, v) :: (_, w) :: _)) => some w | _ => none) h2
    simp only [dk3, List.length_cons, List.length_nil, List.length_map] at h3
    match hps : a.ps, h3 with
    | [q1, q2, q3], _ =>
      rw [hps] at h6
      simp [dk3] at h6
  simp only [Ads.ch, List.mem_cons, not_or, List.mem_map, not_exists, not_and]
  obtain ⟨_, _, _, h1, h2, _⟩ := S.deck
  refine ⟨hd, ne_of S.pools h2 (fun z => by cases z), ne_of S.pools S.names (fun z => by cases z), ne_of S.pools S.left (fun z => by cases z), fun q hq e => ?_⟩
  obtain ⟨vs, h3, _⟩ := S.pool q hq
  rw [e, S.pools] at h3
  cases h3
/-- what is new behind S is none of it -/
theorem Scene.new (S : Scene H a n ns lf L) {p : Addr} (hp : H p = none) : p ∉ a.ch := by
  have := S.deck.ne hp
  simp only [Ads.ch, List.mem_cons, not_or, List.mem_map, not_exists, not_and]
  refine ⟨Ne.symm this.1, Ne.symm this.2, Ne.symm (ne_of_none S.names hp), Ne.symm (ne_of_none S.left hp), fun q hq e => ?_⟩
  obtain ⟨vs, h3, _⟩ := S.pool q hq
  rw [e, hp] at h3
  cases h3
/-- other things changed -/
theorem Scene.keep {l : List Addr} (S : Scene H a n ns lf L) (k : Kp l H H') (hl : ∀ b ∈ a.pp :: a.pt :: a.ch, b ∉ l) : Scene H' a n ns lf L := by
  have hl' := hl
  simp only [Ads.ch, List.mem_cons, List.mem_map, forall_eq_or_imp] at hl'
  obtain ⟨h1, h2, h3, h4, h5, h6, h7⟩ := hl'
  exact { S with
    deck := S.deck.kept k h3 h4
    names := k.at S.names h5
    left := k.at S.left h6
    pools := k.at S.pools h1
    pool := fun q hq => (S.pool q hq).keep k (h7 _ ⟨q, hq, rfl⟩)
    ticks := k.at S.ticks h2 }
theorem Scene.keep0 (S : Scene H a n ns lf L) (k : Kp [] H H') : Scene H' a n ns lf L := S.keep k (fun _ _ => by simp)
/-- the list address q of a pool is none of c, pn, pl, pt, d -/
theorem Scene.pool_ne (S : Scene H a n ns lf L) {q : Str × Addr} (hq : q ∈ a.ps) : q.2 ≠ a.c ∧ q.2 ≠ a.pn ∧ q.2 ≠ a.pl ∧ q.2 ≠ a.pt ∧ q.2 ≠ a.d := by
  have h := S.nd
  simp only [List.nodup_cons, List.mem_cons, not_or] at h
  obtain ⟨⟨h1, h2, h3, h4⟩, ⟨h5, h6, h7⟩, ⟨h8, h9⟩, h10, _⟩ := h
  have hm : q.2 ∈ a.ps.map (·.2) := List.mem_map_of_mem hq
  refine ⟨fun e => h4 (e ▸ hm), fun e => h7 (e ▸ hm), fun e => h9 (e ▸ hm), fun e => h10 (e ▸ hm), fun e => ?_⟩
  obtain ⟨vs, h3, _⟩ := S.pool q hq
  obtain ⟨_, _, _, h1, _⟩ := S.deck
  rw [e, h1] at h3
  cases h3
/-- a draw -/
theorem Scene.drawn (S : Scene H a n ns lf L) (k : Kp [a.d, a.c] H H') (D : Deck H' a.d a.c m) : Scene H' a m ns lf L := by
  have h := S.nd
  simp only [List.nodup_cons, List.mem_cons, not_or] at h
  obtain ⟨⟨h1, h2, h3, h4⟩, ⟨h5, h6, h7⟩, ⟨h8, h9⟩, h10, _⟩ := h
  have q1 := S.pt_out
  have q2 := S.pp_out
  simp only [Ads.ch, List.mem_cons, not_or] at q1 q2
  obtain ⟨_, _, _, e1, _⟩ := S.deck
  refine { S with deck := D, names := k.at S.names ?_, left := k.at S.left ?_, pools := k.at S.pools ?_, pool := fun q hq => (S.pool q hq).keep k ?_, ticks := k.at S.ticks ?_ }
  · simp [Ne.symm h1, ne_of S.names e1 (fun z => by cases z)]
  · simp [Ne.symm h2, ne_of S.left e1 (fun z => by cases z)]
  · simp [q2.1, q2.2.1]
  · have := S.pool_ne hq
    simp [this.1, this.2.2.2.2]
  · simp [q1.1, q1.2.1]
/-- a name is taken -/
theorem Scene.pop {x : Str} {xs : List Str} (S : Scene H a n (x :: xs) lf L) : Scene (upd H a.pn (.lst (xs.map V.str))) a n xs lf L := by
  have h := S.nd
  simp only [List.nodup_cons, List.mem_cons, not_or] at h
  obtain ⟨⟨h1, h2, h3, h4⟩, ⟨h5, h6, h7⟩, ⟨h8, h9⟩, h10, _⟩ := h
  have k : Kp [a.pn] H (upd H a.pn (.lst (xs.map V.str))) := Kp.put S.names (by simp)
  have q2 := S.pp_out
  simp only [Ads.ch, List.mem_cons, not_or] at q2
  obtain ⟨_, _, _, e1, _⟩ := S.deck
  exact { S with
    deck := S.deck.kept k (by simp [Ne.symm (ne_of S.names e1 (fun z => by cases z))]) (by simp [h1])
    names := upd_same ..
    left := k.at S.left (by simp [Ne.symm h5])
    pools := k.at S.pools (by simp [q2.2.2.1])
    pool := fun q hq => (S.pool q hq).keep k (by simp [(S.pool_ne hq).2.1])
    ticks := k.at S.ticks (by simp [Ne.symm h6])
    plainN := fun y hy => S.plainN y (List.mem_cons_of_mem _ hy) }
/-- less is left -/
theorem Scene.take (S : Scene H a n ns lf L) (z : Int) (hz : z ≤ a.top) : Scene (upd H a.pl (.lst [.int z])) a n ns z L := by
  have h := S.nd
  simp only [List.nodup_cons, List.mem_cons, not_or] at h
  obtain ⟨⟨h1, h2, h3, h4⟩, ⟨h5, h6, h7⟩, ⟨h8, h9⟩, h10, _⟩ := h
  have k : Kp [a.pl] H (upd H a.pl (.lst [.int z])) := Kp.put S.left (by simp)
  have q2 := S.pp_out
  simp only [Ads.ch, List.mem_cons, not_or] at q2
  obtain ⟨_, _, _, e1, _⟩ := S.deck
  exact { S with
    deck := S.deck.kept k (by simp [Ne.symm (ne_of S.left e1 (fun z => by cases z))]) (by simp [h2])
    names := k.at S.names (by simp [h5])
    left := upd_same ..
    pools := k.at S.pools (by simp [q2.2.2.2.1])
    pool := fun q hq => (S.pool q hq).keep k (by simp [(S.pool_ne hq).2.2.1])
    ticks := k.at S.ticks (by simp [Ne.symm h8])
    low := hz }
/-- a pool grows -/
theorem Scene.grow (S : Scene H a n ns lf L) {t : Str} {q : Addr} (hq : (t, q) ∈ a.ps) {vs : List V} (hv : H q = some (.lst vs)) {v : V} {x : Str} {w : Nat} (hp : IsPr H v (x, w)) (hs : L.length < 300) :
    Scene (upd H q (.lst (vs ++ [v]))) a n ns lf (L ++ [(x, w, t)]) := by
  have k : Kp [q] H (upd H q (.lst (vs ++ [v]))) := Kp.put hv (by simp)
  obtain ⟨n1, n2, n3, n4, n5⟩ := S.pool_ne hq
  simp only at n1 n2 n3 n4 n5
  have q2 : a.pp ≠ q := fun e => by
    have := S.pools
    rw [e, hv] at this
    cases this
  refine { S with
    deck := S.deck.kept k (by simp [Ne.symm n5]) (by simp [Ne.symm n1])
    names := k.at S.names (by simp [Ne.symm n2])
    left := k.at S.left (by simp [Ne.symm n3])
    pools := k.at S.pools (by simp [q2])
    pool := fun r hr => ?_
    ticks := k.at S.ticks (by simp [Ne.symm n4])
    small := by rw [List.length_append]; simp; omega }
  by_cases e : r.2 = q
  · have hr1 : r = (t, q) := by
      have h := S.nd
      simp only [List.nodup_cons] at h
      have hn := h.2.2.2.2
      obtain ⟨i, hi, e1⟩ := List.getElem_of_mem hr
      obtain ⟨j, hj, e2⟩ := List.getElem_of_mem hq
      have : i = j := by
        refine (List.getElem_inj (h₀ := by simpa using hi) (h₁ := by simpa using hj) hn).mp ?_
        rw [List.getElem_map, List.getElem_map, e1, e2]
        exact e
      subst this
      rw [← e1, ← e2]
    subst hr1
    rw [poolOf_snoc, if_pos rfl]
    obtain ⟨ws, h1, h2⟩ := S.pool (t, q) hq
    rw [hv] at h1
    cases h1
    exact ⟨vs ++ [v], upd_same .., (h2.imp fun _ _ z => z.keep k).snoc (hp.keep k)⟩
  · have ht : t ≠ r.1 := fun e1 => e (by
      have hn := S.tnd
      unfold Ads.ticks at hn
      obtain ⟨i, hi, e3⟩ := List.getElem_of_mem hr
      obtain ⟨j, hj, e2⟩ := List.getElem_of_mem hq
      have : i = j := by
        refine (List.getElem_inj (h₀ := by simpa using hi) (h₁ := by simpa using hj) hn).mp ?_
        rw [List.getElem_map, List.getElem_map, e3, e2]
        exact e1.symm
      subst this
      rw [← e3, e2])
    rw [poolOf_snoc, if_neg ht]
    exact (S.pool r hr).keep k (by simp [e])
/-- pools[t] -/
theorem Scene.get (S : Scene H a n ns lf L) {t : Str} (ht : t ∈ a.ticks) : ∃ q, (t, q) ∈ a.ps ∧ valV (a.ps.map fun q => ((Sum.inr q.1 : Key), V.ref q.2)) (Sum.inr t) = some (.ref q) := by
  unfold Ads.ticks at ht
  generalize a.ps = ps at ht
  induction ps with
  | nil => simp at ht
  | cons r rs ih =>
    by_cases e : r.1 = t
    · refine ⟨r.2, by rw [← e]; exact List.mem_cons_self, ?_⟩
      subst e
      show valV ((Sum.inr r.1, V.ref r.2) :: _) _ = _
      unfold valV
      simp
    · have h2 : t ∈ rs.map (·.1) := by
        rcases List.mem_cons.mp ht with z | z
        · exact absurd z.symm e
        · exact z
      obtain ⟨q, hq, hv⟩ := ih h2
      refine ⟨q, List.mem_cons_of_mem _ hq, ?_⟩
      rw [← hv]
      unfold valV
      rw [List.map_cons, List.find?_cons]
      have : (decide ((Sum.inr r.1 : Key) = Sum.inr t)) = false := decide_eq_false (fun z => e (by injection z))
      simp [this, e]
theorem Kp.dc {a : Ads} {H H' : Hp} (k : Kp [a.d, a.c] H H') : Kp a.ch H H' := k.mono (by simp [Ads.ch])
theorem Scene.pt_c (S : Scene H a n ns lf L) : a.pt ≠ a.c := fun e => S.pt_out (by rw [e]; simp [Ads.ch])
theorem Scene.tk_ne (S : Scene H a n ns lf L) : a.ticks.map V.str ≠ [] := by
  have := S.ne
  simp [Ads.ticks, this]
theorem Scene.tk_len (S : Scene H a n ns lf L) : (a.ticks.map V.str).length < 1073741824 := by
  rw [List.length_map, Ads.ticks, List.length_map]
  exact Nat.lt_of_le_of_lt S.few (by decide)
theorem tk_get {l : List Str} {i : Nat} {x : V} (hx : (l.map V.str)[i]? = some x) : ∃ t ∈ l, x = .str t := by
  rw [List.getElem?_map] at hx
  cases e : l[i]? with
  | none => rw [e] at hx; cases hx
  | some t =>
    rw [e] at hx
    exact ⟨t, List.mem_of_getElem? e, (Option.some.inj hx).symm⟩
/-- names.pop(0) -/
theorem seq0 (x : Str) (xs : List Str) : seqIndex? 0 ((x :: xs).map V.str).length = some 0 := by
  unfold seqIndex?
  rw [List.length_map, List.length_cons]
  simp
theorem Kp.pn {l : List Addr} {H : Hp} {a : Ads} {n : Nat} {ns : List Str} {lf : Int} {L : List Ent} (S : Scene H a n ns lf L) {o : HO} (h : a.pn ∈ l) : Kp l H (upd H a.pn o) := Kp.put S.names h
theorem Kp.pl {l : List Addr} {H : Hp} {a : Ads} {n : Nat} {ns : List Str} {lf : Int} {L : List Ent} (S : Scene H a n ns lf L) {o : HO} (h : a.pl ∈ l) : Kp l H (upd H a.pl o) := Kp.put S.left h
/-- what a pool's growing does -/
theorem Scene.addPool (S : Scene H a n ns lf L) {t : Str} (ht : t ∈ a.ticks) (hs : L.length < 300) : ∃ (q : Addr) (us : List V), valV (a.ps.map fun q => ((Sum.inr q.1 : Key), V.ref q.2)) (Sum.inr t) = some (.ref q) ∧ q ∈ a.ch ∧ H q = some (.lst us) ∧ us.length < sizeLine ∧
    ∀ (H1 : Hp) (v : V) (x : Str) (w : Nat), Kp [] H H1 → IsPr H1 v (x, w) → H1 q = some (.lst us) ∧ Scene (upd H1 q (.lst (us ++ [v]))) a n ns lf (L ++ [(x, w, t)]) ∧ Kp a.ch H1 (upd H1 q (.lst (us ++ [v]))) := by
  obtain ⟨q, hq, hqv⟩ := S.get ht
  obtain ⟨us, hus, aus⟩ := S.pool _ hq
  have hm : q ∈ a.ch := by
    simp only [Ads.ch, List.mem_cons, List.mem_map]
    exact .inr (.inr (.inr (.inr ⟨_, hq, rfl⟩)))
  refine ⟨q, us, hqv, hm, hus, ?_, fun H1 v x w k hp => ?_⟩
  · rw [aus.length]
    exact Nat.lt_of_le_of_lt (Nat.le_trans (poolOf_len _ _) S.small) (by decide)
  · have h1 := k.at hus (by simp)
    exact ⟨h1, (S.keep0 k).grow hq h1 hp hs, Kp.put h1 hm⟩
theorem Scene.getD (S : Scene H a n ns lf L) {t : Str} {v : V} (h : valV (a.ps.map fun q => ((Sum.inr q.1 : Key), V.ref q.2)) (Sum.inr t) = some v) : DGet H a.pp (.str t) (some v) := by
  rw [← h]
  exact DGet.k (k := Sum.inr t) S.pools
/-- a list of ours, made behind, grows -/
theorem Scene.own (S : Scene H a n ns lf L) {p : Addr} {xs ys : List V} (hp : H p = some (.lst xs)) (hc : p ∉ a.ch) (ht : p ≠ a.pt) : Scene (upd H p (.lst ys)) a n ns lf L :=
  S.keep (l := [p]) (Kp.put hp (by simp)) fun z hz => by
    simp only [List.mem_singleton]
    intro e
    subst e
    simp only [List.mem_cons] at hz
    rcases hz with e | e | hz
    · rw [e, S.pools] at hp; cases hp
    · exact ht e
    · exact hc hz
end
end WT

set_option Elab.async false
set_option linter.all false
set_option maxRecDepth 100000
set_option maxHeartbeats 8000000
/-! ins. -/
namespace WT
open PySem PySem.Spec PyProof.Rows L2
abbrev s_ins : Stmt := topS 22
abbrev N_ins : List Str := ["_law_deck_here", "_law_names_here", "_law_ticks", "_law_pools", "_law_left", "_law_rows", "_law_k", "_law_broad", "_law_clock"]
abbrev P_ins : List Str := ["_law_deck_here", "_law_names_here", "_law_ticks", "_law_pools", "_law_left"]
theorem sc_ins : FnScope N_ins P_ins (defScope s_ins) := ⟨rfl, rfl, rfl, by decide +kernel, rfl, by decide +kernel, by decide +kernel⟩
def EntOk (a : Ads) (e : Ent) : Prop := 1 ≤ e.2.1 ∧ e.2.1 ≤ 4 ∧ e.2.2 ∈ a.ticks
def spIns : Sp := fun vs H Q _ => ∃ (a : Ads) (n : Nat) (ns : List Str) (lf : Int) (L : List Ent), vs = [.ref a.d, .ref a.pn, .ref a.pt, .ref a.pp, .ref a.pl] ∧ Scene H a (n + 7) ns lf L ∧ 3 ≤ ns.length ∧ L.length ≤ 100 ∧
  ∀ (p : Addr) (ents : List Ent) (ns' : List Str) (lf' : Int) H', ents.length ≤ 3 → ns = ents.map (·.1) ++ ns' → Scene H' a n ns' lf' (L ++ ents) → Rows H' p (ents.map fun e => .inr e.1 e.2.1 e.2.2) → H p = none → Kp a.ch H H' → (∀ e ∈ ents, EntOk a e) → Q (.ref p) H'
section
variable {P : Program} {w : World} {K : PySem.W.Frag} {mg : Str → Option Value} {base : Heap}
theorem cal_ins (S : Std K mg "_law_ins" s_ins) (T : Frees mg) (cdraw : Cal P w K mg base "_law_draw" 1 P_draw spDraw) (cpick : Cal P w K mg base "_law_pick" 2 P_pick spPick) : Cal P w K mg base "_law_ins" 3 P_ins spIns := by
  obtain ⟨f, fd, F, m⟩ := S
  obtain ⟨fdraw, ddraw, G_draw, m_draw, k_draw, b_draw⟩ := cdraw
  obtain ⟨fpick, dpick, G_pick, m_pick, k_pick, b_pick⟩ := cpick
  refine ⟨f, fd, ?_, m, F.kp, F.bindsN fun _ _ _ _ _ _ us hl => match us, hl with | [_, _, _, _, _], _ => rfl⟩
  have sc := sc_ins
  refine F.ok sc (fun vs H Q E h => by obtain ⟨_, _, _, _, _, rfl, _⟩ := h; rfl) fun cdv A outer s H vs Q E hr h => ⟨_, PSs.nox (pss_cons (ps_set (i := 5) sc.nd rfl (Or.inl rfl) (pe_lst pa_nil))
 (pss_cons (ps_for PassesOwn.never rfl (pi_range1 rfl T.range (pa_cons (pe_op op_add pe_int (pe_call G_draw (hr.mono (by decide)) rfl m_draw k_draw b_draw .nil pass0 (pa_cons (pv 0) (pa_cons pe_int pa_nil)))) pa_nil)) (pg_name (i := 6) sc.nd rfl (Or.inl rfl))
 (pss_cons (ps_par (i := 7) (j := 8) rfl sc.nd rfl rfl (by decide) rfl rfl (pa_cons (pe_op op_add pe_int (pe_call G_draw (hr.mono (by decide)) rfl m_draw k_draw b_draw .nil pass0 (pa_cons (pv 0) (pa_cons pe_int pa_nil)))) (pa_cons (pe_call G_pick (hr.mono (by decide)) rfl m_pick k_pick b_pick .nil pass0 (pa_cons (pv 0) (pa_cons (pv 2) pa_nil))) pa_nil)) (by rfl))
 (pss_one (ps_if (pt_cmpR op_ge (pe_ix (ixl K) (pv 4) pe_int (fun _ _ => rfl)) (pv 7) (nomark _)) (pss_cons (ps_asg (pe_op op_sub (pe_ix (ixl K) (pv 4) pe_int (fun _ _ => rfl)) (pv 7)) (pg_sub (pv 4) pe_int set_list))
 (pss_cons (ps_expr (PE.toK (t' := tBM K _ _ _ _) (pe_bm PySem.F.plainAttrs_list PySem.F.slot_list_append PySem.F.type_list_append mt_append (pv 5) (pa_cons (pe_tup (pa_cons pe_str (pa_cons (PE.toK (t' := tBM K _ _ _ _) (pe_bm PySem.F.plainAttrs_list PySem.F.slot_list_pop PySem.F.type_list_pop mt_popAt (pv 1) (pa_cons pe_int pa_nil))) (pa_cons (pv 7) (pa_cons (pv 8) pa_nil))))) pa_nil))))
 (pss_one (ps_expr (PE.toK (t' := tBM K _ _ _ _) (pe_bm PySem.F.plainAttrs_list PySem.F.slot_list_append PySem.F.type_list_append mt_append (pe_dget (hu_of hr) (pv 3) (pv 8) (fun _ _ => rfl)) (pa_cons (pe_tup (pa_cons (pe_ix (ixt K) (pe_ix (ixl K) (pv 5) (pe_un un_neg pe_int) (fun _ _ => rfl)) pe_int (fun _ _ => rfl)) (pa_cons (pv 7) pa_nil))) pa_nil))))))) pss_nil))))
 (pss_one (ps_ret (pv 5))))), ?_⟩
  obtain ⟨a, n, ns, lf, L, rfl, S, hns, hL, hQ⟩ := h
  refine ⟨(by show 0 ≤ sizeLine; decide), fun pr hpr => ?_⟩
  have k1 : Kp a.ch H (upd H pr (.lst [])) := Kp.new hpr
  have S1 := S.keep0 (Kp.new (o := .lst []) hpr)
  have hr1 : upd H pr (.lst []) pr = some (.lst []) := upd_same ..
  have hpc := S.new hpr
  have hpt := S.ticks
  have ptn : a.pt ∉ [a.d, a.c] := fun z => S.pt_out (by simp only [Ads.ch, List.mem_cons]; simp at z; rcases z with z | z <;> simp [z])
  generalize upd H pr (.lst []) = H1 at k1 S1 hr1
  refine ⟨_, rfl, a.d, a.c, 3, n + 6, rfl, S1.deck, by decide, by decide, fun r H2 hr2 kq2 D2 => ⟨_, _, rfl, rfl, ?_⟩⟩
  have S2 := S1.drawn kq2 D2
  have k2 : Kp a.ch H H2 := k1.trans (kq2.mono (by simp [Ads.ch]))
  have hr2' : H2 pr = some (.lst []) := kq2.at hr1 (fun z => hpc (by simp only [Ads.ch, List.mem_cons]; simp at z; rcases z with z | z <;> simp [z]))
  refine ⟨(1 + (r : Int)), rfl, by omega, by omega, ?_⟩
  rw [show (1 + (r : Int)).toNat = 1 + r by omega]
  refine for_range (n := 1 + r) (fun i σ H' => ∃ v6 v7 v8, σ = [some (.ref a.d), some (.ref a.pn), some (.ref a.pt), some (.ref a.pp), some (.ref a.pl), some (.ref pr), v6, v7, v8] ∧ ∃ ents ns' lf', ents.length ≤ i ∧ ns = ents.map (·.1) ++ ns' ∧ Scene H' a (n + 2 * (3 - i)) ns' lf' (L ++ ents) ∧ Rows H' pr (ents.map fun e => .inr e.1 e.2.1 e.2.2) ∧ Kp a.ch H H' ∧ ∀ e ∈ ents, EntOk a e)
    ⟨_, _, _, rfl, [], ns, lf, Nat.le_refl _, rfl, by rw [List.append_nil]; exact S2, ⟨[], hr2', trivial⟩, k2, by simp⟩ ?_ ?_
  · rintro i σ H3 hi ⟨v6, v7, v8, rfl, ents, ns', lf', he, hn, S3, R3, k3, ok⟩
    have S3' := S3.less (m := n + 2 * (3 - (i + 1)) + 1 + 1) (by omega)
    refine ⟨_, rfl, a.d, a.c, 2, _, rfl, S3'.deck, by decide, by decide, fun b H4 hb kq4 D4 => ⟨_, _, rfl, rfl, ?_⟩⟩
    have S4 := S3'.drawn kq4 D4
    refine ⟨_, rfl, _, rfl, a.d, a.c, a.pt, _, _, rfl, S4.deck, S4.ticks, S4.pt_c, S4.tk_ne, S4.tk_len, fun it xt H5 hxt kq5 D5 => ⟨_, _, rfl, ?_⟩⟩
    obtain ⟨t, ht, rfl⟩ := tk_get hxt
    have S5 := S4.drawn kq5 D5
    have k5 : Kp a.ch H3 H5 := kq4.dc.trans kq5.dc
    have hpr3 : H3 pr ≠ none := by obtain ⟨_, h1, _⟩ := R3; rw [h1]; simp
    have hpro : pr ∉ a.ch := hpc
    have R5 := R3.keep k5 hpro
    refine ⟨_, rfl, a.pl, _, _, _, rfl, rfl, SqL.of S5.left, rfl, _, rfl, _, _, rfl, rfl, _, rfl, ite2 (fun _ => ?_) (fun _ => ?_)⟩
    · -- taken
      refine ⟨_, rfl, a.pl, _, _, _, rfl, rfl, SqL.of S5.left, rfl, _, rfl, _, _, rfl, rfl, _, rfl, a.pl, _, _, 0, rfl, rfl, S5.left, rfl, ?_⟩
      generalize hH6 : upd H5 a.pl _ = H6
      have S6 : Scene H6 a (n + 2 * (3 - (i + 1))) ns' (lf' - (1 + (b : Int))) (L ++ ents) := by rw [← hH6]; exact S5.take _ (by have := S5.low; omega)
      have k56 : Kp [a.pl] H5 H6 := by rw [← hH6]; exact Kp.pl S5 (by simp)
      clear hH6
      have k6 : Kp a.ch H3 H6 := k5.trans (k56.mono (by simp [Ads.ch]))
      have R6 := R3.keep k6 hpro
      obtain ⟨x, xs, hx⟩ : ∃ x xs, ns' = x :: xs := by
        cases ns' with
        | nil =>
          have := congrArg List.length hn
          simp at this
          omega
        | cons x xs => exact ⟨x, xs, rfl⟩
      subst hx
      obtain ⟨vs, hvs, avs⟩ := R6
      refine ⟨_, rfl, .inl ⟨rfl, _, SqL.of hvs⟩, _, rfl, .inl ⟨rfl, _, SqL.of S6.names⟩, a.pn, _, 0, 0, .str x, rfl, rfl, S6.names, by decide, by decide, seq0 x xs, rfl, _, rfl, _, rfl, (by show 4 ≤ sizeLine; decide), fun tp htp => ?_⟩
      generalize hH7 : upd H6 a.pn _ = H7 at htp
      have S7 : Scene H7 a (n + 2 * (3 - (i + 1))) xs (lf' - (1 + (b : Int))) (L ++ ents) := by rw [← hH7]; exact S6.pop
      have k67 : Kp [a.pn] H6 H7 := by rw [← hH7]; exact Kp.pn S6 (by simp)
      clear hH7
      have k7 : Kp a.ch H3 H7 := k6.trans (k67.mono (by simp [Ads.ch]))
      have hvs7 := k67.at hvs (fun z => hpro (by simp at z; simp [Ads.ch, z]))
      have avs7 := avs.imp fun _ _ q => q.keep k67
      generalize hH8 : upd H7 tp _ = H8
      have k78 : Kp [] H7 H8 := by rw [← hH8]; exact Kp.new htp
      have htp8 : H8 tp = some (.tup [.str "in", .str x, .int (1 + (b : Int)), .str t]) := by rw [← hH8]; exact upd_same ..
      clear hH8
      have S8 := S7.keep0 k78
      have k8 := k7.trans k78.up
      have hvs8 := k78.at hvs7 (by simp)
      have avs8 := avs7.imp fun _ _ q => q.keep k78
      have hlv : vs.length < sizeLine := by
        rw [avs.length, List.length_map]
        exact Nat.lt_of_le_of_lt (show ents.length ≤ 3 by omega) (by decide)
      refine ⟨pr, _, _, rfl, rfl, hvs8, hlv, ?_⟩
      have e1 : (1 + (b : Int)) = ((1 + b : Nat) : Int) := by push_cast; rfl
      have row : IsRow H8 (.ref tp) (.inr x (1 + b) t) := ⟨tp, rfl, by rw [← e1]; exact htp8⟩
      have k9 : Kp [pr] H8 (upd H8 pr (.lst (vs ++ [.ref tp]))) := Kp.put hvs8 (by simp)
      have S9 := S8.keep k9 (fun z hz => by
        simp only [List.mem_singleton]
        intro e
        subst e
        simp only [List.mem_cons] at hz
        rcases hz with e | e | hz
        · rw [e] at hvs8; rw [S8.pools] at hvs8; cases hvs8
        · exact absurd (S.ticks) (by rw [← e, hpr]; simp)
        · exact hpro hz)
      have R9 : Rows (upd H8 pr (.lst (vs ++ [.ref tp]))) pr ((ents ++ [(x, 1 + b, t)]).map fun e => .inr e.1 e.2.1 e.2.2) := ⟨_, upd_same .., by
        rw [List.map_append]
        exact (avs8.imp fun _ _ q => q.keep k9).snoc (row.keep k9)⟩
      have kk9 : Kp a.ch H (upd H8 pr (.lst (vs ++ [.ref tp]))) := (k3.trans k8).fresh hpr
      have htp9 := k9.tup htp8
      have hpr9 : upd H8 pr (.lst (vs ++ [.ref tp])) pr = some (.lst (vs ++ [.ref tp])) := upd_same ..
      generalize upd H8 pr (.lst (vs ++ [.ref tp])) = H9 at S9 R9 kk9 htp9 hpr9
      obtain ⟨q, hq, hqv⟩ := S9.get ht
      obtain ⟨us, hus, aus⟩ := S9.pool _ hq
      refine ⟨_, rfl, _, rfl, a.pp, .ref q, rfl, (show DGet H9 a.pp (.str t) (some (.ref q)) by rw [← hqv]; exact DGet.k (k := Sum.inr t) S9.pools), .inl ⟨rfl, _, SqL.of hus⟩, ?_⟩
      refine ⟨_, rfl, _, rfl, pr, _, _, .ref tp, rfl, rfl, SqL.of hpr9, atI_last _ _, tp, _, _, .str x, rfl, rfl, SqT.of htp9, rfl, _, rfl, (by show 2 ≤ sizeLine; decide), fun tq htq => ?_⟩
      generalize hH10 : upd H9 tq _ = H10
      have ktq : Kp [] H9 H10 := by rw [← hH10]; exact Kp.new htq
      have htq10 : H10 tq = some (.tup [.str x, .int (1 + (b : Int))]) := by rw [← hH10]; exact upd_same ..
      clear hH10
      have S10 := S9.keep0 ktq
      have hus10 := ktq.at hus (by simp)
      have R10 := R9.keep ktq (by simp)
      have k10 := kk9.trans ktq.up
      have hul : us.length < sizeLine := by
        rw [aus.length]
        exact Nat.lt_of_le_of_lt (Nat.le_trans (poolOf_len _ _) S9.small) (by decide)
      refine ⟨q, _, _, rfl, rfl, hus10, hul, _, _, _, rfl, ents ++ [(x, 1 + b, t)], xs, lf' - (1 + (b : Int)), by simp; omega, by rw [hn]; simp, ?_, ?_, k10.trans (Kp.put hus10 (by simp [Ads.ch]; exact .inr (.inr (.inr (.inr ⟨t, hq⟩))))), ?_⟩
      · have := S10.grow hq hus10 (v := .ref tq) (x := x) (w := 1 + b) ⟨tq, rfl, by rw [← e1]; exact htq10⟩ (by rw [List.length_append]; omega)
        rw [List.append_assoc] at this
        exact this
      · refine R10.keep (l := [q]) (Kp.put hus10 (by simp)) (fun z => hpro ?_)
        simp at z
        simp only [Ads.ch, List.mem_cons, List.mem_map]
        exact .inr (.inr (.inr (.inr ⟨_, hq, z.symm⟩)))
      · intro e he'
        rcases List.mem_append.mp he' with z | z
        · exact ok e z
        · rw [List.mem_singleton.mp z]
          exact ⟨by show 1 ≤ 1 + b; omega, by show 1 + b ≤ 4; omega, ht⟩
    · exact ⟨_, _, _, rfl, ents, ns', lf', by omega, hn, S5, R5, k3.trans k5, ok⟩
  · rintro σ H3 ⟨v6, v7, v8, rfl, ents, ns', lf', he, hn, S3, R3, k3, ok⟩
    exact ⟨_, rfl, hQ pr ents ns' lf' H3 (by omega) hn (S3.less (by omega)) R3 hpr k3 ok⟩
end
end WT

set_option Elab.async false
set_option linter.all false
set_option maxRecDepth 100000
set_option maxHeartbeats 8000000
/-! boxes. -/
namespace WT
open PySem PySem.Spec PyProof.Rows L2
abbrev s_boxes : Stmt := topS 23
abbrev N_boxes : List Str := ["_law_deck_here", "_law_names_here", "_law_ticks", "_law_pools", "_law_left", "_law_boxes_here", "_law_crosses", "_law_k", "_law_broad", "_law_clock", "_law_some", "_law_other", "_law_x", "_law_w"]
abbrev P_boxes : List Str := ["_law_deck_here", "_law_names_here", "_law_ticks", "_law_pools", "_law_left"]
theorem sc_boxes : FnScope N_boxes P_boxes (defScope s_boxes) := ⟨rfl, rfl, rfl, by decide +kernel, rfl, by decide +kernel, by decide +kernel⟩
abbrev Bx : Type := Str × Nat × Str × Nat
def IsBx (H : Hp) (v : V) (b : Bx) : Prop := ∃ a, v = .ref a ∧ H a = some (.tup [.str b.1, .int (b.2.1 : Int), .str b.2.2.1, .int (b.2.2.2 : Int)])
theorem IsBx.keep {l : List Addr} {H H' : Hp} (k : Kp l H H') {v : V} {b : Bx} (h : IsBx H v b) : IsBx H' v b := let ⟨a, h1, h2⟩ := h; ⟨a, h1, k.tup h2⟩
def BxL (H : Hp) (p : Addr) (bs : List Bx) : Prop := ∃ vs, H p = some (.lst vs) ∧ AllV (IsBx H) vs bs
theorem BxL.keep {l : List Addr} {H H' : Hp} {p : Addr} {rs : List Bx} (h : BxL H p rs) (k : Kp l H H') (hp : p ∉ l) : BxL H' p rs := by
  obtain ⟨vs, h1, h2⟩ := h
  exact ⟨vs, k.at h1 hp, h2.imp fun _ _ q => q.keep k⟩
def BxOk (a : Ads) (b : Bx) : Prop := 1 ≤ b.2.1 ∧ b.2.1 ≤ 4 ∧ b.2.2.1 ∈ a.ticks ∧ b.2.2.2 < 2 ^ b.2.1
abbrev Cr : Type := Str × Str × Nat × Str
def CrOk (a : Ads) (L : List Ent) (x : Cr) : Prop := x.2.1 ∈ a.ticks ∧ x.2.2.1 < 2 ∧ ∃ d ∈ a.ticks, d ≠ x.2.1 ∧ (x.2.2.2, 1, d) ∈ L
theorem CrOk.more {a : Ads} {L M : List Ent} {x : Cr} (h : CrOk a L x) : CrOk a (L ++ M) x := let ⟨h1, h2, d, h3, h4, h5⟩ := h; ⟨h1, h2, d, h3, h4, List.mem_append_left _ h5⟩
abbrev bEnt (b : Bx) : Ent := (b.1, b.2.1, b.2.2.1)
abbrev cEnt (x : Cr) : Ent := (x.1, 1, x.2.1)
abbrev cRow (x : Cr) : MRow := .cross x.1 x.2.1 x.2.2.1 x.2.2.2
def spBoxes : Sp := fun vs H Q _ => ∃ (a : Ads) (n : Nat) (ns : List Str) (lf : Int) (L : List Ent), vs = [.ref a.d, .ref a.pn, .ref a.pt, .ref a.pp, .ref a.pl] ∧ Scene H a (n + 17) ns lf L ∧ 5 ≤ ns.length ∧ L.length ≤ 100 ∧
  ∀ (t pb pc : Addr) (bs : List Bx) (cs : List Cr) (ns' : List Str) (lf' : Int) H', bs.length ≤ 3 → cs.length ≤ 2 → ns = bs.map (·.1) ++ (cs.map (·.1) ++ ns') → Scene H' a n ns' lf' (L ++ (bs.map bEnt ++ cs.map cEnt)) → H' t = some (.tup [.ref pb, .ref pc]) →
    BxL H' pb bs → Rows H' pc (cs.map cRow) → H pb = none → H pc = none → pb ≠ pc → Kp a.ch H H' → (∀ b ∈ bs, BxOk a b) → (∀ x ∈ cs, CrOk a (L ++ (bs.map bEnt ++ cs.map cEnt)) x) → Q (.ref t) H'
structure BSt (H0 H' : Hp) (a : Ads) (n : Nat) (ns : List Str) (L : List Ent) (pb pc : Addr) (bs : List Bx) (cs : List Cr) (ns' : List Str) (lf' : Int) : Prop where
  sc : Scene H' a n ns' lf' (L ++ (bs.map bEnt ++ cs.map cEnt))
  nm : ns = bs.map (·.1) ++ (cs.map (·.1) ++ ns')
  bl : BxL H' pb bs
  cr : Rows H' pc (cs.map cRow)
  kp : Kp a.ch H0 H'
  okb : ∀ b ∈ bs, BxOk a b
  okc : ∀ x ∈ cs, CrOk a (L ++ (bs.map bEnt ++ cs.map cEnt)) x
theorem BSt.drawn {H0 H H' : Hp} {a : Ads} {n m : Nat} {ns : List Str} {L : List Ent} {pb pc : Addr} {bs : List Bx} {cs : List Cr} {ns' : List Str} {lf' : Int} (S : BSt H0 H a n ns L pb pc bs cs ns' lf') (hb : pb ∉ a.ch) (hc : pc ∉ a.ch) (k : Kp [a.d, a.c] H H') (D : Deck H' a.d a.c m) : BSt H0 H' a m ns L pb pc bs cs ns' lf' :=
  { S with sc := S.sc.drawn k D, bl := S.bl.keep k.dc hb, cr := S.cr.keep k.dc hc, kp := S.kp.trans k.dc }
theorem BSt.less {H0 H : Hp} {a : Ads} {n m : Nat} {ns : List Str} {L : List Ent} {pb pc : Addr} {bs : List Bx} {cs : List Cr} {ns' : List Str} {lf' : Int} (S : BSt H0 H a n ns L pb pc bs cs ns' lf') (h : m ≤ n) : BSt H0 H a m ns L pb pc bs cs ns' lf' := { S with sc := S.sc.less h }
theorem BSt.keep0 {H0 H H' : Hp} {a : Ads} {n : Nat} {ns : List Str} {L : List Ent} {pb pc : Addr} {bs : List Bx} {cs : List Cr} {ns' : List Str} {lf' : Int} (S : BSt H0 H a n ns L pb pc bs cs ns' lf') (k : Kp [] H H') : BSt H0 H' a n ns L pb pc bs cs ns' lf' :=
  { S with sc := S.sc.keep0 k, bl := S.bl.keep k (by simp), cr := S.cr.keep k (by simp), kp := S.kp.trans k.up }
theorem BSt.take {H0 H : Hp} {a : Ads} {n : Nat} {ns : List Str} {L : List Ent} {pb pc : Addr} {bs : List Bx} {cs : List Cr} {ns' : List Str} {lf' : Int} (S : BSt H0 H a n ns L pb pc bs cs ns' lf') (hb : pb ∉ a.ch) (hc : pc ∉ a.ch) (z : Int) (hz : z ≤ a.top) : BSt H0 (upd H a.pl (.lst [.int z])) a n ns L pb pc bs cs ns' z :=
  have k : Kp a.ch H (upd H a.pl (.lst [.int z])) := Kp.pl S.sc (by simp [Ads.ch])
  { S with sc := S.sc.take z hz, bl := S.bl.keep k hb, cr := S.cr.keep k hc, kp := S.kp.trans k }
section
variable {P : Program} {w : World} {K : PySem.W.Frag} {mg : Str → Option Value} {base : Heap}
theorem cal_boxes (S : Std K mg "_law_boxes" s_boxes) (T : Frees mg) (cdraw : Cal P w K mg base "_law_draw" 1 P_draw spDraw) (cpick : Cal P w K mg base "_law_pick" 2 P_pick spPick) : Cal P w K mg base "_law_boxes" 3 P_boxes spBoxes := by
  obtain ⟨f, fd, F, m⟩ := S
  obtain ⟨fdraw, ddraw, G_draw, m_draw, k_draw, b_draw⟩ := cdraw
  obtain ⟨fpick, dpick, G_pick, m_pick, k_pick, b_pick⟩ := cpick
  refine ⟨f, fd, ?_, m, F.kp, F.bindsN fun _ _ _ _ _ _ us hl => match us, hl with | [_, _, _, _, _], _ => rfl⟩
  have sc := sc_boxes
  refine F.ok sc (fun vs H Q E h => by obtain ⟨_, _, _, _, _, rfl, _⟩ := h; rfl) fun cdv A outer s H vs Q E hr h => ⟨_, PSs.nox (pss_cons (ps_par (i := 5) (j := 6) rfl sc.nd rfl rfl (by decide) rfl rfl (pa_cons (pe_lst pa_nil) (pa_cons (pe_lst pa_nil) pa_nil)) (by rfl))
 (C8.pss_cut (ps_for PassesOwn.never rfl (pi_range1 rfl T.range (pa_cons (pe_call G_draw (hr.mono (by decide)) rfl m_draw k_draw b_draw .nil pass0 (pa_cons (pv 0) (pa_cons pe_int pa_nil))) pa_nil)) (pg_name (i := 7) sc.nd rfl (Or.inl rfl))
 (pss_cons (ps_asg (pe_tup (pa_cons (pe_op op_add pe_int (pe_call G_draw (hr.mono (by decide)) rfl m_draw k_draw b_draw .nil pass0 (pa_cons (pv 0) (pa_cons pe_int pa_nil)))) (pa_cons (pe_call G_pick (hr.mono (by decide)) rfl m_pick k_pick b_pick .nil pass0 (pa_cons (pv 0) (pa_cons (pv 2) pa_nil))) pa_nil))) (PG.toK (t' := gTup K 2 _) (pg_tup rfl (pgs_cons (pg_name (i := 8) sc.nd rfl (Or.inl rfl)) (pgs_cons (pg_name (i := 9) sc.nd rfl (Or.inr rfl)) pgs_nil)))))
 (pss_one (ps_if (pt_cmpR op_ge (pe_ix (ixl K) (pv 4) pe_int (fun _ _ => rfl)) (pv 8) (nomark _)) (pss_cons (ps_asg (pe_op op_sub (pe_ix (ixl K) (pv 4) pe_int (fun _ _ => rfl)) (pv 8)) (pg_sub (pv 4) pe_int set_list))
 (pss_cons (ps_expr (PE.toK (t' := tBM K _ _ _ _) (pe_bm PySem.F.plainAttrs_list PySem.F.slot_list_append PySem.F.type_list_append mt_append (pv 5) (pa_cons (pe_tup (pa_cons (PE.toK (t' := tBM K _ _ _ _) (pe_bm PySem.F.plainAttrs_list PySem.F.slot_list_pop PySem.F.type_list_pop mt_popAt (pv 1) (pa_cons pe_int pa_nil))) (pa_cons (pv 8) (pa_cons (pv 9) (pa_cons (pe_call G_draw (hr.mono (by decide)) rfl m_draw k_draw b_draw .nil pass0 (pa_cons (pv 0) (pa_cons (pe_op op_oneShl pe_int (pv 8)) pa_nil))) pa_nil))))) pa_nil))))
 (pss_one (ps_expr (PE.toK (t' := tBM K _ _ _ _) (pe_bm PySem.F.plainAttrs_list PySem.F.slot_list_append PySem.F.type_list_append mt_append (pe_dget (hu_of hr) (pv 3) (pv 9) (fun _ _ => rfl)) (pa_cons (pe_slice (slT K) (pe_ix (ixl K) (pv 5) (pe_un un_neg pe_int) (fun _ _ => rfl)) po_none (po_some pe_int)) pa_nil))))))) pss_nil))))
 (pss_cons (ps_for PassesOwn.never rfl (pi_range1 rfl T.range (pa_cons (pe_call G_draw (hr.mono (by decide)) rfl m_draw k_draw b_draw .nil pass0 (pa_cons (pv 0) (pa_cons pe_int pa_nil))) pa_nil)) (pg_name (i := 7) sc.nd rfl (Or.inl rfl))
 (pss_cons (ps_set (i := 9) sc.nd rfl (Or.inr rfl) (pe_call G_pick (hr.mono (by decide)) rfl m_pick k_pick b_pick .nil pass0 (pa_cons (pv 0) (pa_cons (pv 2) pa_nil))))
 (pss_cons (ps_set (i := 10) sc.nd rfl (Or.inl rfl) (pe_lst pa_nil))
 (pss_cons (ps_for PassesOwn.never rfl (PI.toK (t' := iList K _) (pi_list (pv 2))) (pg_name (i := 11) sc.nd rfl (Or.inr rfl))
 (pss_one (ps_set (i := 10) sc.nd rfl (Or.inl rfl) (pe_op op_cat (pv 10) (pe_lc (own := [("_law_x", 12), ("_law_w", 13)]) rfl sc.nd (PI.toK (t' := iList K _) (pi_list (pe_dget (hu_of hr) (pv 3) (pv 11) (fun _ _ => rfl)))) (blkOk_by (N := N_boxes) (sc := defScope s_boxes) (by decide +kernel)) (fun _ _ _ _ _ => (PG.toK (t' := gTup K 2 _) (pg_tup rfl (pgs_cons (pg_name (i := 12) sc.nd rfl (Or.inl rfl)) (pgs_cons (pg_name (i := 13) sc.nd rfl (Or.inl rfl)) pgs_nil))))) (fun _ _ _ _ _ => pts_one (PW.pt (pw_and (pt_cmpR op_eq (pv 13) pe_int (nomark _)) (pw_and1 (pt_cmpR op_ne (pv 11) (pv 9) (nomark _)))))) (fun _ _ _ _ _ => (pv 12)))))))
 (pss_one (ps_if (PW.pt (pw_and (pt_cmpR op_gt (pe_ix (ixl K) (pv 4) pe_int (fun _ _ => rfl)) pe_int (nomark _)) (pw_and1 (pt_cmpR (op_neNil (Nat.lt_of_succ_lt (hu_of hr))) (pv 10) (pe_lst pa_nil) (nomark _))))) (pss_cons (ps_asg (pe_op op_sub (pe_ix (ixl K) (pv 4) pe_int (fun _ _ => rfl)) pe_int) (pg_sub (pv 4) pe_int set_list))
 (pss_cons (ps_expr (PE.toK (t' := tBM K _ _ _ _) (pe_bm PySem.F.plainAttrs_list PySem.F.slot_list_append PySem.F.type_list_append mt_append (pv 6) (pa_cons (pe_tup (pa_cons pe_str (pa_cons (PE.toK (t' := tBM K _ _ _ _) (pe_bm PySem.F.plainAttrs_list PySem.F.slot_list_pop PySem.F.type_list_pop mt_popAt (pv 1) (pa_cons pe_int pa_nil))) (pa_cons (pv 9) (pa_cons (pe_call G_draw (hr.mono (by decide)) rfl m_draw k_draw b_draw .nil pass0 (pa_cons (pv 0) (pa_cons pe_int pa_nil))) (pa_cons (pe_call G_pick (hr.mono (by decide)) rfl m_pick k_pick b_pick .nil pass0 (pa_cons (pv 0) (pa_cons (pv 10) pa_nil))) pa_nil)))))) pa_nil))))
 (pss_one (ps_expr (PE.toK (t' := tBM K _ _ _ _) (pe_bm PySem.F.plainAttrs_list PySem.F.slot_list_append PySem.F.type_list_append mt_append (pe_dget (hu_of hr) (pv 3) (pv 9) (fun _ _ => rfl)) (pa_cons (pe_tup (pa_cons (pe_ix (ixt K) (pe_ix (ixl K) (pv 6) (pe_un un_neg pe_int) (fun _ _ => rfl)) pe_int (fun _ _ => rfl)) (pa_cons pe_int pa_nil))) pa_nil))))))) pss_nil))))))
 (pss_one (ps_ret (pe_tup (pa_cons (pv 5) (pa_cons (pv 6) pa_nil)))))))), ?_⟩
  obtain ⟨a, n, ns, lf, L, rfl, S, hns, hL, hQ⟩ := h
  have ptn := S.pt_out
  have hnspos : ∀ {x : List Str} {y : List Str} {m : Nat}, ns = x ++ y → x.length ≤ m → m < 5 → ∃ z zs, y = z :: zs := fun {x y m} e h1 h2 => by
    cases y with
    | nil =>
      have := congrArg List.length e
      simp at this
      omega
    | cons z zs => exact ⟨z, zs, rfl⟩
  refine ⟨(by show 0 ≤ sizeLine; decide), fun pb hpb => ⟨(by show 0 ≤ sizeLine; decide), fun pc hpc => ⟨_, _, rfl, ?_⟩⟩⟩
  have hpb0 : H pb = none := hpb
  have hpbc : pb ≠ pc := fun e => by rw [e, upd_same] at hpc; cases hpc
  have hpc0 : H pc = none := by rw [upd_ne (Ne.symm hpbc)] at hpc; exact hpc
  have hbo := S.new hpb0
  have hco := S.new hpc0
  have S1 : BSt H (upd (upd H pb (.lst [])) pc (.lst [])) a (n + 17) ns L pb pc [] [] ns lf := {
    sc := by simpa using (S.keep0 (Kp.new hpb)).keep0 (Kp.new hpc)
    nm := rfl
    bl := ⟨[], by rw [upd_ne hpbc, upd_same], trivial⟩
    cr := ⟨[], upd_same .., trivial⟩
    kp := (Kp.new hpb).step hpc
    okb := by simp
    okc := by simp }
  clear hpb hpc
  generalize upd (upd H pb (.lst [])) pc (.lst []) = H1 at S1
  have hbt : pb ≠ a.pt := fun e => by rw [e, S.ticks] at hpb0; cases hpb0
  have hct : pc ≠ a.pt := fun e => by rw [e, S.ticks] at hpc0; cases hpc0
  -- the first loop
  refine ⟨fun σ H' => ∃ v7 v8 v9 v10 v11 v12 v13, σ = [some (.ref a.d), some (.ref a.pn), some (.ref a.pt), some (.ref a.pp), some (.ref a.pl), some (.ref pb), some (.ref pc), v7, v8, v9, v10, v11, v12, v13] ∧ ∃ bs ns' lf', bs.length ≤ 3 ∧ BSt H H' a (n + 7) ns L pb pc bs [] ns' lf', ?_, ?_⟩
  · refine ⟨_, rfl, a.d, a.c, 4, n + 16, rfl, S1.sc.deck, by decide, by decide, fun r H2 hr2 kq2 D2 => ⟨(r : Int), rfl, by omega, by omega, ?_⟩⟩
    have S2 := S1.drawn hbo hco kq2 D2
    rw [show ((r : Int)).toNat = r by omega]
    refine for_range (n := r) (fun i σ H' => ∃ v7 v8 v9 v10 v11 v12 v13, σ = [some (.ref a.d), some (.ref a.pn), some (.ref a.pt), some (.ref a.pp), some (.ref a.pl), some (.ref pb), some (.ref pc), v7, v8, v9, v10, v11, v12, v13] ∧ ∃ bs ns' lf', bs.length ≤ i ∧ BSt H H' a (n + 7 + 3 * (3 - i)) ns L pb pc bs [] ns' lf')
      ⟨_, _, _, _, _, _, _, rfl, [], ns, lf, Nat.le_refl _, S2⟩ ?_ ?_
    · rintro i σ H3 hi ⟨v7, v8, v9, v10, v11, v12, v13, rfl, bs, ns', lf', hbs, S3⟩
      have S3' := S3.less (m := n + 7 + 3 * (3 - (i + 1)) + 1 + 1 + 1) (by omega)
      refine ⟨_, rfl, a.d, a.c, 2, _, rfl, S3'.sc.deck, by decide, by decide, fun b H4 hb kq4 D4 => ⟨_, _, rfl, rfl, ?_⟩⟩
      have S4 := S3'.drawn hbo hco kq4 D4
      refine ⟨_, rfl, _, rfl, a.d, a.c, a.pt, _, _, rfl, S4.sc.deck, S4.sc.ticks, S4.sc.pt_c, S4.sc.tk_ne, S4.sc.tk_len, fun it xt H5 hxt kq5 D5 => ⟨(by show 2 ≤ sizeLine; decide), fun tt htt => ⟨tt, _, rfl, SqT.of (upd_same ..), rfl, _, _, rfl, _, _, rfl, rfl, ?_⟩⟩⟩
      obtain ⟨t, ht, rfl⟩ := tk_get hxt
      have S5 := (S4.drawn hbo hco kq5 D5).keep0 (Kp.new (o := .tup [.int (1 + (b : Int)), .str t]) htt)
      generalize hH5 : upd H5 tt _ = H5'
      replace S5 : BSt H H5' a (n + 7 + 3 * (3 - (i + 1)) + 1) ns L pb pc bs [] ns' lf' := by rw [← hH5]; exact S5
      clear hH5
      refine ⟨_, rfl, a.pl, _, _, _, rfl, rfl, SqL.of S5.sc.left, rfl, _, rfl, _, _, rfl, rfl, _, rfl, ite2 (fun _ => ?_) (fun _ => ?_)⟩
      · refine ⟨_, rfl, a.pl, _, _, _, rfl, rfl, SqL.of S5.sc.left, rfl, _, rfl, _, _, rfl, rfl, _, rfl, a.pl, _, _, 0, rfl, rfl, S5.sc.left, rfl, ?_⟩
        generalize hH6 : upd H5' a.pl _ = H6
        have S6 : BSt H H6 a (n + 7 + 3 * (3 - (i + 1)) + 1) ns L pb pc bs [] ns' (lf' - (1 + (b : Int))) := by rw [← hH6]; exact S5.take hbo hco _ (by have := S5.sc.low; omega)
        clear hH6
        obtain ⟨x, xs, hx⟩ := hnspos (m := 3) S6.nm (by simp; omega) (by decide)
        simp only [List.map_nil, List.nil_append] at hx
        subst hx
        obtain ⟨vs, hvs, avs⟩ := S6.bl
        refine ⟨_, rfl, .inl ⟨rfl, _, SqL.of hvs⟩, _, rfl, .inl ⟨rfl, _, SqL.of S6.sc.names⟩, a.pn, _, 0, 0, .str x, rfl, rfl, S6.sc.names, by decide, by decide, seq0 x xs, rfl, ?_⟩
        generalize hH7 : upd H6 a.pn _ = H7
        have S7 : Scene H7 a (n + 7 + 3 * (3 - (i + 1)) + 1) xs (lf' - (1 + (b : Int))) (L ++ (bs.map bEnt ++ ([] : List Cr).map cEnt)) := by rw [← hH7]; exact S6.sc.pop
        have k67 : Kp [a.pn] H6 H7 := by rw [← hH7]; exact Kp.pn S6.sc (by simp)
        clear hH7
        have k67' : Kp a.ch H6 H7 := k67.mono (by simp [Ads.ch])
        have e1 : (1 + (b : Int)) = ((1 + b : Nat) : Int) := by push_cast; rfl
        have e2 : ((2 : Int) ^ (1 + b)) = ((2 ^ (1 + b) : Nat) : Int) := by push_cast; rfl
        refine ⟨_, rfl, _, rfl, _, rfl, _, rfl, 1 + b, rfl, by push_cast; rfl, by omega, a.d, a.c, 2 ^ (1 + b), n + 7 + 3 * (3 - (i + 1)), by rw [e2]; rfl, S7.deck, Nat.two_pow_pos _, Nat.lt_of_le_of_lt (Nat.pow_le_pow_right (by decide) (show 1 + b ≤ 2 by omega)) (by decide), fun s0 H8 hs0 kq8 D8 => ⟨(by show 4 ≤ sizeLine; decide), fun tp htp => ?_⟩⟩
        have S8 := S7.drawn kq8 D8
        have k68 := k67'.trans kq8.dc
        generalize hH9 : upd H8 tp _ = H9
        have k89 : Kp [] H8 H9 := by rw [← hH9]; exact Kp.new htp
        have htp9 : H9 tp = some (.tup [.str x, .int (1 + (b : Int)), .str t, .int (s0 : Int)]) := by rw [← hH9]; exact upd_same ..
        clear hH9
        have S9 := S8.keep0 k89
        have k69 := k68.trans k89.up
        have hvs9 := k69.at hvs hbo
        have avs9 := avs.imp fun _ _ q => q.keep k69
        have cr9 := S6.cr.keep k69 hco
        refine ⟨pb, _, _, rfl, rfl, hvs9, ?_, ?_⟩
        · rw [avs.length]
          exact Nat.lt_of_le_of_lt (show bs.length ≤ 3 by omega) (by decide)
        have k9 : Kp [pb] H9 (upd H9 pb (.lst (vs ++ [.ref tp]))) := Kp.put hvs9 (by simp)
        have S10 := S9.own (ys := vs ++ [.ref tp]) hvs9 hbo hbt
        have bl10 : BxL (upd H9 pb (.lst (vs ++ [.ref tp]))) pb (bs ++ [(x, 1 + b, t, s0)]) := ⟨_, upd_same .., (avs9.imp fun _ _ q => q.keep k9).snoc (show IsBx _ (.ref tp) (x, 1 + b, t, s0) from ⟨tp, rfl, k9.tup (by rw [← e1]; exact htp9)⟩)⟩
        have cr10 := cr9.keep k9 (by simp [Ne.symm hpbc])
        have kp10 : Kp a.ch H (upd H9 pb (.lst (vs ++ [.ref tp]))) := (S6.kp.trans k69).fresh hpb0
        have hpb10 : upd H9 pb (.lst (vs ++ [.ref tp])) pb = some (.lst (vs ++ [.ref tp])) := upd_same ..
        have htp10 := k9.tup htp9
        generalize upd H9 pb (.lst (vs ++ [.ref tp])) = H10 at S10 bl10 cr10 kp10 hpb10 htp10
        obtain ⟨q, us, hqv, hqc, hus, hul, gr⟩ := S10.addPool ht (by simp; omega)
        refine ⟨_, rfl, _, rfl, a.pp, .ref q, rfl, S10.getD hqv, .inl ⟨rfl, _, SqL.of hus⟩, ?_⟩
        refine ⟨_, rfl, _, rfl, pb, _, _, .ref tp, rfl, rfl, SqL.of hpb10, atI_last _ _, _, rfl, tp, _, rfl, SqT.of htp10, fun z => absurd z.2 (show ¬ HT.sIx 4 4 (some 2) = 4 by decide), fun _ tq htq => ?_⟩
        generalize hH11 : upd H10 tq _ = H11
        have k11 : Kp [] H10 H11 := by rw [← hH11]; exact Kp.new htq
        have htq11 : H11 tq = some (.tup [.str x, .int (1 + (b : Int))]) := by rw [← hH11]; exact upd_same ..
        clear hH11
        obtain ⟨hus11, S12, k12⟩ := gr H11 (.ref tq) x (1 + b) k11 ⟨tq, rfl, by rw [← e1]; exact htq11⟩
        refine ⟨q, _, _, rfl, rfl, hus11, hul, _, _, _, _, _, _, _, rfl, bs ++ [(x, 1 + b, t, s0)], xs, lf' - (1 + (b : Int)), by simp; omega, ?_⟩
        exact {
          sc := by simpa using S12
          nm := by rw [S6.nm]; simp
          bl := (bl10.keep k11 (by simp)).keep k12 hbo
          cr := (cr10.keep k11 (by simp)).keep k12 hco
          kp := (kp10.trans k11.up).trans k12
          okb := fun y hy => by
            rcases List.mem_append.mp hy with z | z
            · exact S6.okb y z
            · rw [List.mem_singleton.mp z]
              exact ⟨by show 1 ≤ 1 + b; omega, by show 1 + b ≤ 4; omega, ht, hs0⟩
          okc := by simp }
      · exact ⟨_, _, _, _, _, _, _, rfl, bs, ns', lf', by omega, S5.less (by omega)⟩
    · rintro σ H3 ⟨v7, v8, v9, v10, v11, v12, v13, rfl, bs, ns', lf', hbs, S3⟩
      exact ⟨_, _, _, _, _, _, _, rfl, bs, ns', lf', by omega, S3.less (by omega)⟩
  -- the second loop
  rintro σ H2 ⟨v7, v8, v9, v10, v11, v12, v13, rfl, bs, ns2, lf2, hbs, S2⟩
  refine ⟨_, rfl, a.d, a.c, 3, n + 6, rfl, S2.sc.deck, by decide, by decide, fun r H3 hr3 kq3 D3 => ⟨(r : Int), rfl, by omega, by omega, ?_⟩⟩
  have S3 := S2.drawn hbo hco kq3 D3
  rw [show ((r : Int)).toNat = r by omega]
  refine for_range (n := r) (fun i σ H' => ∃ v7 v8 v9 v10 v11 v12 v13, σ = [some (.ref a.d), some (.ref a.pn), some (.ref a.pt), some (.ref a.pp), some (.ref a.pl), some (.ref pb), some (.ref pc), v7, v8, v9, v10, v11, v12, v13] ∧ ∃ cs ns' lf', cs.length ≤ i ∧ BSt H H' a (n + 3 * (2 - i)) ns L pb pc bs cs ns' lf')
    ⟨_, _, _, _, _, _, _, rfl, [], ns2, lf2, Nat.le_refl _, S3⟩ ?_ ?_
  · rintro i σ H4 hi ⟨v7, v8, v9, v10, v11, v12, v13, rfl, cs, ns', lf', hcs, S4⟩
    have S4' := S4.less (m := n + 3 * (2 - (i + 1)) + 1 + 1 + 1) (by omega)
    refine ⟨_, rfl, _, rfl, a.d, a.c, a.pt, _, _, rfl, S4'.sc.deck, S4'.sc.ticks, S4'.sc.pt_c, S4'.sc.tk_ne, S4'.sc.tk_len, fun it xt H5 hxt kq5 D5 => ⟨(by show 0 ≤ sizeLine; decide), fun ps0 hps0 => ?_⟩⟩
    obtain ⟨t, ht, rfl⟩ := tk_get hxt
    have S5 := (S4'.drawn hbo hco kq5 D5).keep0 (Kp.new (o := .lst []) hps0)
    have hso := (S4'.drawn hbo hco kq5 D5).sc.new hps0
    have hl5 : upd H5 ps0 (.lst []) ps0 = some (.lst []) := upd_same ..
    generalize upd H5 ps0 (.lst []) = H6 at S5 hl5
    generalize hLL : L ++ (bs.map bEnt ++ cs.map cEnt) = LL at S5
    have hLLs : LL.length ≤ 110 := by rw [← hLL]; simp; omega
    refine ⟨_, rfl, a.pt, rfl, ⟨_, SqL.of S5.sc.ticks⟩, ?_⟩
    refine for_list (xs := a.ticks.map V.str) (fun k σ H' => ∃ p xs v7 v8 v11 v12 v13, σ = [some (.ref a.d), some (.ref a.pn), some (.ref a.pt), some (.ref a.pp), some (.ref a.pl), some (.ref pb), some (.ref pc), v7, v8, some (.str t), some (.ref p), v11, v12, v13] ∧ H' p = some (.lst (xs.map V.str)) ∧ p ∉ a.ch ∧ xs.length ≤ 200 * k ∧ Kp [] H6 H' ∧ ∀ x ∈ xs, ∃ d ∈ a.ticks, d ≠ t ∧ (x, 1, d) ∈ LL)
      ⟨ps0, [], _, _, _, _, _, rfl, hl5, hso, Nat.zero_le _, Kp.refl _ _, by simp⟩ (fun k σ H' _ ⟨_, _, _, _, _, _, _, _, _, _, _, kk, _⟩ => SqL.of (kk.at S5.sc.ticks (by simp))) ?_ ?_
    · rintro k u σ H7 hu ⟨p, xs, v7, v8, v11, v12, v13, rfl, hp7, hpc7, hx7, kk7, src⟩
      obtain ⟨o, ho, rfl⟩ := tk_get hu
      have hk3 : k < 3 := by
        have := (List.getElem?_eq_some_iff.mp hu).1
        have h3 := S5.sc.few
        simp [Ads.ticks] at this
        omega
      have S7 := S5.keep0 kk7
      obtain ⟨q, hq, hqv⟩ := S7.sc.get ho
      obtain ⟨us, hus, aus⟩ := S7.sc.pool _ hq
      rw [hLL] at aus
      have hul : us.length ≤ 110 := by rw [aus.length]; exact Nat.le_trans (poolOf_len _ _) hLLs
      refine ⟨_, rfl, _, rfl, _, rfl, a.pp, .ref q, rfl, S7.sc.getD hqv, q, rfl, ⟨_, SqL.of hus⟩, fun D hD => ?_⟩
      refine lc_list (xs := us) (fun m H' => ∃ ys, H' D = some (.lst (ys.map V.str)) ∧ ys.length ≤ m ∧ Kp [] H7 H' ∧ ∀ y ∈ ys, o ≠ t ∧ (y, 1, o) ∈ LL) ⟨[], upd_same .., Nat.le_refl _, Kp.new hD, by simp⟩ (fun m H' _ ⟨_, _, _, kk, _⟩ => SqL.of (kk.at hus (by simp))) ?_ ?_
      · rintro m v H8 hv ⟨ys, hys, hym, kk8, ysok⟩
        obtain ⟨⟨y, b⟩, ha, tt, rfl, htt⟩ := aus.get hv
        have hm : m < 110 := by
          have := (List.getElem?_eq_some_iff.mp hv).1
          omega
        refine ⟨tt, _, rfl, SqT.of (kk8.tup htt), rfl, _, _, rfl, _, _, rfl, rfl, rfl, _, rfl, rfl, _, rfl, ?_⟩
        by_cases hb1 : b = 1
        · subst hb1
          refine iteT ⟨_, rfl, _, rfl, rfl, _, rfl, ?_⟩
          by_cases hot : o = t
          · subst hot
            rw [show decide (V.str o = V.str o) = true from decide_eq_true rfl]
            exact iteF ⟨ys, hys, by omega, kk8, ysok⟩
          · rw [show decide (V.str o = V.str t) = false from decide_eq_false (fun z => hot (V.str.inj z))]
            refine iteT ⟨_, rfl, _, hys, ?_, ys ++ [y], ?_, by simp; omega, kk8.fresh hD, ?_⟩
            · rw [List.length_map]
              exact Nat.lt_of_le_of_lt (show ys.length ≤ 110 by omega) (by decide)
            · rw [upd_same]; simp
            · intro z hz
              rcases List.mem_append.mp hz with z1 | z1
              · exact ysok z z1
              · rw [List.mem_singleton.mp z1]
                exact ⟨hot, mem_poolOf.mp (List.mem_of_getElem? ha)⟩
        · rw [show decide (V.int ((y, b).2 : Int) = V.int 1) = false from decide_eq_false (fun z => hb1 (by have := V.int.inj z; exact Int.ofNat_inj.mp this))]
          exact iteF (iteF ⟨ys, hys, by omega, kk8, ysok⟩)
      · rintro H8 ⟨ys, hys, hym, kk8, ysok⟩
        have hp8 := kk8.at hp7 (by simp)
        have hpd : p ≠ D := ne_of_none hp7 hD
        refine ⟨p, D, _, _, rfl, rfl, hp8, hys, ?_, fun p' hp' => ?_⟩
        · rw [List.length_map, List.length_map]
          exact Nat.le_trans (show xs.length + ys.length ≤ 1000 by omega) (by decide)
        · refine ⟨p', xs ++ ys, _, _, _, _, _, rfl, ?_, (S7.keep0 kk8).sc.new hp', by simp; omega, (kk7.trans kk8).step hp', ?_⟩
          · rw [upd_same]; simp
          · intro x hx
            rcases List.mem_append.mp hx with z1 | z1
            · exact src x z1
            · exact ⟨o, ho, ysok x z1⟩
    · rintro σ H7 ⟨p, xs, v7, v8, v11, v12, v13, rfl, hp7, hpc7, hx7, kk7, src⟩
      have S7 := S5.keep0 kk7
      have hx600 : xs.length ≤ 600 := by
        have h3 := S5.sc.few
        simp [Ads.ticks] at hx7
        omega
      have stay : ∀ {H'}, BSt H H' a (n + 3 * (2 - (i + 1)) + 1 + 1) ns L pb pc bs cs ns' lf' → ∀ v10 v7 v8 v9 v11 v12 v13, ∃ w7 w8 w9 w10 w11 w12 w13, [some (V.ref a.d), some (.ref a.pn), some (.ref a.pt), some (.ref a.pp), some (.ref a.pl), some (.ref pb), some (.ref pc), v7, v8, v9, v10, v11, v12, v13] = [some (V.ref a.d), some (.ref a.pn), some (.ref a.pt), some (.ref a.pp), some (.ref a.pl), some (.ref pb), some (.ref pc), w7, w8, w9, w10, w11, w12, w13] ∧ ∃ cs ns' lf', cs.length ≤ i + 1 ∧ BSt H H' a (n + 3 * (2 - (i + 1))) ns L pb pc bs cs ns' lf' :=
        fun S' v10 v7 v8 v9 v11 v12 v13 => ⟨_, _, _, _, _, _, _, rfl, cs, ns', lf', by omega, S'.less (by omega)⟩
      refine ⟨_, rfl, a.pl, _, _, _, rfl, rfl, SqL.of S7.sc.left, rfl, _, _, rfl, rfl, _, rfl, ite2 (fun _ => ?_) (fun _ => ?_)⟩
      · refine ⟨_, rfl, (by show 0 ≤ sizeLine; decide), fun e0 he0 => ?_⟩
        have S8 := S7.keep0 (Kp.new (o := .lst []) he0)
        have hp8 : upd H7 e0 (.lst []) p = some (.lst (xs.map V.str)) := (Kp.new (l := []) he0).at hp7 (by simp)
        refine ⟨p, e0, _, rfl, rfl, SqL.of hp8, SqL.of (upd_same ..), _, rfl, ?_⟩
        generalize upd H7 e0 (.lst []) = H8 at S8 hp8
        cases hxs : xs with
        | nil => exact iteF (stay S8 _ _ _ _ _ _ _)
        | cons x0 xs0 =>
        have hxne : xs.map V.str ≠ [] := by rw [hxs]; simp
        refine iteT ⟨_, rfl, a.pl, _, _, _, rfl, rfl, SqL.of S8.sc.left, rfl, _, _, rfl, rfl, _, rfl, a.pl, _, _, 0, rfl, rfl, S8.sc.left, rfl, ?_⟩
        generalize hH9 : upd H8 a.pl _ = H9
        have S9 : BSt H H9 a (n + 3 * (2 - (i + 1)) + 1 + 1) ns L pb pc bs cs ns' (lf' - 2) := by rw [← hH9]; exact S8.take hbo hco _ (by have := S8.sc.low; omega)
        have hp9 : H9 p = some (.lst (xs.map V.str)) := by rw [← hH9]; exact (Kp.pl (l := a.ch) S8.sc (by simp [Ads.ch])).at hp8 hpc7
        clear hH9
        obtain ⟨x, ns'', hx⟩ := hnspos (m := 4) (x := bs.map (·.1) ++ cs.map (·.1)) (y := ns') (by rw [S9.nm]; simp) (by simp; omega) (by decide)
        subst hx
        obtain ⟨vs, hvs, avs⟩ := S9.cr
        refine ⟨_, rfl, .inl ⟨rfl, _, SqL.of hvs⟩, _, rfl, .inl ⟨rfl, _, SqL.of S9.sc.names⟩, a.pn, _, 0, 0, .str x, rfl, rfl, S9.sc.names, by decide, by decide, seq0 x ns'', rfl, ?_⟩
        generalize hHa : upd H9 a.pn _ = Ha
        have Sa : Scene Ha a (n + 3 * (2 - (i + 1)) + 1 + 1) ns'' (lf' - 2) (L ++ (bs.map bEnt ++ cs.map cEnt)) := by rw [← hHa]; exact S9.sc.pop
        have k9a : Kp [a.pn] H9 Ha := by rw [← hHa]; exact Kp.pn S9.sc (by simp)
        clear hHa
        have k9a' : Kp a.ch H9 Ha := k9a.mono (by simp [Ads.ch])
        refine ⟨_, rfl, _, rfl, a.d, a.c, 2, _, rfl, Sa.deck, by decide, by decide, fun s0 Hb hs0 kqb Db => ?_⟩
        have Sb := Sa.drawn kqb Db
        have k9b := k9a'.trans kqb.dc
        refine ⟨_, rfl, _, rfl, a.d, a.c, p, _, _, rfl, Sb.deck, k9b.at hp9 hpc7, fun e => hpc7 (by rw [e]; simp [Ads.ch]), hxne, Nat.lt_of_le_of_lt (show (xs.map V.str).length ≤ 600 by rw [List.length_map]; exact hx600) (by decide), fun iq xq Hc hxq kqc Dc => ⟨(by show 5 ≤ sizeLine; decide), fun tp htp => ?_⟩⟩
        obtain ⟨sx, hsx, rfl⟩ := tk_get hxq
        have Sc := Sb.drawn kqc Dc
        have k9c := k9b.trans kqc.dc
        generalize hHd : upd Hc tp _ = Hd
        have kcd : Kp [] Hc Hd := by rw [← hHd]; exact Kp.new htp
        have htpd : Hd tp = some (.tup [.str "cross", .str x, .str t, .int (s0 : Int), .str sx]) := by rw [← hHd]; exact upd_same ..
        clear hHd
        have Sd := Sc.keep0 kcd
        have k9d := k9c.trans kcd.up
        have hvsd := k9d.at hvs hco
        have avsd := avs.imp fun _ _ q => q.keep k9d
        have bld := S9.bl.keep k9d hbo
        refine ⟨pc, _, _, rfl, rfl, hvsd, ?_, ?_⟩
        · rw [avs.length, List.length_map]
          exact Nat.lt_of_le_of_lt (show cs.length ≤ 3 by omega) (by decide)
        have ke : Kp [pc] Hd (upd Hd pc (.lst (vs ++ [.ref tp]))) := Kp.put hvsd (by simp)
        have Se := Sd.own (ys := vs ++ [.ref tp]) hvsd hco hct
        have cre : Rows (upd Hd pc (.lst (vs ++ [.ref tp]))) pc ((cs ++ [(x, t, s0, sx)]).map cRow) := ⟨_, upd_same .., by
          rw [List.map_append]
          exact (avsd.imp fun _ _ q => q.keep ke).snoc (show IsRow _ (.ref tp) (.cross x t s0 sx) from ⟨tp, rfl, ke.tup htpd⟩)⟩
        have ble := bld.keep ke (by simp [hpbc])
        have kpe : Kp a.ch H (upd Hd pc (.lst (vs ++ [.ref tp]))) := (S9.kp.trans k9d).fresh hpc0
        have hpce : upd Hd pc (.lst (vs ++ [.ref tp])) pc = some (.lst (vs ++ [.ref tp])) := upd_same ..
        have htpe := ke.tup htpd
        generalize upd Hd pc (.lst (vs ++ [.ref tp])) = He at Se cre ble kpe hpce htpe
        obtain ⟨q, us, hqv, hqc, hus, hul, gr⟩ := Se.addPool ht (by simp; omega)
        refine ⟨_, rfl, _, rfl, a.pp, .ref q, rfl, Se.getD hqv, .inl ⟨rfl, _, SqL.of hus⟩, ?_⟩
        refine ⟨_, rfl, _, rfl, pc, _, _, .ref tp, rfl, rfl, SqL.of hpce, atI_last _ _, tp, _, _, .str x, rfl, rfl, SqT.of htpe, rfl, (by show 2 ≤ sizeLine; decide), fun tq htq => ?_⟩
        generalize hHf : upd He tq _ = Hf
        have kf : Kp [] He Hf := by rw [← hHf]; exact Kp.new htq
        have htqf : Hf tq = some (.tup [.str x, .int 1]) := by rw [← hHf]; exact upd_same ..
        clear hHf
        obtain ⟨husf, Sg, kg⟩ := gr Hf (.ref tq) x 1 kf ⟨tq, rfl, htqf⟩
        refine ⟨q, _, _, rfl, rfl, husf, hul, _, _, _, _, _, _, _, rfl, cs ++ [(x, t, s0, sx)], ns'', lf' - 2, by simp; omega, ?_⟩
        have eL : L ++ (bs.map bEnt ++ (cs ++ [(x, t, s0, sx)]).map cEnt) = (L ++ (bs.map bEnt ++ cs.map cEnt)) ++ [(x, 1, t)] := by simp
        exact {
          sc := by rw [eL]; exact Sg
          nm := by rw [S9.nm]; simp
          bl := (ble.keep kf (by simp)).keep kg hbo
          cr := (cre.keep kf (by simp)).keep kg hco
          kp := (kpe.trans kf.up).trans kg
          okb := S9.okb
          okc := fun y hy => by
            rw [eL]
            rcases List.mem_append.mp hy with z | z
            · exact (S9.okc y z).more
            · rw [List.mem_singleton.mp z]
              obtain ⟨d, hd1, hd2, hd3⟩ := src sx hsx
              exact ⟨ht, hs0, d, hd1, hd2, List.mem_append_left _ (by rw [hLL]; exact hd3)⟩ }
      · exact iteF (stay S7 _ _ _ _ _ _ _)
  · rintro σ H4 ⟨v7, v8, v9, v10, v11, v12, v13, rfl, cs, ns', lf', hcs, S4⟩
    refine ⟨_, rfl, _, rfl, (by show 2 ≤ sizeLine; decide), fun tt htt => ?_⟩
    have S5 := S4.keep0 (Kp.new (o := .tup [.ref pb, .ref pc]) htt)
    exact hQ tt pb pc bs cs ns' lf' _ hbs (by omega) S5.nm (S5.sc.less (by omega)) (upd_same ..) S5.bl S5.cr hpb0 hpc0 hpbc S5.kp S5.okb S5.okc
end
end WT

set_option Elab.async false
set_option linter.all false
set_option maxRecDepth 100000
set_option maxHeartbeats 8000000
/-! wires and uses. -/
namespace WT
open PySem PySem.Spec PyProof.Rows L2
abbrev s_wires : Stmt := topS 24
abbrev N_wires : List Str := ["_law_deck_here", "_law_names_here", "_law_ticks", "_law_pools", "_law_below", "_law_left", "_law_rows", "_law_k", "_law_broad", "_law_clock", "_law_module_here", "_law_face", "_law_bits", "_law_handed", "_law_one", "_law_given", "_law_x", "_law_w", "_law_number", "_law_y"]
abbrev P_wires : List Str := ["_law_deck_here", "_law_names_here", "_law_ticks", "_law_pools", "_law_below", "_law_left"]
theorem sc_wires : FnScope N_wires P_wires (defScope s_wires) := ⟨rfl, rfl, rfl, by decide +kernel, rfl, by decide +kernel, by decide +kernel⟩
abbrev Tri : Type := Str × Nat × Nat
structure Face where
  ticks : List Str
  ins : List Tri
  outs : List Tri
def IsTri (H : Hp) (v : V) (x : Tri) : Prop := ∃ a, v = .ref a ∧ H a = some (.tup [.str x.1, .int (x.2.1 : Int), .int (x.2.2 : Int)])
theorem IsTri.keep {l : List Addr} {H H' : Hp} (k : Kp l H H') {v : V} {b : Tri} (h : IsTri H v b) : IsTri H' v b := let ⟨a, h1, h2⟩ := h; ⟨a, h1, k.tup h2⟩
def IsFace (H : Hp) (v : V) (F : Face) : Prop := ∃ a t i o us ws, v = .ref a ∧ H a = some (.tup [.ref t, .ref i, .ref o]) ∧ H t = some (.tup (F.ticks.map V.str)) ∧ H i = some (.tup us) ∧ AllV (IsTri H) us F.ins ∧ H o = some (.tup ws) ∧ AllV (IsTri H) ws F.outs
theorem IsFace.keep {l : List Addr} {H H' : Hp} (k : Kp l H H') {v : V} {F : Face} (h : IsFace H v F) : IsFace H' v F :=
  let ⟨a, t, i, o, us, ws, h1, h2, h3, h4, h5, h6, h7⟩ := h
  ⟨a, t, i, o, us, ws, h1, k.tup h2, k.tup h3, k.tup h4, h5.imp fun _ _ q => q.keep k, k.tup h6, h7.imp fun _ _ q => q.keep k⟩
abbrev Bel : Type := Str × Face × Int
def IsBel (H : Hp) (v : V) (b : Bel) : Prop := ∃ a fv, v = .ref a ∧ H a = some (.tup [.str b.1, fv, .int b.2.2]) ∧ IsFace H fv b.2.1
theorem IsBel.keep {l : List Addr} {H H' : Hp} (k : Kp l H H') {v : V} {b : Bel} (h : IsBel H v b) : IsBel H' v b := let ⟨a, fv, h1, h2, h3⟩ := h; ⟨a, fv, h1, k.tup h2, h3.keep k⟩
structure FaceOk (F : Face) : Prop where
  t3 : F.ticks.length ≤ 3
  i3 : F.ins.length ≤ 3
  o2 : F.outs.length ≤ 2
  ik : ∀ x ∈ F.ins, 1 ≤ x.2.1 ∧ x.2.1 ≤ 4 ∧ x.2.2 < F.ticks.length
  ok : ∀ x ∈ F.outs, 1 ≤ x.2.1 ∧ x.2.1 ≤ 4 ∧ x.2.2 < F.ticks.length ∧ plain x.1 = true
/-- one step of the making: a wire, a use -/
inductive Step where
  | wire (x : Str) (w : Nat) (c : Str) (e : Ex)
  | use (x m : Str) (F : Face) (handed : List Str) (given : List Ex)
def Step.nm : Step → Str
  | .wire x _ _ _ => x
  | .use x _ _ _ _ => x
def Step.row : Step → MRow
  | .wire x w _ e => .wire x w e
  | .use x m _ hd gv => .use x m hd gv
def Step.ents : Step → List Ent
  | .wire x w c _ => [(x, w, c)]
  | .use x _ F hd _ => F.outs.map fun o => (x ++ "." ++ o.1, o.2.1, hd.getD o.2.2 "")
/-- each expression of gv over the pool of the clock that it is handed -/
def GivenOk (L : List Ent) (hd : List Str) : List Tri → List Ex → Prop
  | [], [] => True
  | x :: xs, e :: es => Ty (InPool (poolOf L (hd.getD x.2.2 ""))) e x.2.1 ∧ e.depth ≤ 2 ∧ GivenOk L hd xs es
  | _, _ => False
theorem GivenOk.snoc {L : List Ent} {hd : List Str} {x : Tri} {e : Ex} : ∀ {xs : List Tri} {es : List Ex}, GivenOk L hd xs es → Ty (InPool (poolOf L (hd.getD x.2.2 ""))) e x.2.1 → e.depth ≤ 2 → GivenOk L hd (xs ++ [x]) (es ++ [e])
  | [], [], _, h1, h2 => ⟨h1, h2, trivial⟩
  | _ :: _, _ :: _, h, h1, h2 => ⟨h.1, h.2.1, GivenOk.snoc h.2.2 h1 h2⟩
  | [], _ :: _, h, _, _ => h.elim
  | _ :: _, [], h, _, _ => h.elim
def StepOk (a : Ads) (bel : List Bel) (L : List Ent) : Step → Prop
  | .wire _ w c e => 1 ≤ w ∧ w ≤ 4 ∧ c ∈ a.ticks ∧ Ty (InPool (poolOf L c)) e w ∧ e.depth ≤ 3
  | .use _ m F hd gv => (∃ z, (m, F, z) ∈ bel) ∧ hd.length = F.ticks.length ∧ (∀ t ∈ hd, t ∈ a.ticks) ∧ GivenOk L hd F.ins gv
def StepsOk (a : Ads) (bel : List Bel) : List Ent → List Step → Prop
  | _, [] => True
  | L, s :: ss => StepOk a bel L s ∧ StepsOk a bel (L ++ s.ents) ss
theorem StepsOk.snoc {a : Ads} {bel : List Bel} {s : Step} : ∀ {ss : List Step} {L : List Ent}, StepsOk a bel L ss → StepOk a bel (L ++ ss.flatMap Step.ents) s → StepsOk a bel L (ss ++ [s])
  | [], L, _, h => ⟨by simpa using h, trivial⟩
  | r :: rs, L, h, q => ⟨h.1, StepsOk.snoc h.2 (by simpa [List.flatMap_cons, List.append_assoc] using q)⟩
def BelL (H : Hp) (p : Addr) (bel : List Bel) : Prop := ∃ vs, H p = some (.lst vs) ∧ AllV (IsBel H) vs bel
theorem BelL.keep {l : List Addr} {H H' : Hp} {p : Addr} {rs : List Bel} (h : BelL H p rs) (k : Kp l H H') (hp : p ∉ l) : BelL H' p rs := by
  obtain ⟨vs, h1, h2⟩ := h
  exact ⟨vs, k.at h1 hp, h2.imp fun _ _ q => q.keep k⟩
def spWires : Sp := fun vs H Q _ => ∃ (a : Ads) (pe : Addr) (n : Nat) (ns : List Str) (lf : Int) (L : List Ent) (bel : List Bel), vs = [.ref a.d, .ref a.pn, .ref a.pt, .ref a.pp, .ref pe, .ref a.pl] ∧ Scene H a (n + 247) ns lf L ∧ 6 ≤ ns.length ∧ L.length ≤ 200 ∧
  BelL H pe bel ∧ pe ∉ a.ch ∧ bel.length ≤ 2 ∧ (∀ b ∈ bel, FaceOk b.2.1 ∧ 0 ≤ b.2.2) ∧
  ∀ (p : Addr) (ss : List Step) (ns' : List Str) (lf' : Int) H', ss.length ≤ 6 → ns = ss.map Step.nm ++ ns' → Scene H' a n ns' lf' (L ++ ss.flatMap Step.ents) → Rows H' p (ss.map Step.row) → H p = none → Kp a.ch H H' → StepsOk a bel L ss → Q (.ref p) H'
structure WSt (H0 H' : Hp) (a : Ads) (pe n : Nat) (ns : List Str) (L : List Ent) (bel : List Bel) (pr : Addr) (ss : List Step) (ns' : List Str) (lf' : Int) : Prop where
  sc : Scene H' a n ns' lf' (L ++ ss.flatMap Step.ents)
  nm : ns = ss.map Step.nm ++ ns'
  rows : Rows H' pr (ss.map Step.row)
  bl : BelL H' pe bel
  kp : Kp a.ch H0 H'
  ok : StepsOk a bel L ss
section
variable {H0 H H' : Hp} {a : Ads} {pe n m : Nat} {ns : List Str} {L : List Ent} {bel : List Bel} {pr : Addr} {ss : List Step} {ns' : List Str} {lf' : Int}
theorem WSt.ch (S : WSt H0 H a pe n ns L bel pr ss ns' lf') (hb : pe ∉ a.ch) (hc : pr ∉ a.ch) (k : Kp a.ch H H') {lg : Int} (sc : Scene H' a m ns' lg (L ++ ss.flatMap Step.ents)) : WSt H0 H' a pe m ns L bel pr ss ns' lg :=
  { nm := S.nm, ok := S.ok, sc := sc, rows := S.rows.keep k hc, bl := S.bl.keep k hb, kp := S.kp.trans k }
theorem WSt.drawn (S : WSt H0 H a pe n ns L bel pr ss ns' lf') (hb : pe ∉ a.ch) (hc : pr ∉ a.ch) (k : Kp [a.d, a.c] H H') (D : Deck H' a.d a.c m) : WSt H0 H' a pe m ns L bel pr ss ns' lf' := S.ch hb hc k.dc (S.sc.drawn k D)
theorem WSt.less (S : WSt H0 H a pe n ns L bel pr ss ns' lf') (h : m ≤ n) : WSt H0 H a pe m ns L bel pr ss ns' lf' := { S with sc := S.sc.less h }
theorem WSt.keep0 (S : WSt H0 H a pe n ns L bel pr ss ns' lf') (k : Kp [] H H') : WSt H0 H' a pe n ns L bel pr ss ns' lf' :=
  { S with sc := S.sc.keep0 k, rows := S.rows.keep k (by simp), bl := S.bl.keep k (by simp), kp := S.kp.trans k.up }
end
section
variable {P : Program} {w : World} {K : PySem.W.Frag} {mg : Str → Option Value} {base : Heap}
theorem cal_wires (S : Std K mg "_law_wires" s_wires) (T : Frees mg) (cdraw : Cal P w K mg base "_law_draw" 1 P_draw spDraw) (cpick : Cal P w K mg base "_law_pick" 2 P_pick spPick) (cexp : ∀ j, Cal P w K mg base "_law_exp" (3 + j) P_exp (spExp j)) : Cal P w K mg base "_law_wires" 7 P_wires spWires := by
  obtain ⟨f, fd, F, m⟩ := S
  obtain ⟨fdraw, ddraw, G_draw, m_draw, k_draw, b_draw⟩ := cdraw
  obtain ⟨fpick, dpick, G_pick, m_pick, k_pick, b_pick⟩ := cpick
  obtain ⟨fexp, dexp, G_exp, m_exp, k_exp, b_exp⟩ := cexp 3
  obtain ⟨fexp2, dexp2, G_exp2, m_exp2, k_exp2, b_exp2⟩ := cexp 2
  refine ⟨f, fd, ?_, m, F.kp, F.bindsN fun _ _ _ _ _ _ us hl => match us, hl with | [_, _, _, _, _, _], _ => rfl⟩
  have sc := sc_wires
  refine F.ok sc (fun vs H Q E h => by obtain ⟨_, _, _, _, _, _, _, rfl, _⟩ := h; rfl) fun cdv A outer s H vs Q E hr h => ⟨_, PSs.nox (pss_cons (ps_set (i := 6) sc.nd rfl (Or.inl rfl) (pe_lst pa_nil))
 (pss_cons (ps_for PassesOwn.never rfl (pi_range1 rfl T.range (pa_cons (pe_call G_draw (hr.mono (by decide)) rfl m_draw k_draw b_draw .nil pass0 (pa_cons (pv 0) (pa_cons pe_int pa_nil))) pa_nil)) (pg_name (i := 7) sc.nd rfl (Or.inl rfl))
 (pss_cons (ps_par (i := 8) (j := 9) rfl sc.nd rfl rfl (by decide) rfl rfl (pa_cons (pe_op op_add pe_int (pe_call G_draw (hr.mono (by decide)) rfl m_draw k_draw b_draw .nil pass0 (pa_cons (pv 0) (pa_cons pe_int pa_nil)))) (pa_cons (pe_call G_pick (hr.mono (by decide)) rfl m_pick k_pick b_pick .nil pass0 (pa_cons (pv 0) (pa_cons (pv 2) pa_nil))) pa_nil)) (by rfl))
 (pss_cons (ps_expr (PE.toK (t' := tBM K _ _ _ _) (pe_bm PySem.F.plainAttrs_list PySem.F.slot_list_append PySem.F.type_list_append mt_append (pv 6) (pa_cons (pe_tup (pa_cons pe_str (pa_cons (PE.toK (t' := tBM K _ _ _ _) (pe_bm PySem.F.plainAttrs_list PySem.F.slot_list_pop PySem.F.type_list_pop mt_popAt (pv 1) (pa_cons pe_int pa_nil))) (pa_cons (pv 8) (pa_cons (pe_call G_exp (hr.mono (by decide)) rfl m_exp k_exp b_exp .nil pass0 (pa_cons (pv 0) (pa_cons (pe_dget (hu_of hr) (pv 3) (pv 9) (fun _ _ => rfl)) (pa_cons (pv 8) (pa_cons pe_int pa_nil))))) pa_nil))))) pa_nil))))
 (pss_cons (ps_expr (PE.toK (t' := tBM K _ _ _ _) (pe_bm PySem.F.plainAttrs_list PySem.F.slot_list_append PySem.F.type_list_append mt_append (pe_dget (hu_of hr) (pv 3) (pv 9) (fun _ _ => rfl)) (pa_cons (pe_tup (pa_cons (pe_ix (ixt K) (pe_ix (ixl K) (pv 6) (pe_un un_neg pe_int) (fun _ _ => rfl)) pe_int (fun _ _ => rfl)) (pa_cons (pv 8) pa_nil))) pa_nil))))
 (C8.pss_cut (ps_asg (pe_call G_pick (hr.mono (by decide)) rfl m_pick k_pick b_pick .nil pass0 (pa_cons (pv 0) (pa_cons (pe_op op_cat (pv 4) (pe_lst (pa_cons (pe_tup (pa_cons pe_str (pa_cons (pe_tup (pa_cons (pe_tup pa_nil) (pa_cons (pe_tup pa_nil) (pa_cons (pe_tup pa_nil) pa_nil)))) (pa_cons pe_int pa_nil)))) pa_nil))) pa_nil))) (PG.toK (t' := gTup K 3 _) (pg_tup rfl (pgs_cons (pg_name (i := 10) sc.nd rfl (Or.inl rfl)) (pgs_cons (pg_name (i := 11) sc.nd rfl (Or.inl rfl)) (pgs_cons (pg_name (i := 12) sc.nd rfl (Or.inl rfl)) pgs_nil))))))
 (pss_one (ps_if (PW.pt (pw_and (pt_cmpR op_le (pv 12) (pe_ix (ixl K) (pv 5) pe_int (fun _ _ => rfl)) (nomark _)) (pw_and1 (pt_cmpR op_gt (pe_call G_draw (hr.mono (by decide)) rfl m_draw k_draw b_draw .nil pass0 (pa_cons (pv 0) (pa_cons pe_int pa_nil))) pe_int (nomark _))))) (pss_cons (ps_asg (pe_op op_sub (pe_ix (ixl K) (pv 5) pe_int (fun _ _ => rfl)) (pv 12)) (pg_sub (pv 5) pe_int set_list))
 (pss_cons (ps_set (i := 13) sc.nd rfl (Or.inr rfl) (pe_callTy (cTup K) rfl T.tuple (by decide +kernel) (pa_cons (pe_lc (own := [("_law_one", 14)]) rfl sc.nd (PI.toK (t' := iTup K _) (pi_tup (pe_ix (ixt K) (pv 11) pe_int (fun _ _ => rfl)))) (blkOk_by (N := N_wires) (sc := defScope s_wires) (by decide +kernel)) (fun _ _ _ _ _ => (pg_name (i := 14) sc.nd rfl (Or.inl rfl))) (fun _ _ _ _ _ => pts_nil) (fun _ _ _ _ _ => (pe_call G_pick (hr.mono (by decide)) rfl m_pick k_pick b_pick .nil pass0 (pa_cons (pv 0) (pa_cons (pv 2) pa_nil))))) pa_nil)))
 (pss_cons (ps_setLc (i := 15) (own := [("_law_x", 16), ("_law_w", 17), ("_law_number", 18)]) rfl sc.nd rfl rfl (sw_true rfl rfl rfl (by decide +kernel)) (PI.toK (t' := iTup K _) (pi_tup (pe_ix (ixt K) (pv 11) pe_int (fun _ _ => rfl)))) (blkOk_by (N := N_wires) (sc := defScope s_wires) (by decide +kernel)) (fun _ _ _ _ _ => (PG.toK (t' := gTup K 3 _) (pg_tup rfl (pgs_cons (pg_name (i := 16) sc.nd rfl (Or.inl rfl)) (pgs_cons (pg_name (i := 17) sc.nd rfl (Or.inl rfl)) (pgs_cons (pg_name (i := 18) sc.nd rfl (Or.inl rfl)) pgs_nil)))))) (fun _ _ _ _ _ => pts_nil) (fun _ _ _ _ _ => (pe_call G_exp2 (hr.mono (by decide)) rfl m_exp2 k_exp2 b_exp2 .nil pass0 (pa_cons (pv 0) (pa_cons (pe_dget (hu_of hr) (pv 3) (pe_ix (ixt K) (pv 13) (pv 18) (fun _ _ => rfl)) (fun _ _ => rfl)) (pa_cons (pv 17) (pa_cons pe_int pa_nil)))))))
 (pss_cons (ps_expr (PE.toK (t' := tBM K _ _ _ _) (pe_bm PySem.F.plainAttrs_list PySem.F.slot_list_append PySem.F.type_list_append mt_append (pv 6) (pa_cons (pe_tup (pa_cons pe_str (pa_cons (PE.toK (t' := tBM K _ _ _ _) (pe_bm PySem.F.plainAttrs_list PySem.F.slot_list_pop PySem.F.type_list_pop mt_popAt (pv 1) (pa_cons pe_int pa_nil))) (pa_cons (pv 10) (pa_cons (pv 13) (pa_cons (pe_callTy (cTup K) rfl T.tuple (by decide +kernel) (pa_cons (pv 15) pa_nil)) pa_nil)))))) pa_nil))))
 (pss_one (ps_for PassesOwn.never rfl (PI.toK (t' := iTup K _) (pi_tup (pe_ix (ixt K) (pv 11) pe_int (fun _ _ => rfl)))) (PG.toK (t' := gTup K 3 _) (pg_tup rfl (pgs_cons (pg_name (i := 19) sc.nd rfl (Or.inl rfl)) (pgs_cons (pg_name (i := 17) sc.nd rfl (Or.inl rfl)) (pgs_cons (pg_name (i := 18) sc.nd rfl (Or.inl rfl)) pgs_nil)))))
 (pss_one (ps_expr (PE.toK (t' := tBM K _ _ _ _) (pe_bm PySem.F.plainAttrs_list PySem.F.slot_list_append PySem.F.type_list_append mt_append (pe_dget (hu_of hr) (pv 3) (pe_ix (ixt K) (pv 13) (pv 18) (fun _ _ => rfl)) (fun _ _ => rfl)) (pa_cons (pe_tup (pa_cons (pe_op op_add_str (pe_op op_add_str (pe_ix (ixt K) (pe_ix (ixl K) (pv 6) (pe_un un_neg pe_int) (fun _ _ => rfl)) pe_int (fun _ _ => rfl)) pe_str) (pv 19)) (pa_cons (pv 17) pa_nil))) pa_nil))))))))))) pss_nil)))))))
 (pss_one (ps_ret (pv 6))))), ?_⟩
  obtain ⟨a, pe, n, ns, lf, L, bel, rfl, S, hns, hL, hbel, hpe, hb2, hfo, hQ⟩ := h
  have hnspos : ∀ {x : List Str} {y : List Str} {m : Nat}, ns = x ++ y → x.length ≤ m → m < 6 → ∃ z zs, y = z :: zs := fun {x y m} e h1 h2 => by
    cases y with
    | nil =>
      have := congrArg List.length e
      simp at this
      omega
    | cons z zs => exact ⟨z, zs, rfl⟩
  refine ⟨(by show 0 ≤ sizeLine; decide), fun pr hpr => ?_⟩
  have hpr0 : H pr = none := hpr
  have hro := S.new hpr0
  have hpt : pr ≠ a.pt := fun e => by rw [e, S.ticks] at hpr0; cases hpr0
  have hpre : pr ≠ pe := fun e => by obtain ⟨_, h1, _⟩ := hbel; rw [← e, hpr0] at h1; cases h1
  have S1 : WSt H (upd H pr (.lst [])) a pe (n + 247) ns L bel pr [] ns lf := {
    sc := by simpa using S.keep0 (Kp.new hpr)
    nm := rfl
    rows := ⟨[], upd_same .., trivial⟩
    bl := hbel.keep (Kp.new (l := []) hpr) (by simp)
    kp := Kp.new hpr
    ok := trivial }
  generalize upd H pr (.lst []) = H1 at S1
  refine ⟨_, rfl, a.d, a.c, 4, n + 246, rfl, S1.sc.deck, by decide, by decide, fun r H2 hr2 kq2 D2 => ⟨(r : Int), rfl, by omega, by omega, ?_⟩⟩
  have S2 := S1.drawn hpe hro kq2 D2
  rw [show ((r : Int)).toNat = r by omega]
  refine for_range (n := r) (fun i σ H' => ∃ v7 v8 v9 v10 v11 v12 v13 v14 v15 v16 v17 v18 v19, σ = [some (.ref a.d), some (.ref a.pn), some (.ref a.pt), some (.ref a.pp), some (.ref pe), some (.ref a.pl), some (.ref pr), v7, v8, v9, v10, v11, v12, v13, v14, v15, v16, v17, v18, v19] ∧ ∃ ss ns' lf', ss.length ≤ 2 * i ∧ (ss.flatMap Step.ents).length ≤ 3 * i ∧ WSt H H' a pe (n + 82 * (3 - i)) ns L bel pr ss ns' lf')
    ⟨_, _, _, _, _, _, _, _, _, _, _, _, _, rfl, [], ns, lf, Nat.le_refl _, Nat.le_refl _, S2.less (by omega)⟩ ?_ ?_
  · rintro i σ H3 hi ⟨v7, v8, v9, v10, v11, v12, v13, v14, v15, v16, v17, v18, v19, rfl, ss, ns', lf', hss, hes, S3⟩
    have S3' := S3.less (m := n + 82 * (3 - (i + 1)) + 80 + 1 + 1) (by omega)
    refine ⟨_, rfl, a.d, a.c, 3, _, rfl, S3'.sc.deck, by decide, by decide, fun b H4 hb kq4 D4 => ⟨_, _, rfl, rfl, ?_⟩⟩
    have S4 := S3'.drawn hpe hro kq4 D4
    refine ⟨_, rfl, _, rfl, a.d, a.c, a.pt, _, _, rfl, S4.sc.deck, S4.sc.ticks, S4.sc.pt_c, S4.sc.tk_ne, S4.sc.tk_len, fun it xt H5 hxt kq5 D5 => ⟨_, _, rfl, ?_⟩⟩
    obtain ⟨t, ht, rfl⟩ := tk_get hxt
    have S5 := S4.drawn hpe hro kq5 D5
    obtain ⟨x, xs, hx⟩ := hnspos (m := 4) S5.nm (by simp; omega) (by decide)
    subst hx
    have hplx := S5.sc.plainN x List.mem_cons_self
    -- the wire
    obtain ⟨vs, hvs, avs⟩ := S5.rows
    refine ⟨_, rfl, .inl ⟨rfl, _, SqL.of hvs⟩, _, rfl, .inl ⟨rfl, _, SqL.of S5.sc.names⟩, a.pn, _, 0, 0, .str x, rfl, rfl, S5.sc.names, by decide, by decide, seq0 x xs, rfl, ?_⟩
    generalize hH6 : upd H5 a.pn _ = H6
    have S6 : Scene H6 a (n + 82 * (3 - (i + 1)) + 80) xs lf' (L ++ ss.flatMap Step.ents) := by rw [← hH6]; exact S5.sc.pop
    have k56 : Kp a.ch H5 H6 := by rw [← hH6]; exact Kp.pn S5.sc (by simp [Ads.ch])
    clear hH6
    obtain ⟨q, hq, hqv⟩ := S6.get ht
    have e1 : (1 + (b : Int)) = ((1 + b : Nat) : Int) := by push_cast; rfl
    have hLs : (L ++ ss.flatMap Step.ents).length ≤ 260 := by rw [List.length_append]; omega
    refine ⟨_, rfl, _, rfl, _, rfl, _, rfl, a.pp, .ref q, rfl, S6.getD hqv, _, rfl, by decide, a.d, a.c, q, n + 82 * (3 - (i + 1)) + 41, 1 + b, _, _, poolOf (L ++ ss.flatMap Step.ents) t, rfl, by push_cast; rfl, rfl, S6.deck.less (by show _ + 39 ≤ _; omega), S6.pool _ hq, (S6.pool_ne hq).1, Nat.le_trans (poolOf_len _ _) (by omega), by omega, by decide, by omega, fun ve e H7 x1 x2 x3 kq7 D7 => ⟨(by show 4 ≤ sizeLine; decide), fun tp htp => ?_⟩⟩
    have S7 := S6.drawn kq7 D7
    have k57 := k56.trans kq7.dc
    generalize hH8 : upd H7 tp _ = H8
    have k78 : Kp [] H7 H8 := by rw [← hH8]; exact Kp.new htp
    have htp8 : H8 tp = some (.tup [.str "wire", .str x, .int (1 + (b : Int)), ve]) := by rw [← hH8]; exact upd_same ..
    clear hH8
    have S8 := S7.keep0 k78
    have k58 := k57.trans k78.up
    have hvs8 := k58.at hvs hro
    have avs8 := avs.imp fun _ _ q => q.keep k58
    have bl8 := S5.bl.keep k58 hpe
    refine ⟨pr, _, _, rfl, rfl, hvs8, ?_, ?_⟩
    · rw [avs.length, List.length_map]
      exact Nat.lt_of_le_of_lt (show ss.length ≤ 6 by omega) (by decide)
    have k8 : Kp [pr] H8 (upd H8 pr (.lst (vs ++ [.ref tp]))) := Kp.put hvs8 (by simp)
    have S9 := S8.own (ys := vs ++ [.ref tp]) hvs8 hro hpt
    have r9 : Rows (upd H8 pr (.lst (vs ++ [.ref tp]))) pr ((ss ++ [Step.wire x (1 + b) t e]).map Step.row) := ⟨_, upd_same .., by
      rw [List.map_append]
      exact (avs8.imp fun _ _ q => q.keep k8).snoc (show IsRow _ (.ref tp) (.wire x (1 + b) e) from ⟨tp, ve, rfl, k8.tup (by rw [← e1]; exact htp8), (x1.keep k78).keep k8⟩)⟩
    have bl9 := bl8.keep k8 (by simp [Ne.symm hpre])
    have kp9 : Kp a.ch H (upd H8 pr (.lst (vs ++ [.ref tp]))) := (S5.kp.trans k58).fresh hpr0
    have hpr9 : upd H8 pr (.lst (vs ++ [.ref tp])) pr = some (.lst (vs ++ [.ref tp])) := upd_same ..
    have htp9 := k8.tup htp8
    generalize upd H8 pr (.lst (vs ++ [.ref tp])) = H9 at S9 r9 bl9 kp9 hpr9 htp9
    obtain ⟨q2, us, hqv2, hqc, hus, hul, gr⟩ := S9.addPool ht (by omega)
    refine ⟨_, rfl, _, rfl, a.pp, .ref q2, rfl, S9.getD hqv2, .inl ⟨rfl, _, SqL.of hus⟩, ?_⟩
    refine ⟨_, rfl, _, rfl, pr, _, _, .ref tp, rfl, rfl, SqL.of hpr9, atI_last _ _, tp, _, _, .str x, rfl, rfl, SqT.of htp9, rfl, _, rfl, (by show 2 ≤ sizeLine; decide), fun tq htq => ?_⟩
    generalize hHa : upd H9 tq _ = Ha
    have k9a : Kp [] H9 Ha := by rw [← hHa]; exact Kp.new htq
    have htqa : Ha tq = some (.tup [.str x, .int (1 + (b : Int))]) := by rw [← hHa]; exact upd_same ..
    clear hHa
    obtain ⟨husa, Sb, kab⟩ := gr Ha (.ref tq) x (1 + b) k9a ⟨tq, rfl, by rw [← e1]; exact htqa⟩
    refine ⟨q2, _, _, rfl, rfl, husa, hul, ?_⟩
    have Sc : WSt H (upd Ha q2 (.lst (us ++ [.ref tq]))) a pe (n + 82 * (3 - (i + 1)) + 41) ns L bel pr (ss ++ [Step.wire x (1 + b) t e]) xs lf' := {
      sc := by
        have : L ++ (ss ++ [Step.wire x (1 + b) t e]).flatMap Step.ents = (L ++ ss.flatMap Step.ents) ++ [(x, 1 + b, t)] := by simp [Step.ents]
        rw [this]
        exact Sb
      nm := by rw [S5.nm]; simp [Step.nm]
      rows := (r9.keep k9a (by simp)).keep kab hro
      bl := (bl9.keep k9a (by simp)).keep kab hpe
      kp := (kp9.trans k9a.up).trans kab
      ok := S5.ok.snoc ⟨by omega, by omega, ht, x2, x3⟩ }
    generalize upd Ha q2 (.lst (us ++ [.ref tq])) = Hc at Sc
    have hssc : (ss ++ [Step.wire x (1 + b) t e]).length ≤ 2 * i + 1 := by simp; omega
    have hesc : ((ss ++ [Step.wire x (1 + b) t e]).flatMap Step.ents).length ≤ 3 * i + 1 := by
      rw [List.flatMap_append, List.length_append]
      show _ + 1 ≤ _
      omega
    clear r9 bl9 kp9 hpr9 htp9 S9 gr k9a Sb kab husa htqa
    generalize ss ++ [Step.wire x (1 + b) t e] = s2 at Sc hssc hesc
    -- the use
    refine ⟨fun σ' H' => ∃ v7 v8 v9 v13 v14 v15 v16 v17 v18 v19 mn fv bits F, σ' = [some (.ref a.d), some (.ref a.pn), some (.ref a.pt), some (.ref a.pp), some (.ref pe), some (.ref a.pl), some (.ref pr), v7, v8, v9, some (.str mn), some fv, some (.int bits), v13, v14, v15, v16, v17, v18, v19] ∧ IsFace H' fv F ∧ ((mn, F, bits) ∈ bel ∨ bits = 99) ∧ WSt H H' a pe (n + 82 * (3 - (i + 1)) + 40) ns L bel pr s2 xs lf', ?_, ?_⟩
    · obtain ⟨vb, hvb, avb⟩ := Sc.bl
      refine ⟨_, rfl, _, rfl, (by show 0 ≤ sizeLine; decide), fun e1 he1 => ⟨(by show 0 ≤ sizeLine; decide), fun e2 he2 => ⟨(by show 0 ≤ sizeLine; decide), fun e3 he3 => ⟨(by show 3 ≤ sizeLine; decide), fun ft hft => ⟨(by show 3 ≤ sizeLine; decide), fun st hst => ⟨(by show 1 ≤ sizeLine; decide), fun l hl => ?_⟩⟩⟩⟩⟩⟩
      have kl : Kp [] Hc (upd (upd (upd (upd (upd (upd Hc e1 (.tup [])) e2 (.tup [])) e3 (.tup [])) ft (.tup [.ref e1, .ref e2, .ref e3])) st (.tup [.str "", .ref ft, .int 99])) l (.lst [.ref st])) := (((((Kp.new he1).step he2).step he3).step hft).step hst).step hl
      have g1 : upd (upd (upd (upd (upd (upd Hc e1 (.tup [])) e2 (.tup [])) e3 (.tup [])) ft (.tup [.ref e1, .ref e2, .ref e3])) st (.tup [.str "", .ref ft, .int 99])) l (.lst [.ref st]) e1 = some (.tup []) := (((((Kp.new (l := []) he2).step he3).step hft).step hst).step hl).tup (upd_same ..)
      have g2 : upd (upd (upd (upd (upd (upd Hc e1 (.tup [])) e2 (.tup [])) e3 (.tup [])) ft (.tup [.ref e1, .ref e2, .ref e3])) st (.tup [.str "", .ref ft, .int 99])) l (.lst [.ref st]) e2 = some (.tup []) := ((((Kp.new (l := []) he3).step hft).step hst).step hl).tup (upd_same ..)
      have g3 : upd (upd (upd (upd (upd (upd Hc e1 (.tup [])) e2 (.tup [])) e3 (.tup [])) ft (.tup [.ref e1, .ref e2, .ref e3])) st (.tup [.str "", .ref ft, .int 99])) l (.lst [.ref st]) e3 = some (.tup []) := (((Kp.new (l := []) hft).step hst).step hl).tup (upd_same ..)
      have g4 : upd (upd (upd (upd (upd (upd Hc e1 (.tup [])) e2 (.tup [])) e3 (.tup [])) ft (.tup [.ref e1, .ref e2, .ref e3])) st (.tup [.str "", .ref ft, .int 99])) l (.lst [.ref st]) ft = some (.tup [.ref e1, .ref e2, .ref e3]) := ((Kp.new (l := []) hst).step hl).tup (upd_same ..)
      have g5 : upd (upd (upd (upd (upd (upd Hc e1 (.tup [])) e2 (.tup [])) e3 (.tup [])) ft (.tup [.ref e1, .ref e2, .ref e3])) st (.tup [.str "", .ref ft, .int 99])) l (.lst [.ref st]) st = some (.tup [.str "", .ref ft, .int 99]) := (Kp.new (l := []) hl).tup (upd_same ..)
      have g6 : upd (upd (upd (upd (upd (upd Hc e1 (.tup [])) e2 (.tup [])) e3 (.tup [])) ft (.tup [.ref e1, .ref e2, .ref e3])) st (.tup [.str "", .ref ft, .int 99])) l (.lst [.ref st]) l = some (.lst [.ref st]) := upd_same ..
      clear he1 he2 he3 hft hst hl
      generalize upd (upd (upd (upd (upd (upd Hc e1 (.tup [])) e2 (.tup [])) e3 (.tup [])) ft (.tup [.ref e1, .ref e2, .ref e3])) st (.tup [.str "", .ref ft, .int 99])) l (.lst [.ref st]) = Hd at kl g1 g2 g3 g4 g5 g6
      have Sd := Sc.keep0 kl
      have hvbd := kl.at hvb (by simp)
      refine ⟨pe, l, vb, [.ref st], rfl, rfl, hvbd, g6, ?_, fun cl hcl => ?_⟩
      · rw [avb.length]
        exact Nat.le_trans (show bel.length + 1 ≤ 3 by omega) (by decide)
      have kcl : Kp [] Hd (upd Hd cl (.lst (vb ++ [.ref st]))) := Kp.new hcl
      have Se := Sd.keep0 kcl
      have hco := Sd.sc.new hcl
      have sp : IsBel Hd (.ref st) ("", ⟨[], [], []⟩, 99) := ⟨st, .ref ft, rfl, g5, ft, e1, e2, e3, [], [], rfl, g4, g1, g2, trivial, g3, trivial⟩
      have all : AllV (IsBel (upd Hd cl (.lst (vb ++ [.ref st])))) (vb ++ [.ref st]) (bel ++ [(("", ⟨[], [], []⟩, 99) : Bel)]) := (avb.imp fun _ _ q => (q.keep kl).keep kcl).snoc (sp.keep kcl)
      have hcl' : upd Hd cl (.lst (vb ++ [.ref st])) cl = some (.lst (vb ++ [.ref st])) := upd_same ..
      generalize upd Hd cl (.lst (vb ++ [.ref st])) = He at Se all hcl'
      refine ⟨a.d, a.c, cl, n + 82 * (3 - (i + 1)) + 40, _, rfl, Se.sc.deck.less (by omega), hcl', fun e => hco (by rw [e]; simp [Ads.ch]), by simp, ?_, fun ib xb Hf hxb kqf Df => ?_⟩
      · rw [List.length_append, avb.length]
        exact Nat.lt_of_le_of_lt (show bel.length + 1 ≤ 3 by omega) (by decide)
      obtain ⟨bb, hbb, tb, fv, rfl, htb, hfv⟩ := all.get hxb
      have Sf := Se.drawn hpe hro kqf Df
      refine ⟨tb, _, rfl, SqT.of (kqf.tup htb), rfl, _, _, rfl, _, _, rfl, _, _, rfl, rfl, _, _, _, _, _, _, _, _, _, _, bb.1, fv, bb.2.2, bb.2.1, rfl, hfv.keep kqf, ?_, Sf⟩
      rcases List.mem_append.mp (List.mem_of_getElem? hbb) with z | z
      · exact .inl z
      · rw [List.mem_singleton.mp z]
        exact .inr rfl
    · rintro σ' Hd ⟨v7, v8, v9, v13, v14, v15, v16, v17, v18, v19, mn, fv, bits, F, rfl, hF, hmem, Sd⟩
      have stay : ∀ {H'}, WSt H H' a pe (n + 82 * (3 - (i + 1))) ns L bel pr s2 xs lf' → ∀ v7 v8 v9 v10 v11 v12 v13 v14 v15 v16 v17 v18 v19, ∃ w7 w8 w9 w10 w11 w12 w13 w14 w15 w16 w17 w18 w19, [some (V.ref a.d), some (.ref a.pn), some (.ref a.pt), some (.ref a.pp), some (.ref pe), some (.ref a.pl), some (.ref pr), v7, v8, v9, v10, v11, v12, v13, v14, v15, v16, v17, v18, v19] = [some (V.ref a.d), some (.ref a.pn), some (.ref a.pt), some (.ref a.pp), some (.ref pe), some (.ref a.pl), some (.ref pr), w7, w8, w9, w10, w11, w12, w13, w14, w15, w16, w17, w18, w19] ∧ ∃ ss ns' lf', ss.length ≤ 2 * (i + 1) ∧ (ss.flatMap Step.ents).length ≤ 3 * (i + 1) ∧ WSt H H' a pe (n + 82 * (3 - (i + 1))) ns L bel pr ss ns' lf' :=
        fun S' v7 v8 v9 v10 v11 v12 v13 v14 v15 v16 v17 v18 v19 => ⟨_, _, _, _, _, _, _, _, _, _, _, _, _, rfl, s2, xs, lf', by omega, by omega, S'⟩
      refine ⟨_, rfl, _, rfl, a.pl, _, _, _, rfl, rfl, SqL.of Sd.sc.left, rfl, _, _, rfl, rfl, _, rfl, ite2 (fun hle => ?_) (fun _ => iteF (stay (Sd.less (by omega)) _ _ _ _ _ _ _ _ _ _ _ _ _))⟩
      have hle' : bits ≤ lf' := of_decide_eq_true hle
      have hlow := Sd.sc.low
      have hl98 := Sd.sc.low98
      have hbm : (mn, F, bits) ∈ bel := by
        rcases hmem with z | z
        · exact z
        · omega
      obtain ⟨fo, hb0⟩ := hfo _ hbm
      simp only at fo hb0
      refine ⟨_, rfl, a.d, a.c, 3, n + 82 * (3 - (i + 1)) + 39, rfl, Sd.sc.deck, by decide, by decide, fun r0 He hr0 kqe De => ⟨_, _, rfl, rfl, _, rfl, ite2 (fun _ => ?_) (fun _ => stay ((Sd.drawn hpe hro kqe De).less (by omega)) _ _ _ _ _ _ _ _ _ _ _ _ _)⟩⟩
      have Se := Sd.drawn hpe hro kqe De
      have hFe := hF.keep kqe
      refine ⟨_, rfl, a.pl, _, _, _, rfl, rfl, SqL.of Se.sc.left, rfl, _, rfl, _, _, rfl, rfl, _, rfl, a.pl, _, _, 0, rfl, rfl, Se.sc.left, rfl, ?_⟩
      generalize hHf : upd He a.pl _ = Hf
      have Sf : WSt H Hf a pe (n + 82 * (3 - (i + 1)) + 39) ns L bel pr s2 xs (lf' - bits) := by
        rw [← hHf]
        exact Se.ch hpe hro (Kp.pl Se.sc (by simp [Ads.ch])) (Se.sc.take _ (by omega))
      have kef : Kp a.ch He Hf := by rw [← hHf]; exact Kp.pl Se.sc (by simp [Ads.ch])
      clear hHf
      obtain ⟨fa, ftk, fin, fou, us, ws, rfl, f1, f2, f3, f4, f5, f6⟩ := hFe.keep kef
      -- the clocks that are handed
      refine ⟨_, rfl, fa, _, _, _, rfl, rfl, SqT.of f1, rfl, ftk, rfl, ⟨_, SqT.of f2⟩, fun D1 hD1 => ?_⟩
      have hD1o := Sf.sc.new hD1
      refine lc_tup (xs := F.ticks.map V.str) (fun mm H' => ∃ hd : List Str, H' D1 = some (.lst (hd.map V.str)) ∧ hd.length = mm ∧ (∀ t ∈ hd, t ∈ a.ticks) ∧ Kp a.ch Hf H' ∧ WSt H H' a pe (n + 82 * (3 - (i + 1)) + 36 + (3 - mm)) ns L bel pr s2 xs (lf' - bits))
        ⟨[], upd_same .., rfl, by simp, Kp.new hD1, Sf.keep0 (Kp.new hD1)⟩ (fun mm H' _ ⟨_, _, _, _, kk, _⟩ => SqT.of (kk.tup f2)) ?_ ?_
      · rintro mm u Hg hu ⟨hd, hhd, hdl, hdt, kg, Sg⟩
        have hmm : mm < 3 := by
          have h1 := (List.getElem?_eq_some_iff.mp hu).1
          have h2 := fo.t3
          simp at h1
          omega
        refine ⟨rfl, yesT ⟨_, rfl, _, rfl, a.d, a.c, a.pt, n + 82 * (3 - (i + 1)) + 36 + (3 - (mm + 1)), _, rfl, Sg.sc.deck.less (by omega), Sg.sc.ticks, Sg.sc.pt_c, Sg.sc.tk_ne, Sg.sc.tk_len, fun it xt Hh hxt kqh Dh => ?_⟩⟩
        obtain ⟨ty, hty, rfl⟩ := tk_get hxt
        have hhd' := kqh.dc.at hhd hD1o
        refine ⟨_, hhd', ?_, hd ++ [ty], ?_, by simp [hdl], ?_, ?_, ?_⟩
        · rw [List.length_map]
          exact Nat.lt_of_le_of_lt (show hd.length ≤ 3 by omega) (by decide)
        · rw [upd_same]; simp
        · intro z hz
          rcases List.mem_append.mp hz with z1 | z1
          · exact hdt z z1
          · rw [List.mem_singleton.mp z1]; exact hty
        · exact (kg.trans kqh.dc).fresh hD1
        · have Sh := Sg.drawn hpe hro kqh Dh
          have kD : Kp [D1] Hh (upd Hh D1 (.lst (hd.map V.str ++ [.str ty]))) := Kp.put hhd' (by simp)
          have hD1t : D1 ≠ a.pt := fun e => by rw [e, Sf.sc.ticks] at hD1; cases hD1
          exact { Sh with
            sc := Sh.sc.own hhd' hD1o hD1t
            rows := Sh.rows.keep kD (by
              have : pr ≠ D1 := fun e => by obtain ⟨_, h1, _⟩ := Sf.rows; rw [e, hD1] at h1; cases h1
              simp [this])
            bl := Sh.bl.keep kD (by
              have : pe ≠ D1 := fun e => by obtain ⟨_, h1, _⟩ := Sf.bl; rw [e, hD1] at h1; cases h1
              simp [this])
            kp := Sh.kp.fresh ((Sf.kp).free hD1 hD1o) }
      rintro Hg ⟨hd, hhd, hdl, hdt, kg, Sg⟩
      have hdl' : hd.length = F.ticks.length := by simpa using hdl
      refine ⟨D1, _, rfl, .inl ⟨SqL.of hhd, fun th hth => ?_⟩⟩
      have kh : Kp [] Hg (upd Hg th (.tup (hd.map V.str))) := Kp.new hth
      have Sh := Sg.keep0 kh
      have hth' : upd Hg th (.tup (hd.map V.str)) th = some (.tup (hd.map V.str)) := upd_same ..
      have kfh := kg.trans kh.up
      generalize upd Hg th (.tup (hd.map V.str)) = Hh at kh Sh hth' kfh
      -- what is given
      have hf1 := kfh.tup f1
      have hf3 := kfh.tup f3
      have hf4 := f4.imp fun _ _ q => q.keep kfh
      refine ⟨_, rfl, fa, _, _, _, rfl, rfl, SqT.of hf1, rfl, fin, rfl, ⟨_, SqT.of hf3⟩, fun D2 hD2 => ?_⟩
      have hD2o := Sh.sc.new hD2
      have hD2t : D2 ≠ a.pt := fun e => by rw [e, Sh.sc.ticks] at hD2; cases hD2
      have hD2r : pr ≠ D2 := fun e => by obtain ⟨_, h1, _⟩ := Sh.rows; rw [e, hD2] at h1; cases h1
      have hD2b : pe ≠ D2 := fun e => by obtain ⟨_, h1, _⟩ := Sh.bl; rw [e, hD2] at h1; cases h1
      have hLL : (L ++ s2.flatMap Step.ents).length ≤ 260 := by rw [List.length_append]; omega
      refine lc_tup (xs := us) (fun mm H' => ∃ (gv : List V) (es : List Ex), H' D2 = some (.lst gv) ∧ gv.length = mm ∧ AllV (fun u e => IsEx H' e u) gv es ∧ GivenOk (L ++ s2.flatMap Step.ents) hd (F.ins.take mm) es ∧ Kp a.ch Hh H' ∧ WSt H H' a pe (n + 82 * (3 - (i + 1)) + 12 * (3 - mm)) ns L bel pr s2 xs (lf' - bits))
        ⟨[], [], upd_same .., rfl, trivial, trivial, Kp.new hD2, (Sh.keep0 (Kp.new hD2)).less (by omega)⟩ (fun mm H' _ ⟨_, _, _, _, _, _, kk, _⟩ => SqT.of (kk.tup hf3)) ?_ ?_
      · rintro mm u Hi hu ⟨gv, es, hgv, hgl, hge, hgo, ki, Si⟩
        obtain ⟨⟨ix, iw, ik⟩, hin, ta, rfl, hta⟩ := hf4.get hu
        have hmm : mm < 3 := by
          have h1 := (List.getElem?_eq_some_iff.mp hin).1
          have h2 := fo.i3
          omega
        obtain ⟨w1, w2, w3⟩ := fo.ik _ (List.mem_of_getElem? hin)
        simp only at w1 w2 w3
        have hth2 := ki.tup hth'
        have hgk : hd[ik]? = some (hd.getD ik "") := by
          rw [List.getD_eq_getElem?_getD, List.getElem?_eq_getElem (by omega)]
          rfl
        have htk : hd.getD ik "" ∈ a.ticks := hdt _ (List.mem_of_getElem? hgk)
        obtain ⟨q, hq, hqv⟩ := Si.sc.get htk
        refine ⟨ta, _, rfl, SqT.of (ki.tup hta), rfl, _, _, rfl, _, _, rfl, _, _, rfl, rfl, rfl, yesT ?_⟩
        refine ⟨_, rfl, _, rfl, _, rfl, _, rfl, th, _, _, .str (hd.getD ik ""), rfl, rfl, SqT.of hth2, atI_nat (by rw [List.getElem?_map, hgk]; rfl), a.pp, .ref q, rfl, Si.sc.getD hqv, _, rfl, ?_⟩
        refine ⟨by decide, a.d, a.c, q, n + 82 * (3 - (i + 1)) + 12 * (3 - (mm + 1)), iw, _, _, poolOf (L ++ s2.flatMap Step.ents) (hd.getD ik ""), rfl, rfl, rfl, Si.sc.deck.less (by show _ + 12 ≤ _; omega), Si.sc.pool _ hq, (Si.sc.pool_ne hq).1, Nat.le_trans (poolOf_len _ _) (by omega), w1, by decide, by omega, fun ve e Hj x1' x2' x3' kqj Dj => ?_⟩
        have hgv' := kqj.dc.at hgv hD2o
        have Sj := Si.drawn hpe hro kqj Dj
        have kD : Kp [D2] Hj (upd Hj D2 (.lst (gv ++ [ve]))) := Kp.put hgv' (by simp)
        refine ⟨gv, hgv', ?_, gv ++ [ve], es ++ [e], upd_same .., by simp [hgl], (hge.imp fun _ _ q => (q.keep kqj).keep kD).snoc (x1'.keep kD), ?_, (ki.trans kqj.dc).fresh hD2, ?_⟩
        · rw [hgl]
          exact Nat.lt_of_lt_of_le hmm (by decide)
        · have et : F.ins.take (mm + 1) = F.ins.take mm ++ [(ix, iw, ik)] := by rw [List.take_succ, hin]; rfl
          rw [et]
          exact hgo.snoc x2' x3'
        · exact { nm := Sj.nm, ok := Sj.ok, sc := Sj.sc.own hgv' hD2o hD2t, rows := Sj.rows.keep kD (by simp [hD2r]), bl := Sj.bl.keep kD (by simp [hD2b]), kp := Sj.kp.fresh (Sh.kp.free hD2 hD2o) }
      rintro Hi ⟨gv, es, hgv, hgl, hge, hgo, ki, Si⟩
      rw [hf4.length, List.take_length] at hgo
      rw [hf4.length] at hgl
      have hgl3 : gv.length ≤ 3 := by rw [hgl]; exact fo.i3
      -- the row
      obtain ⟨x', xs', hx'⟩ := hnspos (m := 5) Si.nm (by simp; omega) (by decide)
      subst hx'
      have hplx' := Si.sc.plainN x' List.mem_cons_self
      obtain ⟨vr, hvr, avr⟩ := Si.rows
      refine ⟨_, rfl, .inl ⟨rfl, _, SqL.of hvr⟩, _, rfl, .inl ⟨rfl, _, SqL.of Si.sc.names⟩, a.pn, _, 0, 0, .str x', rfl, rfl, Si.sc.names, by decide, by decide, seq0 x' xs', rfl, ?_⟩
      generalize hHj : upd Hi a.pn _ = Hj
      have Sj : Scene Hj a (n + 82 * (3 - (i + 1)) + 12 * (3 - us.length)) xs' (lf' - bits) (L ++ s2.flatMap Step.ents) := by rw [← hHj]; exact Si.sc.pop
      have kij : Kp [a.pn] Hi Hj := by rw [← hHj]; exact Kp.pn Si.sc (by simp)
      clear hHj
      have kij' : Kp a.ch Hi Hj := kij.mono (by simp [Ads.ch])
      have hgvj := kij'.at hgv hD2o
      refine ⟨_, rfl, _, rfl, _, rfl, D2, _, rfl, .inl ⟨SqL.of hgvj, fun tg htg => ⟨(by show 5 ≤ sizeLine; decide), fun tu htu => ?_⟩⟩⟩
      generalize hHk : upd (upd Hj tg _) tu _ = Hk
      have kjk : Kp [] Hj Hk := by rw [← hHk]; exact (Kp.new htg).step htu
      have htu' : Hk tu = some (.tup [.str "use", .str x', .str mn, .ref th, .ref tg]) := by rw [← hHk]; exact upd_same ..
      have htg' : Hk tg = some (.tup gv) := by rw [← hHk]; exact (Kp.new (l := []) htu).tup (upd_same ..)
      clear hHk
      have kik := kij'.trans kjk.up
      have Sk := Sj.keep0 kjk
      have hth3 := ((ki.trans kik).tup hth')
      have hvrk := kik.at hvr hro
      have avrk := avr.imp fun _ _ q => q.keep kik
      have blk := Si.bl.keep kik hpe
      have hgek := hge.imp fun _ _ q => q.keep kik
      have hwsk := (f6.imp fun _ _ q => q.keep kfh).imp fun _ _ q => q.keep (ki.trans kik)
      have hf1k := (ki.trans kik).tup hf1
      have hf5k := (ki.trans kik).tup (kfh.tup f5)
      have hkpk := Si.kp.trans kik
      refine ⟨pr, _, _, rfl, rfl, hvrk, ?_, ?_⟩
      · rw [avr.length, List.length_map]
        exact Nat.lt_of_le_of_lt (show s2.length ≤ 7 by omega) (by decide)
      have kl : Kp [pr] Hk (upd Hk pr (.lst (vr ++ [.ref tu]))) := Kp.put hvrk (by simp)
      have Sl := Sk.own (ys := vr ++ [.ref tu]) hvrk hro hpt
      have rl : Rows (upd Hk pr (.lst (vr ++ [.ref tu]))) pr ((s2 ++ [Step.use x' mn F hd es]).map Step.row) := ⟨_, upd_same .., by
        rw [List.map_append]
        exact (avrk.imp fun _ _ q => q.keep kl).snoc (show IsRow _ (.ref tu) (.use x' mn hd es) from ⟨tu, th, tg, gv, rfl, kl.tup htu', kl.tup hth3, kl.tup htg', hgek.imp fun _ _ q => q.keep kl⟩)⟩
      have bll := blk.keep kl (by simp [Ne.symm hpre])
      have kpl : Kp a.ch H (upd Hk pr (.lst (vr ++ [.ref tu]))) := hkpk.fresh hpr0
      have hprl : upd Hk pr (.lst (vr ++ [.ref tu])) pr = some (.lst (vr ++ [.ref tu])) := upd_same ..
      have htul := kl.tup htu'
      have hthl := kl.tup hth3
      have hf1l := kl.tup hf1k
      have hf5l := kl.tup hf5k
      have hwsl := hwsk.imp fun _ _ q => q.keep kl
      generalize upd Hk pr (.lst (vr ++ [.ref tu])) = Hl at Sl rl bll kpl hprl htul hthl hf1l hf5l hwsl
      -- what it puts out
      refine ⟨_, rfl, fa, _, _, _, rfl, rfl, SqT.of hf1l, rfl, fou, rfl, ⟨_, SqT.of hf5l⟩, ?_⟩
      refine for_tup (xs := ws) (fun mm σ H' => ∃ w7 w8 w9 w14 w15 w16 w17 w18 w19, σ = [some (.ref a.d), some (.ref a.pn), some (.ref a.pt), some (.ref a.pp), some (.ref pe), some (.ref a.pl), some (.ref pr), w7, w8, w9, some (.str mn), some (.ref fa), some (.int bits), some (.ref th), w14, w15, w16, w17, w18, w19] ∧ Kp a.ch Hl H' ∧ Scene H' a (n + 82 * (3 - (i + 1))) xs' (lf' - bits) ((L ++ s2.flatMap Step.ents) ++ (F.outs.take mm).map fun o => (x' ++ "." ++ o.1, o.2.1, hd.getD o.2.2 "")))
        ⟨_, _, _, _, _, _, _, _, _, rfl, Kp.refl _ _, by simpa using Sl.less (by omega)⟩ (fun mm σ H' _ ⟨_, _, _, _, _, _, _, _, _, _, kk, _⟩ => SqT.of (kk.tup hf5l)) ?_ ?_
      · rintro mm u σ Hm hu ⟨w7, w8, w9, w14, w15, w16, w17, w18, w19, rfl, km, Sm⟩
        obtain ⟨⟨oy, ow, ok⟩, hout, ta, rfl, hta⟩ := hwsl.get hu
        have hmm : mm < 2 := by
          have h1 := (List.getElem?_eq_some_iff.mp hout).1
          have h2 := fo.o2
          omega
        obtain ⟨w1, w2, w3, w4⟩ := fo.ok _ (List.mem_of_getElem? hout)
        simp only at w1 w2 w3 w4
        have hgk : hd[ok]? = some (hd.getD ok "") := by
          rw [List.getD_eq_getElem?_getD, List.getElem?_eq_getElem (by omega)]
          rfl
        have htk : hd.getD ok "" ∈ a.ticks := hdt _ (List.mem_of_getElem? hgk)
        obtain ⟨q, us', hqv, hqc, hus, hul, gr⟩ := Sm.addPool htk (by simp at hLL ⊢; omega)
        refine ⟨ta, _, rfl, SqT.of (km.tup hta), rfl, _, _, rfl, _, _, rfl, _, _, rfl, rfl, ?_⟩
        refine ⟨_, rfl, _, rfl, _, rfl, th, _, _, .str (hd.getD ok ""), rfl, rfl, SqT.of (km.tup hthl), atI_nat (by rw [List.getElem?_map, hgk]; rfl), a.pp, .ref q, rfl, Sm.getD hqv, .inl ⟨rfl, _, SqL.of hus⟩, ?_⟩
        have hl1 : x'.length ≤ 6 := of_decide_eq_true (Bool.and_eq_true_iff.mp (Bool.and_eq_true_iff.mp hplx').1).1
        have hl2 : oy.length ≤ 6 := of_decide_eq_true (Bool.and_eq_true_iff.mp (Bool.and_eq_true_iff.mp w4).1).1
        have hl3 : (x' ++ ".").length = x'.length + 1 := by
          show (x'.cps ++ #[46]).size = _
          rw [Array.size_append]; rfl
        refine ⟨_, rfl, _, rfl, pr, _, _, .ref tu, rfl, rfl, SqL.of (km.at hprl hro), atI_last _ _, tu, _, _, .str x', rfl, rfl, SqT.of (km.tup htul), rfl, _, _, rfl, rfl, Nat.le_trans (show x'.length + 1 ≤ 100 by omega) (by decide), _, rfl, _, _, rfl, rfl, Nat.le_trans (show (x' ++ ".").length + oy.length ≤ 100 by omega) (by decide), _, rfl, (by show 2 ≤ sizeLine; decide), fun tq htq => ?_⟩
        generalize hHn : upd Hm tq _ = Hn
        have kmn : Kp [] Hm Hn := by rw [← hHn]; exact Kp.new htq
        have htqn : Hn tq = some (.tup [.str (x' ++ "." ++ oy), .int (ow : Int)]) := by rw [← hHn]; exact upd_same ..
        clear hHn
        obtain ⟨husn, So, kno⟩ := gr Hn (.ref tq) (x' ++ "." ++ oy) ow kmn ⟨tq, rfl, htqn⟩
        refine ⟨q, _, _, rfl, rfl, husn, hul, _, _, _, _, _, _, _, _, _, rfl, (km.trans kmn.up).trans kno, ?_⟩
        have et : F.outs.take (mm + 1) = F.outs.take mm ++ [(oy, ow, ok)] := by rw [List.take_succ, hout]; rfl
        rw [et, List.map_append, ← List.append_assoc]
        exact So
      · rintro σ Hm ⟨w7, w8, w9, w14, w15, w16, w17, w18, w19, rfl, km, Sm⟩
        rw [hwsl.length, List.take_length] at Sm
        refine ⟨_, _, _, _, _, _, _, _, _, _, _, _, _, rfl, s2 ++ [Step.use x' mn F hd es], xs', lf' - bits, by simp; omega, ?_, ?_⟩
        · rw [List.flatMap_append, List.length_append]
          have h1 := fo.o2
          have h2 : ([Step.use x' mn F hd es].flatMap Step.ents).length = F.outs.length := by simp [Step.ents]
          omega
        · exact {
            sc := by
              have : L ++ (s2 ++ [Step.use x' mn F hd es]).flatMap Step.ents = (L ++ s2.flatMap Step.ents) ++ F.outs.map fun o => (x' ++ "." ++ o.1, o.2.1, hd.getD o.2.2 "") := by simp [Step.ents]
              rw [this]
              exact Sm
            nm := by rw [Si.nm]; simp [Step.nm]
            rows := rl.keep km hro
            bl := bll.keep km hpe
            kp := kpl.trans km
            ok := Si.ok.snoc ⟨⟨bits, hbm⟩, hdl', hdt, hgo⟩ }
  · rintro σ H3 ⟨v7, v8, v9, v10, v11, v12, v13, v14, v15, v16, v17, v18, v19, rfl, ss, ns', lf', hss, hes, S3⟩
    exact ⟨_, rfl, hQ pr ss ns' lf' H3 (by omega) S3.nm (S3.sc.less (by omega)) S3.rows hpr0 S3.kp S3.ok⟩
end
end WT

set_option Elab.async false
set_option linter.all false
set_option maxRecDepth 100000
set_option maxHeartbeats 8000000
/-! module. -/
namespace WT
open PySem PySem.Spec PyProof.Rows L2
abbrev s_module : Stmt := topS 25
abbrev N_module : List Str := ["_law_deck_here", "_law_below", "_law_bits", "_law_names_here", "_law_left", "_law_ticks", "_law_k", "_law_pools", "_law_clock", "_law_ins_here", "_law_begun", "_law_boxes_here", "_law_crosses", "_law_rows", "_law_x", "_law_broad", "_law_start", "_law_outs", "_law_at", "_law_sides", "_law_some", "_law_row", "_law_face"]
abbrev P_module : List Str := ["_law_deck_here", "_law_below", "_law_bits"]
theorem sc_module : FnScope N_module P_module (defScope s_module) := ⟨rfl, rfl, rfl, by decide +kernel, rfl, by decide +kernel, by decide +kernel⟩
abbrev Out : Type := Str × Nat × Str × Ex
def OutOk (a : Ads) (L : List Ent) (o : Out) : Prop := 1 ≤ o.2.1 ∧ o.2.1 ≤ 4 ∧ o.2.2.1 ∈ a.ticks ∧ Ty (InPool (poolOf L o.2.2.1)) o.2.2.2 o.2.1 ∧ o.2.2.2.depth ≤ 3
abbrev oRow (o : Out) : MRow := .out o.1 o.2.1 o.2.2.1 o.2.2.2
/-- what a drawn module is made of -/
structure Mod where
  a : Ads
  ins : List Ent
  bs : List (Bx × Ex)
  cs : List Cr
  ss : List Step
  os : List Out
  at_ : Nat
abbrev bRow (b : Bx × Ex) : MRow := .box b.1.1 b.1.2.1 b.1.2.2.1 b.1.2.2.2 b.2
def Mod.L1 (M : Mod) : List Ent := M.ins ++ ((M.bs.map (·.1)).map bEnt ++ M.cs.map cEnt)
def Mod.L2 (M : Mod) : List Ent := M.L1 ++ M.ss.flatMap Step.ents
def Mod.inner (M : Mod) : List MRow := (M.ss.map Step.row ++ M.cs.map cRow) ++ M.bs.map bRow
def Mod.rows (M : Mod) : List MRow := (M.a.ticks.map MRow.clock ++ M.ins.map fun e => .inr e.1 e.2.1 e.2.2) ++ (M.inner.drop M.at_ ++ (M.os.map oRow).take 1 ++ M.inner.take M.at_ ++ (M.os.map oRow).drop 1)
def Mod.face (M : Mod) : Face := ⟨M.a.ticks, M.ins.map fun e => (e.1, e.2.1, M.a.ticks.idxOf e.2.2), M.os.map fun o => (o.1, o.2.1, M.a.ticks.idxOf o.2.2.1)⟩
def Mod.names (M : Mod) : List Str := M.a.ticks ++ (M.ins.map (·.1) ++ (M.bs.map (·.1.1) ++ (M.cs.map (·.1) ++ (M.ss.map Step.nm ++ M.os.map (·.1)))))
structure ModOk (bel : List Bel) (M : Mod) : Prop where
  t1 : 1 ≤ M.a.ticks.length
  t3 : M.a.ticks.length ≤ 3
  nd : M.names.Nodup
  pl : ∀ x ∈ M.names, plain x = true
  i3 : M.ins.length ≤ 3
  b3 : M.bs.length ≤ 3
  c2 : M.cs.length ≤ 2
  s6 : M.ss.length ≤ 6
  o1 : 1 ≤ M.os.length
  o2 : M.os.length ≤ 2
  insOk : ∀ e ∈ M.ins, EntOk M.a e
  bxOk : ∀ b ∈ M.bs, BxOk M.a b.1 ∧ Ty (InPool (poolOf M.L2 b.1.2.2.1)) b.2 b.1.2.1 ∧ b.2.depth ≤ 3
  crOk : ∀ x ∈ M.cs, CrOk M.a M.L1 x
  ssOk : StepsOk M.a bel M.L1 M.ss
  osOk : ∀ o ∈ M.os, OutOk M.a M.L2 o
def spModule : Sp := fun vs H Q _ => ∃ (d c pe : Addr) (n : Nat) (bits : Int) (bel : List Bel), vs = [.ref d, .ref pe, .int bits] ∧ Deck H d c (n + 480) ∧ BelL H pe bel ∧ pe ≠ c ∧ bel.length ≤ 2 ∧ (∀ b ∈ bel, FaceOk b.2.1 ∧ 0 ≤ b.2.2) ∧ bits ≤ 98 ∧
  ∀ (t pm : Addr) (fv : V) (z : Int) (M : Mod) H', H' t = some (.tup [.ref pm, fv, .int z]) → Rows H' pm M.rows → H pm = none → IsFace H' fv M.face → 0 ≤ z → ModOk bel M → Kp [d, c] H H' → Deck H' d c n → Q (.ref t) H'
theorem Kp.inch {a : Ads} {H H1 H2 : Hp} (k : Kp [a.d, a.c] H H1) (hn : ∀ p ∈ a.pn :: a.pl :: a.ps.map (·.2), H p = none) (k2 : Kp a.ch H1 H2) : Kp [a.d, a.c] H H2 := fun b o e z => k2 b o (k b o e z) fun hb => by
  simp only [Ads.ch, List.mem_cons] at hb
  rcases hb with h | h | h
  · exact z (by rw [h]; simp)
  · exact z (by rw [h]; simp)
  · have := hn b (by simpa using h)
    rw [this] at e
    cases e
theorem AllV.drop {α : Type} {R : V → α → Prop} : ∀ {vs : List V} {as : List α} (n : Nat), AllV R vs as → AllV R (vs.drop n) (as.drop n)
  | _, _, 0, h => h
  | [], [], _ + 1, _ => trivial
  | _ :: _, _ :: _, n + 1, h => AllV.drop n h.2
  | [], _ :: _, _ + 1, h => h.elim
  | _ :: _, [], _ + 1, h => h.elim
theorem AllV.take {α : Type} {R : V → α → Prop} : ∀ {vs : List V} {as : List α} (n : Nat), AllV R vs as → AllV R (vs.take n) (as.take n)
  | _, _, 0, _ => trivial
  | [], [], _ + 1, _ => trivial
  | _ :: _, _ :: _, n + 1, h => ⟨h.1, AllV.take n h.2⟩
  | [], _ :: _, _ + 1, h => h.elim
  | _ :: _, [], _ + 1, h => h.elim
theorem Rows.cat {H : Hp} {vs ws : List V} {rs qs : List MRow} {p : Addr} (h1 : AllV (IsRow H) vs rs) (h2 : AllV (IsRow H) ws qs) (hp : H p = none) : Rows (upd H p (.lst (vs ++ ws))) p (rs ++ qs) :=
  ⟨_, upd_same .., (h1.append h2).imp fun _ _ q => q.keep (Kp.new (l := []) hp)⟩
theorem Scene.top {H : Hp} {a : Ads} {n : Nat} {ns : List Str} {lf : Int} {L : List Ent} (S : Scene H a n ns lf L) : Scene H { a with top := lf } n ns lf L :=
  { deck := S.deck, names := S.names, left := S.left, pools := S.pools, pool := S.pool, ticks := S.ticks, nd := S.nd, tnd := S.tnd, ne := S.ne, few := S.few, small := S.small, low := Int.le_refl _, low98 := Int.le_trans S.low S.low98, plainN := S.plainN }
theorem cutV_lo {xs : List V} {k : Nat} (h : k ≤ xs.length) : cutV xs (some (k : Int)) none = xs.drop k := by
  unfold cutV
  rw [HT.sIx_nat, HT.sIx_none, Nat.min_eq_left h]
  rw [List.take_of_length_le (by rw [List.length_drop]; exact Nat.le_refl _)]
theorem cutV_hi {xs : List V} {k : Nat} : cutV xs none (some (k : Int)) = xs.take k := by
  unfold cutV
  rw [HT.sIx_nat, HT.sIx_none, List.drop_zero, Nat.sub_zero]
  by_cases h : k ≤ xs.length
  · rw [Nat.min_eq_left h]
  · rw [Nat.min_eq_right (by omega), List.take_of_length_le (Nat.le_refl _), List.take_of_length_le (by omega)]
/-- name, width, clock of a row that has them behind its word -/
abbrev Nwc : Type := Str × Nat × Str
def IsNwc (H : Hp) (v : V) (y : Nwc) : Prop := ∃ ta r0 rest, v = .ref ta ∧ H ta = some (.tup (r0 :: .str y.1 :: .int (y.2.1 : Int) :: .str y.2.2 :: rest))
theorem IsNwc.keep {l : List Addr} {H H' : Hp} (k : Kp l H H') {v : V} {y : Nwc} (h : IsNwc H v y) : IsNwc H' v y := let ⟨a, r, s, h1, h2⟩ := h; ⟨a, r, s, h1, k.tup h2⟩
theorem nwc_ins {H : Hp} : ∀ {vs : List V} {ie : List Ent}, AllV (IsRow H) vs (ie.map fun e => .inr e.1 e.2.1 e.2.2) → AllV (IsNwc H) vs ie
  | [], [], _ => trivial
  | _ :: _, _ :: _, ⟨⟨a, h1, h2⟩, h⟩ => ⟨⟨a, _, _, h1, h2⟩, nwc_ins h⟩
  | [], _ :: _, h => h.elim
  | _ :: _, [], h => h.elim
theorem nwc_outs {H : Hp} : ∀ {vs : List V} {os : List Out}, AllV (IsRow H) vs (os.map oRow) → AllV (IsNwc H) vs (os.map fun o => (o.1, o.2.1, o.2.2.1))
  | [], [], _ => trivial
  | _ :: _, _ :: _, ⟨⟨a, u, h1, h2, _⟩, h⟩ => ⟨⟨a, _, _, h1, h2⟩, nwc_outs h⟩
  | [], _ :: _, h => h.elim
  | _ :: _, [], h => h.elim
theorem idxOf_le_of_get : ∀ {l : List Str} {m : Nat} (h : m < l.length), l.idxOf l[m] ≤ m
  | x :: xs, 0, _ => by simp
  | x :: xs, m + 1, h => by
    have hm : m < xs.length := by simpa using h
    have ih := idxOf_le_of_get hm
    have e : (x :: xs)[m + 1] = xs[m] := rfl
    rw [e, List.idxOf_cons]
    by_cases hx : (x == xs[m]) = true
    · rw [hx]
      exact Nat.zero_le _
    · rw [Bool.eq_false_iff.mpr hx]
      exact Nat.succ_le_succ ih
theorem idx_str {l : List Str} {x : Str} (h : x ∈ l) : (l.map V.str)[l.idxOf x]? = some (.str x) ∧ ∀ (m : Nat) (z : V), m < l.idxOf x → (l.map V.str)[m]? = some z → eqV z (.str x) = false := by
  constructor
  · rw [List.getElem?_map, List.getElem?_eq_getElem (List.idxOf_lt_length_iff.mpr h), List.getElem_idxOf]
    rfl
  · intro m z hm hz
    have hl : m < l.length := Nat.lt_of_lt_of_le hm (Nat.le_of_lt (List.idxOf_lt_length_iff.mpr h))
    rw [List.getElem?_map, List.getElem?_eq_getElem hl] at hz
    obtain rfl := Option.some.inj hz
    have hne : l[m] ≠ x := fun e => by
      have h2 : l.idxOf x ≤ m := by
        rw [← e]
        exact idxOf_le_of_get hl
      omega
    exact decide_eq_false hne
/-- the sides of a face, as lists of their own -/
abbrev conv3 (tk : List Str) (y : Nwc) : Tri := (y.1, y.2.1, tk.idxOf y.2.2)
def IsSide (H : Hp) (tk : List Str) (v : V) (tr : List Nwc) : Prop := ∃ q us, v = .ref q ∧ H q = some (.lst us) ∧ AllV (IsTri H) us (tr.map (conv3 tk))
theorem IsSide.keep {H H' : Hp} {tk : List Str} {v : V} {tr : List Nwc} (h : IsSide H tk v tr) (k : Kp [] H H') : IsSide H' tk v tr :=
  let ⟨q, us, h1, h2, h3⟩ := h; ⟨q, us, h1, k.at h2 (by simp), h3.imp fun _ _ z => z.keep k⟩
theorem paired_imp {α β : Type} {F G : α → β → Prop} (h : ∀ a b, F a b → G a b) : ∀ {l : List α} {m : List β}, Paired F l m → Paired G l m
  | _, _, .nil => .nil
  | _, _, .cons a b => .cons (h _ _ a) (paired_imp h b)
theorem putK_new {kvs : List (Key × V)} {k : Key} {v : V} (h : k ∉ kvs.map (·.1)) : putK kvs k v = kvs ++ [(k, v)] := by
  unfold putK
  rw [if_neg]
  intro e
  obtain ⟨x, hx, q⟩ := List.any_eq_true.mp e
  exact h (List.mem_map.mpr ⟨x, hx, of_decide_eq_true q⟩)
theorem mergeK_nodup : ∀ {more kvs : List (Key × V)}, ((kvs ++ more).map (·.1)).Nodup → mergeK kvs more = kvs ++ more
  | [], kvs, _ => by show kvs = _; simp
  | x :: more, kvs, h => by
    have h1 : x.1 ∉ kvs.map (·.1) := by
      rw [List.map_append, List.map_cons] at h
      intro z
      exact (List.nodup_append.mp h).2.2 _ z _ List.mem_cons_self rfl
    show mergeK (putK kvs x.1 x.2) more = _
    rw [putK_new h1, mergeK_nodup (by simpa using h)]
    simp
abbrev convT (q : Str × Addr) : Key × V := (Sum.inr q.1, V.ref q.2)
theorem nodup_conv {ps : Tk} (h : (ps.map (·.1)).Nodup) : ((([] : List (Key × V)) ++ ps.map convT).map (·.1)).Nodup := by
  rw [List.nil_append, List.map_map]
  have e : ((fun x : Key × V => x.1) ∘ convT) = (Sum.inr : Str → Key) ∘ (fun q : Str × Addr => q.1) := rfl
  rw [e, ← List.map_map]
  rw [List.Nodup, List.pairwise_map]
  exact List.Pairwise.imp (fun hab z => hab (Sum.inr.inj z)) h
section
variable {P : Program} {w : World} {K : PySem.W.Frag} {mg : Str → Option Value} {base : Heap}
theorem cal_module (S : Std K mg "_law_module" s_module) (T : Frees mg) (cdraw : Cal P w K mg base "_law_draw" 1 P_draw spDraw) (cpick : Cal P w K mg base "_law_pick" 2 P_pick spPick) (cexp : Cal P w K mg base "_law_exp" 6 P_exp (spExp 3))
    (cnames : Cal P w K mg base "_law_names" 2 P_names spNames) (cins : Cal P w K mg base "_law_ins" 3 P_ins spIns) (cboxes : Cal P w K mg base "_law_boxes" 3 P_boxes spBoxes) (cwires : Cal P w K mg base "_law_wires" 7 P_wires spWires) : Cal P w K mg base "_law_module" 8 P_module spModule := by
  obtain ⟨f, fd, F, m⟩ := S
  obtain ⟨fdraw, ddraw, G_draw, m_draw, k_draw, b_draw⟩ := cdraw
  obtain ⟨fpick, dpick, G_pick, m_pick, k_pick, b_pick⟩ := cpick
  obtain ⟨fexp, dexp, G_exp, m_exp, k_exp, b_exp⟩ := cexp
  obtain ⟨fnames, dnames, G_names, m_names, k_names, b_names⟩ := cnames
  obtain ⟨fins, dins, G_ins, m_ins, k_ins, b_ins⟩ := cins
  obtain ⟨fboxes, dboxes, G_boxes, m_boxes, k_boxes, b_boxes⟩ := cboxes
  obtain ⟨fwires, dwires, G_wires, m_wires, k_wires, b_wires⟩ := cwires
  refine ⟨f, fd, ?_, m, F.kp, F.bindsN fun _ _ _ _ _ _ us hl => match us, hl with | [_, _, _], _ => rfl⟩
  have sc := sc_module
  refine F.ok sc (fun vs H Q E h => by obtain ⟨_, _, _, _, _, _, rfl, _⟩ := h; rfl) fun cdv A outer s H vs Q E hr h => ⟨_, PSs.nox (pss_cons (ps_asg (pe_tup (pa_cons (pe_call G_names (hr.mono (by decide)) rfl m_names k_names b_names .nil pass0 (pa_cons (pv 0) pa_nil)) (pa_cons (pe_lst (pa_cons (pv 2) pa_nil)) pa_nil))) (PG.toK (t' := gTup K 2 _) (pg_tup rfl (pgs_cons (pg_name (i := 3) sc.nd rfl (Or.inr rfl)) (pgs_cons (pg_name (i := 4) sc.nd rfl (Or.inl rfl)) pgs_nil)))))
 (pss_cons (ps_set (i := 5) sc.nd rfl (Or.inr rfl) (pe_lc (own := [("_law_k", 6)]) rfl sc.nd (pi_range1 rfl T.range (pa_cons (pe_ix (ixl K) (pe_lst (pa_cons pe_int (pa_cons pe_int (pa_cons pe_int (pa_cons pe_int pa_nil))))) (pe_call G_draw (hr.mono (by decide)) rfl m_draw k_draw b_draw .nil pass0 (pa_cons (pv 0) (pa_cons pe_int pa_nil))) (fun _ _ => rfl)) pa_nil)) (blkOk_by (N := N_module) (sc := defScope s_module) (by decide +kernel)) (fun _ _ _ _ _ => (pg_name (i := 6) sc.nd rfl (Or.inl rfl))) (fun _ _ _ _ _ => pts_nil) (fun _ _ _ _ _ => (PE.toK (t' := tBM K _ _ _ _) (pe_bm PySem.F.plainAttrs_list PySem.F.slot_list_pop PySem.F.type_list_pop mt_popAt (pv 3) (pa_cons pe_int pa_nil))))))
 (C8.pss_cut (ps_set (i := 7) sc.nd rfl (Or.inl rfl) (pe_callTy (call_dictP rfl) rfl T.dict (by decide +kernel) (pa_cons (pe_lc (own := [("_law_clock", 8)]) rfl sc.nd (PI.toK (t' := iList K _) (pi_list (pv 5))) (blkOk_by (N := N_module) (sc := defScope s_module) (by decide +kernel)) (fun _ _ _ _ _ => (pg_name (i := 8) sc.nd rfl (Or.inl rfl))) (fun _ _ _ _ _ => pts_nil) (fun _ _ _ _ _ => (pe_tup (pa_cons (pv 8) (pa_cons (pe_lst pa_nil) pa_nil))))) pa_nil)))
 (pss_cons (ps_set (i := 9) sc.nd rfl (Or.inl rfl) (pe_call G_ins (hr.mono (by decide)) rfl m_ins k_ins b_ins .nil pass0 (pa_cons (pv 0) (pa_cons (pv 3) (pa_cons (pv 5) (pa_cons (pv 7) (pa_cons (pv 4) pa_nil)))))))
 (pss_cons (ps_set (i := 10) sc.nd rfl (Or.inl rfl) (pe_ix (ixl K) (pv 4) pe_int (fun _ _ => rfl)))
 (pss_cons (ps_asg (pe_call G_boxes (hr.mono (by decide)) rfl m_boxes k_boxes b_boxes .nil pass0 (pa_cons (pv 0) (pa_cons (pv 3) (pa_cons (pv 5) (pa_cons (pv 7) (pa_cons (pv 4) pa_nil)))))) (PG.toK (t' := gTup K 2 _) (pg_tup rfl (pgs_cons (pg_name (i := 11) sc.nd rfl (Or.inl rfl)) (pgs_cons (pg_name (i := 12) sc.nd rfl (Or.inl rfl)) pgs_nil)))))
 (C8.pss_cut (ps_set (i := 13) sc.nd rfl (Or.inl rfl) (pe_op op_cat (pe_call G_wires (hr.mono (by decide)) rfl m_wires k_wires b_wires .nil pass0 (pa_cons (pv 0) (pa_cons (pv 3) (pa_cons (pv 5) (pa_cons (pv 7) (pa_cons (pv 1) (pa_cons (pv 4) pa_nil))))))) (pv 12)))
 (C8.pss_cut (ps_for PassesOwn.never rfl (PI.toK (t' := iList K _) (pi_list (pv 11))) (PG.toK (t' := gTup K 4 _) (pg_tup rfl (pgs_cons (pg_name (i := 14) sc.nd rfl (Or.inl rfl)) (pgs_cons (pg_name (i := 15) sc.nd rfl (Or.inl rfl)) (pgs_cons (pg_name (i := 8) sc.nd rfl (Or.inl rfl)) (pgs_cons (pg_name (i := 16) sc.nd rfl (Or.inl rfl)) pgs_nil))))))
 (pss_one (ps_expr (PE.toK (t' := tBM K _ _ _ _) (pe_bm PySem.F.plainAttrs_list PySem.F.slot_list_append PySem.F.type_list_append mt_append (pv 13) (pa_cons (pe_tup (pa_cons pe_str (pa_cons (pv 14) (pa_cons (pv 15) (pa_cons (pv 8) (pa_cons (pv 16) (pa_cons (pe_call G_exp (hr.mono (by decide)) rfl m_exp k_exp b_exp .nil pass0 (pa_cons (pv 0) (pa_cons (pe_dget (hu_of hr) (pv 7) (pv 8) (fun _ _ => rfl)) (pa_cons (pv 15) (pa_cons pe_int pa_nil))))) pa_nil))))))) pa_nil))))))
 (pss_cons (ps_set (i := 17) sc.nd rfl (Or.inl rfl) (pe_lst pa_nil))
 (C8.pss_cut (ps_for PassesOwn.never rfl (pi_range1 rfl T.range (pa_cons (pe_op op_add pe_int (pe_call G_draw (hr.mono (by decide)) rfl m_draw k_draw b_draw .nil pass0 (pa_cons (pv 0) (pa_cons pe_int pa_nil)))) pa_nil)) (pg_name (i := 6) sc.nd rfl (Or.inl rfl))
 (pss_cons (ps_par (i := 15) (j := 8) rfl sc.nd rfl rfl (by decide) rfl rfl (pa_cons (pe_op op_add pe_int (pe_call G_draw (hr.mono (by decide)) rfl m_draw k_draw b_draw .nil pass0 (pa_cons (pv 0) (pa_cons pe_int pa_nil)))) (pa_cons (pe_call G_pick (hr.mono (by decide)) rfl m_pick k_pick b_pick .nil pass0 (pa_cons (pv 0) (pa_cons (pv 5) pa_nil))) pa_nil)) (by rfl))
 (pss_one (ps_expr (PE.toK (t' := tBM K _ _ _ _) (pe_bm PySem.F.plainAttrs_list PySem.F.slot_list_append PySem.F.type_list_append mt_append (pv 17) (pa_cons (pe_tup (pa_cons pe_str (pa_cons (PE.toK (t' := tBM K _ _ _ _) (pe_bm PySem.F.plainAttrs_list PySem.F.slot_list_pop PySem.F.type_list_pop mt_popAt (pv 3) (pa_cons pe_int pa_nil))) (pa_cons (pv 15) (pa_cons (pv 8) (pa_cons (pe_call G_exp (hr.mono (by decide)) rfl m_exp k_exp b_exp .nil pass0 (pa_cons (pv 0) (pa_cons (pe_dget (hu_of hr) (pv 7) (pv 8) (fun _ _ => rfl)) (pa_cons (pv 15) (pa_cons pe_int pa_nil))))) pa_nil)))))) pa_nil)))))))
 (pss_cons (ps_set (i := 18) sc.nd rfl (Or.inl rfl) (pe_call G_draw (hr.mono (by decide)) rfl m_draw k_draw b_draw .nil pass0 (pa_cons (pv 0) (pa_cons (pe_op op_add (pe_callB (cLen K) rfl T.len (by decide +kernel) (pa_cons (pv 13) pa_nil)) pe_int) pa_nil))))
 (C8.pss_cut (ps_set (i := 13) sc.nd rfl (Or.inl rfl) (pe_op op_cat (pe_op op_cat (pe_op op_cat (pe_slice (slL K) (pv 13) (po_some (pv 18)) po_none) (pe_slice (slL K) (pv 17) po_none (po_some pe_int))) (pe_slice (slL K) (pv 13) po_none (po_some (pv 18)))) (pe_slice (slL K) (pv 17) (po_some pe_int) po_none)))
 (C8.pss_cut (ps_setLc (i := 19) (own := [("_law_some", 20)]) rfl sc.nd rfl rfl (sw_true rfl rfl rfl (by decide +kernel)) (PI.toK (t' := iTup K _) (pi_tup (pe_tup (pa_cons (pv 9) (pa_cons (pv 17) pa_nil))))) (blkOk_by (N := N_module) (sc := defScope s_module) (by decide +kernel)) (fun _ _ _ _ _ => (pg_name (i := 20) sc.nd rfl (Or.inl rfl))) (fun _ _ _ _ _ => pts_nil) (fun _ _ _ _ _ => (pe_lc (own := [("_law_row", 21)]) rfl sc.nd (PI.toK (t' := iList K _) (pi_list (pv 20))) (blkOk_by (N := N_module) (sc := ⟨.function, [(Str.ofString ".0", .local), (Str.ofString "_law_some", .local), (Str.ofString "_law_ticks", .cell)], false, false, []⟩) (by decide +kernel)) (fun _ _ _ _ _ => (pg_name (i := 21) sc.nd rfl (Or.inl rfl))) (fun _ _ _ _ _ => pts_nil) (fun _ _ _ _ _ => (pe_tup (pa_cons (pe_ix (ixt K) (pv 21) pe_int (fun _ _ => rfl)) (pa_cons (pe_ix (ixt K) (pv 21) pe_int (fun _ _ => rfl)) (pa_cons (PE.toK (t' := tBM K _ _ _ _) (pe_bm PySem.F.plainAttrs_list PySem.F.slot_list_index PySem.F.type_list_index (mIndex K) (pv 5) (pa_cons (pe_ix (ixt K) (pv 21) pe_int (fun _ _ => rfl)) pa_nil))) pa_nil))))))))
 (pss_cons (ps_set (i := 22) sc.nd rfl (Or.inl rfl) (pe_tup (pa_cons (pe_callTy (cTup K) rfl T.tuple (by decide +kernel) (pa_cons (pv 5) pa_nil)) (pa_cons (pe_callTy (cTup K) rfl T.tuple (by decide +kernel) (pa_cons (pe_ix (ixl K) (pv 19) pe_int (fun _ _ => rfl)) pa_nil)) (pa_cons (pe_callTy (cTup K) rfl T.tuple (by decide +kernel) (pa_cons (pe_ix (ixl K) (pv 19) pe_int (fun _ _ => rfl)) pa_nil)) pa_nil)))))
 (pss_one (ps_ret (pe_tup (pa_cons (pe_op op_cat (pe_op op_cat (pe_lc (own := [("_law_clock", 8)]) rfl sc.nd (PI.toK (t' := iList K _) (pi_list (pv 5))) (blkOk_by (N := N_module) (sc := defScope s_module) (by decide +kernel)) (fun _ _ _ _ _ => (pg_name (i := 8) sc.nd rfl (Or.inl rfl))) (fun _ _ _ _ _ => pts_nil) (fun _ _ _ _ _ => (pe_tup (pa_cons pe_str (pa_cons (pv 8) pa_nil))))) (pv 9)) (pv 13)) (pa_cons (pv 22) (pa_cons (pe_op op_sub (pv 10) (pe_ix (ixl K) (pv 4) pe_int (fun _ _ => rfl))) pa_nil)))))))))))))))))))), ?_⟩
  obtain ⟨d, c, pe, n, bits, bel, rfl, D, hbel, hpe, hb2, hfo, hbits, hQ⟩ := h
  -- names, what is left
  refine ⟨_, rfl, d, c, n + 478, rfl, D, fun pn NS H1 hpn0 hpn1 hlen hok kp1 D1 => ⟨_, rfl, (by show 1 ≤ sizeLine; decide), fun pl hpl => ⟨(by show 2 ≤ sizeLine; decide), fun tt htt => ⟨tt, _, rfl, SqT.of (upd_same ..), rfl, _, _, rfl, _, _, rfl, rfl, ?_⟩⟩⟩⟩
  have k12 : Kp [] H1 (upd (upd H1 pl (.lst [.int bits])) tt (.tup [.ref pn, .ref pl])) := (Kp.new hpl).step htt
  have hpl2 : upd (upd H1 pl (.lst [.int bits])) tt (.tup [.ref pn, .ref pl]) pl = some (.lst [.int bits]) := (Kp.new (l := []) htt).at (upd_same ..) (by simp)
  have hpl0 : H1 pl = none := hpl
  have hpln : pl ≠ pn := Ne.symm (ne_of_none hpn1 hpl)
  clear htt
  generalize upd (upd H1 pl (.lst [.int bits])) tt (.tup [.ref pn, .ref pl]) = H2 at k12 hpl2
  have D2 := D1.keep k12
  have hpn2 := k12.at hpn1 (by simp)
  have kp2 : Kp [d, c] H H2 := kp1.trans k12.up
  have dpn : pn ∉ [d, c] := by
    have := D.ne hpn0
    simp [Ne.symm this.1, Ne.symm this.2]
  have dpl : pl ∉ [d, c] := by
    have := D1.ne hpl0
    simp [Ne.symm this.1, Ne.symm this.2]
  -- the clocks
  refine ⟨(by show 4 ≤ sizeLine; decide), fun q hq => ⟨_, rfl, d, c, 4, n + 477, rfl, D2.keep (Kp.new hq), by decide, by decide, fun r H3 hr3 kq3 D3 => ?_⟩⟩
  have kp3 : Kp [d, c] H2 H3 := (Kp.new hq).trans kq3
  have dq : q ∉ [d, c] := by
    have := D2.ne hq
    simp [Ne.symm this.1, Ne.symm this.2]
  have hq3 : H3 q = some (.lst [.int 1, .int 2, .int 2, .int 3]) := kq3.at (upd_same ..) dq
  obtain ⟨kk, hk1, hk3, hkv⟩ : ∃ kk : Nat, 1 ≤ kk ∧ kk ≤ 3 ∧ ([.int 1, .int 2, .int 2, .int 3] : List V)[r]? = some (.int (kk : Int)) := by
    have : r = 0 ∨ r = 1 ∨ r = 2 ∨ r = 3 := by omega
    rcases this with e | e | e | e <;> subst e
    · exact ⟨1, by decide, by decide, rfl⟩
    · exact ⟨2, by decide, by decide, rfl⟩
    · exact ⟨2, by decide, by decide, rfl⟩
    · exact ⟨3, by decide, by decide, rfl⟩
  refine ⟨q, _, _, .int (kk : Int), rfl, rfl, SqL.of hq3, atI_nat hkv, (kk : Int), rfl, by omega, by omega, fun pt hpt => ?_⟩
  have hpn3 := kp3.at hpn2 dpn
  have hpl3 := kp3.at hpl2 dpl
  have npt : pn ≠ pt := ne_of_none hpn3 hpt
  rw [show ((kk : Int)).toNat = kk by omega]
  refine lc_range (n := kk) (fun i H' => ∃ tk rest, NS = tk ++ rest ∧ tk.length = i ∧ H' pt = some (.lst (tk.map V.str)) ∧ H' pn = some (.lst (rest.map V.str)) ∧ Kp [pn] H3 H') ⟨[], NS, rfl, rfl, upd_same .., by rw [upd_ne npt]; exact hpn3, Kp.new hpt⟩ ?_ ?_
  · rintro i H' hi ⟨tk, rest, hns, htl, hpt', hpn', kk'⟩
    cases rest with
    | nil =>
      have := congrArg List.length hns
      simp at this
      omega
    | cons x rest =>
    refine ⟨rfl, yesT ⟨_, rfl, .inl ⟨rfl, _, SqL.of hpn'⟩, pn, _, 0, 0, .str x, rfl, rfl, hpn', by decide, by decide, seq0 x rest, rfl, ?_⟩⟩
    generalize hHa : upd H' pn _ = Ha
    have ka : Kp [pn] H' Ha := by rw [← hHa]; exact Kp.put hpn' (by simp)
    have hpna : Ha pn = some (.lst (rest.map V.str)) := by rw [← hHa]; exact upd_same ..
    have hpta := ka.at hpt' (by simp [Ne.symm npt])
    clear hHa
    refine ⟨_, hpta, ?_, tk ++ [x], rest, by simp [hns], by simp [htl], ?_, ?_, (kk'.trans ka).fresh hpt⟩
    · rw [List.length_map, htl]
      exact Nat.lt_of_lt_of_le hi (Nat.le_trans hk3 (by decide))
    · rw [upd_same]; simp
    · rw [upd_ne npt]; exact hpna
  rintro H5 ⟨tk, ns, hns, htl, hpt5, hpn5, kn5⟩
  have hpl5 := kn5.at hpl3 (by simp [hpln])
  have D5 := D3.kept kn5 (by have := D.ne hpn0; simp [this.1]) (by have := D.ne hpn0; simp [this.2])
  have hpt0 : H3 pt = none := hpt
  have dpt : pt ∉ [d, c] := by
    have := D3.ne hpt0
    simp [Ne.symm this.1, Ne.symm this.2]
  have kp5 : Kp [d, c] H H5 := (kp2.trans kp3).drop' hpn0 kn5
  -- the pools
  have tnd : tk.Nodup := by
    have := hok.1
    rw [hns] at this
    exact (List.nodup_append.mp this).1
  have spl : ∀ x ∈ ns, plain x = true := fun x hx => hok.2 x (by rw [hns]; exact List.mem_append_right _ hx)
  refine ⟨fun σ H' => ∃ (a : Ads) (v6 v8 v9 v10 v11 v12 v13 v14 v15 v16 v17 v18 v19 v20 v21 v22 : Option V), a.d = d ∧ a.c = c ∧ a.pn = pn ∧ a.pl = pl ∧ a.pt = pt ∧ a.ticks = tk ∧ a.top = 98 ∧ σ = [some (.ref d), some (.ref pe), some (.int bits), some (.ref pn), some (.ref pl), some (.ref pt), v6, some (.ref a.pp), v8, v9, v10, v11, v12, v13, v14, v15, v16, v17, v18, v19, v20, v21, v22] ∧ Scene H' a (n + 477) ns bits [] ∧ Kp [d, c] H H' ∧ (∀ p ∈ pn :: pl :: a.ps.map (·.2), H p = none), ?_, ?_⟩
  · refine ⟨_, rfl, pt, rfl, ⟨_, SqL.of hpt5⟩, fun DD hDD => ?_⟩
    refine lc_list (xs := tk.map V.str) (fun i H' => ∃ (ts : List Addr) (ps : Tk), H' DD = some (.lst (ts.map V.ref)) ∧ ps.map (·.1) = tk.take i ∧ (ps.map (·.2)).Nodup ∧ (∀ q ∈ ps, H' q.2 = some (.lst []) ∧ H5 q.2 = none ∧ q.2 ≠ DD) ∧ Paired (fun p kv => H' p = some (.tup [kV kv.1, kv.2])) ts (ps.map convT) ∧ Kp [] H5 H')
      ⟨[], [], upd_same .., rfl, List.nodup_nil, by simp, .nil, Kp.new hDD⟩ (fun i H' _ ⟨_, _, _, _, _, _, _, kk⟩ => SqL.of (kk.at hpt5 (by simp))) ?_ ?_
    · rintro i v H' hv ⟨ts, ps, h1, h2, h3, h4, h5, h6⟩
      have hi : i < tk.length := by
        have := (List.getElem?_eq_some_iff.mp hv).1
        simpa using this
      have ev : v = .str tk[i] := by
        rw [List.getElem?_map, List.getElem?_eq_getElem hi] at hv
        exact (Option.some.inj hv).symm
      subst ev
      have hpl : ps.length = i := by
        have := congrArg List.length h2
        simp at this
        omega
      refine ⟨rfl, yesT ⟨_, rfl, (by show 0 ≤ sizeLine; decide), fun q0 hq0 => ⟨(by show 2 ≤ sizeLine; decide), fun t0 ht0 => ?_⟩⟩⟩
      have ka : Kp [] H' (upd (upd H' q0 (.lst [])) t0 (.tup [.str tk[i], .ref q0])) := (Kp.new hq0).step ht0
      have hq1 : upd (upd H' q0 (.lst [])) t0 (.tup [.str tk[i], .ref q0]) q0 = some (.lst []) := (Kp.new (l := []) ht0).at (upd_same ..) (by simp)
      have ht1 : upd (upd H' q0 (.lst [])) t0 (.tup [.str tk[i], .ref q0]) t0 = some (.tup [.str tk[i], .ref q0]) := upd_same ..
      have hqd : q0 ≠ DD := Ne.symm (ne_of_none h1 hq0)
      generalize upd (upd H' q0 (.lst [])) t0 (.tup [.str tk[i], .ref q0]) = Ha at ka hq1 ht1
      have h1a := ka.at h1 (by simp)
      have kD : Kp [DD] Ha (upd Ha DD (.lst (ts.map V.ref ++ [.ref t0]))) := Kp.put h1a (by simp)
      refine ⟨_, h1a, ?_, ts ++ [t0], ps ++ [(tk[i], q0)], ?_, ?_, ?_, ?_, ?_, (h6.trans ka).fresh hDD⟩
      · rw [List.length_map, h5.length, List.length_map, hpl]
        exact Nat.lt_of_lt_of_le hi (Nat.le_trans (show tk.length ≤ 3 by omega) (by decide))
      · rw [upd_same]; simp
      · rw [List.map_append, h2, List.take_succ, List.getElem?_eq_getElem hi]; rfl
      · rw [List.map_append]
        refine List.nodup_append.mpr ⟨h3, by simp, fun x hx y hy e => ?_⟩
        simp at hy
        subst hy
        obtain ⟨z, hz, hze⟩ := List.mem_map.mp hx
        have := (h4 z hz).1
        rw [hze, e, hq0] at this
        cases this
      · intro z hz
        rcases List.mem_append.mp hz with z1 | z1
        · obtain ⟨w1, w2, w3⟩ := h4 z z1
          exact ⟨by rw [upd_ne w3]; exact ka.at w1 (by simp), w2, w3⟩
        · rw [List.mem_singleton.mp z1]
          exact ⟨by rw [upd_ne hqd]; exact hq1, h6.free hq0 (by simp), hqd⟩
      · rw [List.map_append]
        exact (paired_imp (fun p kv z => kD.tup (ka.tup z)) h5).snoc (kD.tup ht1)
    · rintro H' ⟨ts, ps, h1, h2, h3, h4, h5, h6⟩
      rw [List.length_map, List.take_length] at h2
      refine ⟨DD, ts, ps.map convT, rfl, SqL.of h1, paired_imp (fun p kv z => SqT.of z) h5, fun pp hpp => ?_⟩
      have em : mergeK [] (ps.map convT) = ps.map convT := by
        rw [mergeK_nodup (nodup_conv (by rw [h2]; exact tnd))]; simp
      rw [em]
      have kk : Kp [] H' (upd H' pp (.dK (ps.map convT))) := Kp.new hpp
      have k5 := h6.trans kk
      have hps0 : ∀ q ∈ ps, q.2 ≠ c ∧ q.2 ≠ pn ∧ q.2 ≠ pl ∧ q.2 ≠ pt ∧ H q.2 = none := fun q hq => by
        have w2 := (h4 q hq).2.1
        refine ⟨Ne.symm (D5.ne w2).2, Ne.symm (ne_of_none hpn5 w2), Ne.symm (ne_of_none hpl5 w2), Ne.symm (ne_of_none hpt5 w2), kp5.free w2 ?_⟩
        have := D5.ne w2
        simp [Ne.symm this.1, Ne.symm this.2]
      refine ⟨⟨d, c, pn, pl, pp, pt, ps, 98⟩, _, _, _, _, _, _, _, _, _, _, _, _, _, _, _, _, rfl, rfl, rfl, rfl, rfl, h2, rfl, rfl, ?_, kp5.trans k5.up, ?_⟩
      · exact {
          deck := (D5.keep k5).less (by omega)
          names := k5.at hpn5 (by simp)
          left := k5.at hpl5 (by simp)
          pools := upd_same ..
          pool := fun q hq => ⟨[], kk.at (h4 q hq).1 (by simp), trivial⟩
          ticks := by
            show upd H' pp _ pt = some (.lst ((ps.map (·.1)).map V.str))
            rw [h2]
            exact k5.at hpt5 (by simp)
          nd := by
            have q1 := D.ne hpn0
            have q2 := D1.ne hpl0
            have q3 := D3.ne hpt0
            simp only [List.nodup_cons, List.mem_cons, List.mem_map, not_or, not_exists, not_and]
            refine ⟨⟨q1.2, q2.2, q3.2, fun x hx e => (hps0 x hx).1 e⟩, ⟨Ne.symm hpln, npt, fun x hx e => (hps0 x hx).2.1 e⟩, ⟨ne_of_none hpl3 hpt, fun x hx e => (hps0 x hx).2.2.1 e⟩, fun x hx e => (hps0 x hx).2.2.2.1 e, h3⟩
          tnd := by show (ps.map (·.1)).Nodup; rw [h2]; exact tnd
          ne := fun e => by
            have e' : ps = [] := e
            rw [e'] at h2
            have := congrArg List.length h2
            simp at this
            omega
          few := by
            have := congrArg List.length h2
            simp at this
            show ps.length ≤ 3
            omega
          small := by simp
          low := hbits
          low98 := Int.le_refl _
          plainN := spl }
      · intro p hp
        simp only [List.mem_cons, List.mem_map] at hp
        rcases hp with e | e | ⟨z, hz, e⟩
        · rw [e]; exact hpn0
        · rw [e]; exact kp1.free hpl0 dpl
        · rw [← e]; exact (hps0 z hz).2.2.2.2
  rintro σ H6 ⟨a, v6, v8, v9, v10, v11, v12, v13, v14, v15, v16, v17, v18, v19, v20, v21, v22, rfl, rfl, rfl, rfl, rfl, htk, htop, rfl, S6, kp6, hnew⟩
  have hns20 : 22 < ns.length + 1 := by
    have := congrArg List.length hns
    simp at this
    omega
  have hpech : pe ∉ a.ch := by
    obtain ⟨ve, he1, _⟩ := hbel
    have h1 : pe ≠ a.d := by
      obtain ⟨_, _, _, h1, _⟩ := D
      exact ne_of he1 h1 (fun z => by cases z)
    intro z
    simp only [Ads.ch, List.mem_cons] at z
    rcases z with z | z | z
    · exact h1 z
    · exact hpe z
    · have := hnew pe (by simpa using z)
      rw [this] at he1
      cases he1
  have hpedc : pe ∉ [a.d, a.c] := fun z => hpech (by simp only [Ads.ch, List.mem_cons]; simp at z; rcases z with z | z <;> simp [z])
  refine ⟨_, rfl, _, rfl, _, rfl, _, rfl, _, rfl, a, n + 470, ns, bits, [], rfl, S6, by omega, by simp, fun pi ie ns1 lf1 H7 hi3 hn1 S7 R7 hpi0 kp7 iok => ?_⟩
  refine ⟨_, rfl, a.pl, _, _, _, rfl, rfl, SqL.of S7.left, rfl, ?_⟩
  have hpio := S6.new hpi0
  generalize ha' : ({ a with top := lf1 } : Ads) = a'
  have ead : a'.d = a.d := by rw [← ha']
  have eac : a'.c = a.c := by rw [← ha']
  have eapn : a'.pn = a.pn := by rw [← ha']
  have eapl : a'.pl = a.pl := by rw [← ha']
  have eapt : a'.pt = a.pt := by rw [← ha']
  have eapp : a'.pp = a.pp := by rw [← ha']
  have eaps : a'.ps = a.ps := by rw [← ha']
  have each : a'.ch = a.ch := by rw [← ha']; rfl
  have eatk : a'.ticks = a.ticks := by rw [← ha']; rfl
  have S7' : Scene H7 a' (n + 470) ns1 lf1 ([] ++ ie) := by rw [← ha']; exact S7.top
  rw [List.nil_append] at S7'
  refine ⟨_, rfl, _, rfl, _, rfl, _, rfl, _, rfl, a', n + 453, ns1, lf1, ie, by rw [ead, eapn, eapt, eapp, eapl]; rfl, S7', by have := congrArg List.length hn1; simp at this; omega, by omega, fun t8 pb pc bs cs ns2 lf2 H8 hb3 hc2 hn2 S8 ht8 BL8 CR8 hpb0 hpc0 hpbc kp8 bok cok => ⟨t8, _, rfl, SqT.of ht8, rfl, _, _, rfl, _, _, rfl, rfl, ?_⟩⟩
  have hpbo := S7'.new hpb0
  have hpco := S7'.new hpc0
  have hbel8 := ((hbel.keep kp6 hpedc).keep kp7 hpech).keep kp8 (by rw [each]; exact hpech)
  have kk8 : Kp [a.d, a.c] H H8 := (kp6.inch hnew kp7).inch hnew (by rw [← each]; exact kp8)
  have R8 := R7.keep kp8 (by rw [each]; exact hpio)
  have hns2 : 14 ≤ ns2.length := by
    have h1 := congrArg List.length hn1
    have h2 := congrArg List.length hn2
    simp at h1 h2
    omega
  generalize hL1 : ie ++ (bs.map bEnt ++ cs.map cEnt) = L1 at S8 cok
  have hL1s : L1.length ≤ 8 := by rw [← hL1]; simp; omega
  refine ⟨fun σ H' => ∃ (v6 v8 v14 v15 v16 v17 v18 v19 v20 v21 v22 : Option V) (pr : Addr) (ss : List Step) (ns3 : List Str) (lf3 : Int), σ = [some (.ref a.d), some (.ref pe), some (.int bits), some (.ref a.pn), some (.ref a.pl), some (.ref a.pt), v6, some (.ref a.pp), v8, some (.ref pi), some (.int lf1), some (.ref pb), some (.ref pc), some (.ref pr), v14, v15, v16, v17, v18, v19, v20, v21, v22] ∧ ss.length ≤ 6 ∧ ns2 = ss.map Step.nm ++ ns3 ∧ Scene H' a' (n + 206) ns3 lf3 (L1 ++ ss.flatMap Step.ents) ∧ Rows H' pi (ie.map fun e => .inr e.1 e.2.1 e.2.2) ∧ BxL H' pb bs ∧ Rows H' pr (ss.map Step.row ++ cs.map cRow) ∧ Kp [a.d, a.c] H H' ∧ StepsOk a' bel L1 ss ∧ pr ∉ a.ch ∧ H8 pr = none, ?_, ?_⟩
  · refine ⟨_, rfl, _, rfl, _, rfl, _, rfl, _, rfl, _, rfl, a', pe, n + 206, ns2, lf2, L1, bel, by rw [ead, eapn, eapt, eapp, eapl]; rfl, S8, by omega, by omega, hbel8, by rw [each]; exact hpech, hb2, hfo, fun pw ss ns3 lf3 H9 hs6 hn3 S9 R9 hpw0 kp9 sok => ?_⟩
    obtain ⟨vw, hvw, avw⟩ := R9
    obtain ⟨vc, hvc, avc⟩ := CR8.keep kp9 hpco
    refine ⟨_, rfl, pw, pc, _, _, rfl, rfl, hvw, hvc, ?_, fun pr hpr => ?_⟩
    · rw [avw.length, avc.length, List.length_map, List.length_map]
      exact Nat.le_trans (show ss.length + cs.length ≤ 8 by omega) (by decide)
    · have kr : Kp [] H9 (upd H9 pr (.lst (vw ++ vc))) := Kp.new hpr
      have hpro := S9.new hpr
      refine ⟨_, _, _, _, _, _, _, _, _, _, _, pr, ss, ns3, lf3, rfl, hs6, hn3, S9.keep0 kr, (R8.keep kp9 (by rw [each]; exact hpio)).keep kr (by simp), (BL8.keep kp9 hpbo).keep kr (by simp), Rows.cat avw avc hpr, (kk8.inch hnew (by rw [← each]; exact kp9)).trans kr.up, sok, by rw [← each]; exact hpro, kp9.free hpr hpro⟩
  rintro σ H9 ⟨v6, v8, v14, v15, v16, v17, v18, v19, v20, v21, v22, pr, ss, ns3, lf3, rfl, hs6, hn3, S9, R9, BL9, RR9, kp9, sok, hpro, hpr8⟩
  subst ha'
  have hpipr : pi ≠ pr := by obtain ⟨_, h1, _⟩ := R8; exact ne_of_none h1 hpr8
  have hpbpr : pb ≠ pr := by obtain ⟨_, h1, _⟩ := BL8; exact ne_of_none h1 hpr8
  have hprdc : pr ∉ [a.d, a.c] := fun z => hpro (by simp only [Ads.ch, List.mem_cons]; simp at z; rcases z with z | z <;> simp [z])
  have hprH : H pr = none := kk8.free hpr8 hprdc
  have hprt : pr ≠ a.pt := fun e => by have h1 := S8.ticks; rw [show (({ a with top := lf1 } : Ads)).pt = a.pt from rfl, ← e, hpr8] at h1; cases h1
  generalize hL2 : L1 ++ ss.flatMap Step.ents = L2 at S9
  have hL2s : L2.length ≤ 300 := S9.small
  -- the boxes' expressions
  refine ⟨fun σ H' => ∃ (v6 v8 v14 v15 v16 v17 v18 v19 v20 v21 v22 : Option V) (bx : List (Bx × Ex)), σ = [some (.ref a.d), some (.ref pe), some (.int bits), some (.ref a.pn), some (.ref a.pl), some (.ref a.pt), v6, some (.ref a.pp), v8, some (.ref pi), some (.int lf1), some (.ref pb), some (.ref pc), some (.ref pr), v14, v15, v16, v17, v18, v19, v20, v21, v22] ∧ bx.map (·.1) = bs ∧ Scene H' ({ a with top := lf1 } : Ads) (n + 89) ns3 lf3 L2 ∧ Rows H' pi (ie.map fun e => .inr e.1 e.2.1 e.2.2) ∧ Rows H' pr ((ss.map Step.row ++ cs.map cRow) ++ bx.map bRow) ∧ Kp [a.d, a.c] H H' ∧ (∀ b ∈ bx, Ty (InPool (poolOf L2 b.1.2.2.1)) b.2 b.1.2.1 ∧ b.2.depth ≤ 3), ?_, ?_⟩
  · obtain ⟨vb, hvb, avb⟩ := BL9
    refine ⟨_, rfl, pb, rfl, ⟨_, SqL.of hvb⟩, ?_⟩
    refine for_list (xs := vb) (fun i σ H' => ∃ (v6 v8 v14 v15 v16 v17 v18 v19 v20 v21 v22 : Option V) (bx : List (Bx × Ex)), σ = [some (.ref a.d), some (.ref pe), some (.int bits), some (.ref a.pn), some (.ref a.pl), some (.ref a.pt), v6, some (.ref a.pp), v8, some (.ref pi), some (.int lf1), some (.ref pb), some (.ref pc), some (.ref pr), v14, v15, v16, v17, v18, v19, v20, v21, v22] ∧ bx.map (·.1) = bs.take i ∧ Scene H' ({ a with top := lf1 } : Ads) (n + 89 + 39 * (3 - i)) ns3 lf3 L2 ∧ Rows H' pi (ie.map fun e => .inr e.1 e.2.1 e.2.2) ∧ Rows H' pr ((ss.map Step.row ++ cs.map cRow) ++ bx.map bRow) ∧ Kp [a.d, a.c] H H' ∧ (∀ b ∈ bx, Ty (InPool (poolOf L2 b.1.2.2.1)) b.2 b.1.2.1 ∧ b.2.depth ≤ 3) ∧ H' pb = some (.lst vb) ∧ Kp (pr :: a.ch) H9 H')
      ⟨_, _, _, _, _, _, _, _, _, _, _, [], rfl, rfl, S9.less (by omega), R9, by simpa using RR9, kp9, by simp, hvb, Kp.refl _ _⟩ (fun i σ H' _ ⟨_, _, _, _, _, _, _, _, _, _, _, _, _, _, _, _, _, _, _, hb, _⟩ => SqL.of hb) ?_ ?_
    · rintro i v σ Ha hv ⟨v6, v8, v14, v15, v16, v17, v18, v19, v20, v21, v22, bx, rfl, hbx, Sa, Ra, RRa, kpa, tya, hba, kka⟩
      obtain ⟨⟨x, w, t, k⟩, hbi, ta, rfl, hta⟩ := avb.get hv
      have hi3 : i < 3 := by
        have := (List.getElem?_eq_some_iff.mp hbi).1
        omega
      obtain ⟨w1, w2, w3, w4⟩ := bok _ (List.mem_of_getElem? hbi)
      simp only at w1 w2 w3 w4
      obtain ⟨q, hq, hqv⟩ := Sa.get w3
      obtain ⟨vr, hvr, avr⟩ := RRa
      refine ⟨ta, _, rfl, SqT.of (kka.tup hta), rfl, _, _, rfl, _, _, rfl, _, _, rfl, _, _, rfl, rfl, ?_⟩
      refine ⟨_, rfl, .inl ⟨rfl, _, SqL.of hvr⟩, _, rfl, _, rfl, _, rfl, _, rfl, _, rfl, _, rfl, _, rfl, a.pp, .ref q, rfl, Sa.getD hqv, _, rfl, ?_⟩
      refine ⟨by decide, a.d, a.c, q, n + 89 + 39 * (3 - (i + 1)), w, _, _, poolOf L2 t, rfl, rfl, rfl, Deck.less Sa.deck (by show _ + 39 ≤ _; omega), Sa.pool _ hq, (Sa.pool_ne hq).1, Nat.le_trans (poolOf_len _ _) (by omega), w1, by decide, by omega, fun ve e Hb x1 x2 x3 kqb Db => ⟨(by show 6 ≤ sizeLine; decide), fun tp htp => ?_⟩⟩
      have Sb := Sa.drawn (m := n + 89 + 39 * (3 - (i + 1))) kqb Db
      have kqb' : Kp a.ch Ha Hb := kqb.dc (a := a)
      generalize hHc : upd Hb tp _ = Hc
      have kbc : Kp [] Hb Hc := by rw [← hHc]; exact Kp.new htp
      have htpc : Hc tp = some (.tup [.str "box", .str x, .int (w : Int), .str t, .int (k : Int), ve]) := by rw [← hHc]; exact upd_same ..
      clear hHc
      have kac : Kp a.ch Ha Hc := kqb'.trans kbc.up
      have Sc := Sb.keep0 kbc
      have hvrc := kac.at hvr hpro
      refine ⟨pr, _, _, rfl, rfl, hvrc, ?_, ?_⟩
      · rw [avr.length]
        simp only [List.length_append, List.length_map]
        have := congrArg List.length hbx
        simp at this
        exact Nat.lt_of_le_of_lt (show ss.length + cs.length + bx.length ≤ 20 by omega) (by decide)
      · have kd : Kp [pr] Hc (upd Hc pr (.lst (vr ++ [.ref tp]))) := Kp.put hvrc (by simp)
        have kpr : Kp (pr :: a.ch) Ha (upd Hc pr (.lst (vr ++ [.ref tp]))) := (kac.mono (by simp +contextual)).trans (kd.mono (by simp))
        refine ⟨_, _, _, _, _, _, _, _, _, _, _, bx ++ [((x, w, t, k), e)], rfl, ?_, Sc.own hvrc hpro hprt, (Ra.keep kac hpio).keep kd (by simp [hpipr]), ?_, ?_, ?_, ?_, kka.trans kpr⟩
        · rw [List.map_append, hbx, List.take_succ, hbi]; rfl
        · refine ⟨_, upd_same .., ?_⟩
          rw [List.map_append, ← List.append_assoc]
          exact ((avr.imp fun _ _ q => q.keep kac).imp fun _ _ q => q.keep kd).snoc (show IsRow _ (.ref tp) (.box x w t k e) from ⟨tp, ve, rfl, kd.tup htpc, (x1.keep kbc).keep kd⟩)
        · exact (kpa.inch hnew kac).fresh hprH
        · intro b hb
          rcases List.mem_append.mp hb with z | z
          · exact tya b z
          · rw [List.mem_singleton.mp z]
            exact ⟨x2, x3⟩
        · rw [upd_ne hpbpr]
          exact kac.at hba (by exact hpbo)
    · rintro σ Ha ⟨v6, v8, v14, v15, v16, v17, v18, v19, v20, v21, v22, bx, rfl, hbx, Sa, Ra, RRa, kpa, tya, hba, kka⟩
      rw [avb.length, List.take_length] at hbx
      exact ⟨_, _, _, _, _, _, _, _, _, _, _, bx, rfl, hbx, Sa.less (by omega), Ra, RRa, kpa, tya⟩
  rintro σ Ha ⟨v6, v8, v14, v15, v16, v17, v18, v19, v20, v21, v22, bx, rfl, hbx, Sa, Ra, RRa, kpa, tya⟩
  -- the outs
  have hns3 : 8 ≤ ns3.length := by
    have := congrArg List.length hn3
    simp at this
    omega
  generalize hinn : (ss.map Step.row ++ cs.map cRow) ++ bx.map bRow = inner at RRa
  have hinl : inner.length ≤ 20 := by
    rw [← hinn]
    simp only [List.length_append, List.length_map]
    have := congrArg List.length hbx
    simp at this
    omega
  refine ⟨(by show 0 ≤ sizeLine; decide), fun po hpo => ?_⟩
  have hpoo := Sa.new hpo
  have hpoo' : po ∉ a.ch := hpoo
  have hpot : po ≠ a.pt := fun e => by have h1 := Sa.ticks; rw [show (({ a with top := lf1 } : Ads)).pt = a.pt from rfl, ← e, hpo] at h1; cases h1
  have hpodc : po ∉ [a.d, a.c] := fun z => hpoo' (by simp only [Ads.ch, List.mem_cons]; simp at z; rcases z with z | z <;> simp [z])
  have hpipo : pi ≠ po := by obtain ⟨_, h1, _⟩ := Ra; exact ne_of_none h1 hpo
  have hprpo : pr ≠ po := by obtain ⟨_, h1, _⟩ := RRa; exact ne_of_none h1 hpo
  have hpoH : H po = none := kpa.free hpo hpodc
  have kpo : Kp [] Ha (upd Ha po (.lst [])) := Kp.new hpo
  have hpo1 : upd Ha po (.lst []) po = some (.lst []) := upd_same ..
  generalize upd Ha po (.lst []) = Hb at kpo hpo1
  refine ⟨fun σ H' => ∃ (v6 v8 v14 v15 v16 v18 v19 v20 v21 v22 : Option V) (os : List Out) (ns4 : List Str), σ = [some (.ref a.d), some (.ref pe), some (.int bits), some (.ref a.pn), some (.ref a.pl), some (.ref a.pt), v6, some (.ref a.pp), v8, some (.ref pi), some (.int lf1), some (.ref pb), some (.ref pc), some (.ref pr), v14, v15, v16, some (.ref po), v18, v19, v20, v21, v22] ∧ 1 ≤ os.length ∧ os.length ≤ 2 ∧ ns3 = os.map (·.1) ++ ns4 ∧ Scene H' ({ a with top := lf1 } : Ads) (n + 6) ns4 lf3 L2 ∧ Rows H' pi (ie.map fun e => .inr e.1 e.2.1 e.2.2) ∧ Rows H' pr inner ∧ Rows H' po (os.map oRow) ∧ Kp [a.d, a.c] H H' ∧ (∀ o ∈ os, OutOk ({ a with top := lf1 } : Ads) L2 o), ?_, ?_⟩
  · refine ⟨_, rfl, a.d, a.c, 2, n + 88, rfl, Deck.keep Sa.deck kpo, by decide, by decide, fun r Hc hr kqc Dc => ⟨_, _, rfl, rfl, (1 + (r : Int)), rfl, by omega, by omega, ?_⟩⟩
    rw [show (1 + (r : Int)).toNat = 1 + r by omega]
    have Sc := (Sa.keep0 kpo).drawn kqc Dc
    have kac : Kp a.ch Ha Hc := kpo.up.trans (kqc.dc (a := a))
    refine for_range (n := 1 + r) (fun i σ H' => ∃ (v6 v8 v14 v15 v16 v18 v19 v20 v21 v22 : Option V) (os : List Out) (ns4 : List Str), σ = [some (.ref a.d), some (.ref pe), some (.int bits), some (.ref a.pn), some (.ref a.pl), some (.ref a.pt), v6, some (.ref a.pp), v8, some (.ref pi), some (.int lf1), some (.ref pb), some (.ref pc), some (.ref pr), v14, v15, v16, some (.ref po), v18, v19, v20, v21, v22] ∧ os.length = i ∧ ns3 = os.map (·.1) ++ ns4 ∧ Scene H' ({ a with top := lf1 } : Ads) (n + 6 + 41 * (2 - i)) ns4 lf3 L2 ∧ Rows H' pi (ie.map fun e => .inr e.1 e.2.1 e.2.2) ∧ Rows H' pr inner ∧ Rows H' po (os.map oRow) ∧ Kp [a.d, a.c] H H' ∧ (∀ o ∈ os, OutOk ({ a with top := lf1 } : Ads) L2 o))
      ⟨_, _, _, _, _, _, _, _, _, _, [], ns3, rfl, rfl, rfl, Sc.less (by omega), Ra.keep kac hpio, RRa.keep kac hpro, ⟨[], kqc.at hpo1 hpodc, trivial⟩, kpa.inch hnew kac, by simp⟩ ?_ ?_
    · rintro i σ Hd hi ⟨v6, v8, v14, v15, v16, v18, v19, v20, v21, v22, os, ns4, rfl, hos, hn4, Sd, Rd, RRd, Od, kpd, oko⟩
      cases ns4 with
      | nil =>
        have := congrArg List.length hn4
        simp at this
        omega
      | cons x ns4 =>
      have Sd' := Sd.less (m := n + 6 + 41 * (2 - (i + 1)) + 39 + 1 + 1) (by omega)
      refine ⟨_, rfl, a.d, a.c, 3, _, rfl, Sd'.deck, by decide, by decide, fun b He hb kqe De => ⟨_, _, rfl, rfl, ?_⟩⟩
      have Se := Sd'.drawn kqe De
      refine ⟨_, rfl, _, rfl, a.d, a.c, a.pt, _, _, rfl, Se.deck, Se.ticks, Se.pt_c, Se.tk_ne, Se.tk_len, fun it xt Hf hxt kqf Df => ⟨_, _, rfl, ?_⟩⟩
      obtain ⟨t, ht, rfl⟩ := tk_get hxt
      have Sf := Se.drawn kqf Df
      have kdf : Kp a.ch Hd Hf := (kqe.dc (a := a)).trans (kqf.dc (a := a))
      obtain ⟨vo, hvo, avo⟩ := Od.keep kdf hpoo'
      refine ⟨_, rfl, .inl ⟨rfl, _, SqL.of hvo⟩, _, rfl, .inl ⟨rfl, _, SqL.of Sf.names⟩, a.pn, _, 0, 0, .str x, rfl, rfl, Sf.names, by decide, by decide, seq0 x ns4, rfl, ?_⟩
      generalize hHg : upd Hf a.pn _ = Hg
      have Sg : Scene Hg ({ a with top := lf1 } : Ads) (n + 6 + 41 * (2 - (i + 1)) + 39) ns4 lf3 L2 := by rw [← hHg]; exact Sf.pop
      have kfg : Kp a.ch Hf Hg := by rw [← hHg]; exact Kp.pn Sf (by simp [Ads.ch])
      clear hHg
      obtain ⟨q, hq, hqv⟩ := Sg.get ht
      have e1 : (1 + (b : Int)) = ((1 + b : Nat) : Int) := by push_cast; rfl
      refine ⟨_, rfl, _, rfl, _, rfl, _, rfl, _, rfl, a.pp, .ref q, rfl, Sg.getD hqv, _, rfl, ?_⟩
      refine ⟨by decide, a.d, a.c, q, n + 6 + 41 * (2 - (i + 1)), 1 + b, _, _, poolOf L2 t, rfl, by push_cast; rfl, rfl, Sg.deck, Sg.pool _ hq, (Sg.pool_ne hq).1, Nat.le_trans (poolOf_len _ _) (by omega), by omega, by decide, by omega, fun ve e Hh x1 x2 x3 kqh Dh => ⟨(by show 5 ≤ sizeLine; decide), fun tp htp => ?_⟩⟩
      have Sh := Sg.drawn kqh Dh
      generalize hHi : upd Hh tp _ = Hi
      have khi : Kp [] Hh Hi := by rw [← hHi]; exact Kp.new htp
      have htpi : Hi tp = some (.tup [.str "out", .str x, .int (1 + (b : Int)), .str t, ve]) := by rw [← hHi]; exact upd_same ..
      clear hHi
      have kfi : Kp a.ch Hf Hi := (kfg.trans (kqh.dc (a := a))).trans khi.up
      have Si := Sh.keep0 khi
      have hvoi := kfi.at hvo hpoo'
      refine ⟨po, _, _, rfl, rfl, hvoi, ?_, ?_⟩
      · rw [avo.length, List.length_map]
        exact Nat.lt_of_le_of_lt (show os.length ≤ 2 by omega) (by decide)
      · have kj : Kp [po] Hi (upd Hi po (.lst (vo ++ [.ref tp]))) := Kp.put hvoi (by simp)
        have kdi := kdf.trans kfi
        refine ⟨_, _, _, _, _, _, _, _, _, _, os ++ [(x, 1 + b, t, e)], ns4, rfl, by simp [hos], by rw [hn4]; simp, Si.own hvoi hpoo hpot, (Rd.keep kdi hpio).keep kj (by simp [hpipo]), (RRd.keep kdi hpro).keep kj (by simp [hprpo]), ?_, (kpd.inch hnew kdi).fresh hpoH, ?_⟩
        · refine ⟨_, upd_same .., ?_⟩
          rw [List.map_append]
          exact ((avo.imp fun _ _ q => q.keep kfi).imp fun _ _ q => q.keep kj).snoc (show IsRow _ (.ref tp) (.out x (1 + b) t e) from ⟨tp, ve, rfl, kj.tup (by rw [← e1]; exact htpi), (x1.keep khi).keep kj⟩)
        · intro o ho
          rcases List.mem_append.mp ho with z | z
          · exact oko o z
          · rw [List.mem_singleton.mp z]
            exact ⟨by show 1 ≤ 1 + b; omega, by show 1 + b ≤ 4; omega, ht, x2, x3⟩
    · rintro σ Hd ⟨v6, v8, v14, v15, v16, v18, v19, v20, v21, v22, os, ns4, rfl, hos, hn4, Sd, Rd, RRd, Od, kpd, oko⟩
      exact ⟨_, _, _, _, _, _, _, _, _, _, os, ns4, rfl, by omega, by omega, hn4, Sd.less (by omega), Rd, RRd, Od, kpd, oko⟩
  rintro σ Hc ⟨v6, v8, v14, v15, v16, v18, v19, v20, v21, v22, os, ns4, rfl, ho1, ho2, hn4, Sc, Rc, RRc, Oc, kpc, oko⟩
  obtain ⟨vi, hvi, avi⟩ := Rc
  obtain ⟨vr, hvr, avr⟩ := RRc
  obtain ⟨vo, hvo, avo⟩ := Oc
  have evr : vr.length = inner.length := avr.length
  refine ⟨_, rfl, _, rfl, pr, _, rfl, .inl (SqL.of hvr), _, _, rfl, rfl, a.d, a.c, vr.length + 1, n + 5, by push_cast; rfl, Sc.deck, by omega, by omega, fun at_ Hd hat kqd Dd => ?_⟩
  have Sd := Sc.drawn kqd Dd
  have kcd : Kp a.ch Hc Hd := kqd.dc (a := a)
  have hvrd := kcd.at hvr hpro
  have hvod := kcd.at hvo hpoo'
  have avrd := avr.imp fun _ _ q => q.keep kcd
  have avod := avo.imp fun _ _ q => q.keep kcd
  have Rd := (show Rows Hc pi _ from ⟨vi, hvi, avi⟩).keep kcd hpio
  have Od := (show Rows Hc po _ from ⟨vo, hvo, avo⟩).keep kcd hpoo'
  have kpd := kpc.inch hnew kcd
  have hat' : at_ ≤ vr.length := by omega
  -- the rows turned
  refine ⟨fun σ H' => ∃ (v6 v8 v14 v15 v16 v18 v19 v20 v21 v22 : Option V) (pR : Addr), σ = [some (.ref a.d), some (.ref pe), some (.int bits), some (.ref a.pn), some (.ref a.pl), some (.ref a.pt), v6, some (.ref a.pp), v8, some (.ref pi), some (.int lf1), some (.ref pb), some (.ref pc), some (.ref pR), v14, v15, v16, some (.ref po), v18, v19, v20, v21, v22] ∧ Scene H' ({ a with top := lf1 } : Ads) (n + 5) ns4 lf3 L2 ∧ Rows H' pi (ie.map fun e => .inr e.1 e.2.1 e.2.2) ∧ Rows H' po (os.map oRow) ∧ Rows H' pR (((inner.drop at_ ++ (os.map oRow).take 1) ++ inner.take at_) ++ (os.map oRow).drop 1) ∧ Kp [a.d, a.c] H H', ?_, ?_⟩
  · refine ⟨_, rfl, _, rfl, _, rfl, pr, vr, rfl, SqL.of hvrd, fun p1 hp1 => ?_⟩
    rw [cutV_lo hat']
    have k1 : Kp [] Hd (upd Hd p1 (.lst (vr.drop at_))) := Kp.new hp1
    have g1 : upd Hd p1 (.lst (vr.drop at_)) p1 = some (.lst (vr.drop at_)) := upd_same ..
    generalize upd Hd p1 (.lst (vr.drop at_)) = H1 at k1 g1
    refine ⟨_, rfl, _, rfl, po, vo, rfl, SqL.of (k1.at hvod (by simp)), fun p2 hp2 => ?_⟩
    rw [show cutV vo none (some 1) = vo.take 1 from cutV_hi (k := 1)]
    have k2 : Kp [] H1 (upd H1 p2 (.lst (vo.take 1))) := Kp.new hp2
    have g2 : upd H1 p2 (.lst (vo.take 1)) p2 = some (.lst (vo.take 1)) := upd_same ..
    generalize upd H1 p2 (.lst (vo.take 1)) = H2' at k2 g2
    refine ⟨p1, p2, _, _, rfl, rfl, k2.at g1 (by simp), g2, ?_, fun p3 hp3 => ?_⟩
    · rw [List.length_drop, List.length_take]
      exact Nat.le_trans (show _ ≤ 40 by omega) (by decide)
    have k3 : Kp [] H2' (upd H2' p3 (.lst (vr.drop at_ ++ vo.take 1))) := Kp.new hp3
    have g3 : upd H2' p3 (.lst (vr.drop at_ ++ vo.take 1)) p3 = some (.lst (vr.drop at_ ++ vo.take 1)) := upd_same ..
    generalize upd H2' p3 (.lst (vr.drop at_ ++ vo.take 1)) = H3' at k3 g3
    have k13 := (k1.trans k2).trans k3
    refine ⟨_, rfl, _, rfl, _, rfl, pr, vr, rfl, SqL.of (k13.at hvrd (by simp)), fun p4 hp4 => ?_⟩
    rw [cutV_hi]
    have k4 : Kp [] H3' (upd H3' p4 (.lst (vr.take at_))) := Kp.new hp4
    have g4 : upd H3' p4 (.lst (vr.take at_)) p4 = some (.lst (vr.take at_)) := upd_same ..
    generalize upd H3' p4 (.lst (vr.take at_)) = H4' at k4 g4
    refine ⟨p3, p4, _, _, rfl, rfl, k4.at g3 (by simp), g4, ?_, fun p5 hp5 => ?_⟩
    · rw [List.length_append, List.length_drop, List.length_take, List.length_take]
      exact Nat.le_trans (show _ ≤ 80 by omega) (by decide)
    have k5 : Kp [] H4' (upd H4' p5 (.lst ((vr.drop at_ ++ vo.take 1) ++ vr.take at_))) := Kp.new hp5
    have g5 : upd H4' p5 (.lst ((vr.drop at_ ++ vo.take 1) ++ vr.take at_)) p5 = some (.lst ((vr.drop at_ ++ vo.take 1) ++ vr.take at_)) := upd_same ..
    generalize upd H4' p5 (.lst ((vr.drop at_ ++ vo.take 1) ++ vr.take at_)) = H5' at k5 g5
    have k15 := (k13.trans k4).trans k5
    have evo : vo.length = os.length := by rw [avo.length, List.length_map]
    refine ⟨_, rfl, _, rfl, po, vo, rfl, SqL.of (k15.at hvod (by simp)), fun p6 hp6 => ?_⟩
    rw [show cutV vo (some 1) none = vo.drop 1 from cutV_lo (k := 1) (by omega)]
    have k6 : Kp [] H5' (upd H5' p6 (.lst (vo.drop 1))) := Kp.new hp6
    have g6 : upd H5' p6 (.lst (vo.drop 1)) p6 = some (.lst (vo.drop 1)) := upd_same ..
    generalize upd H5' p6 (.lst (vo.drop 1)) = H6' at k6 g6
    refine ⟨p5, p6, _, _, rfl, rfl, k6.at g5 (by simp), g6, ?_, fun p7 hp7 => ?_⟩
    · simp only [List.length_append, List.length_drop, List.length_take]
      exact Nat.le_trans (show _ ≤ 100 by omega) (by decide)
    have k7 : Kp [] H6' (upd H6' p7 (.lst (((vr.drop at_ ++ vo.take 1) ++ vr.take at_) ++ vo.drop 1))) := Kp.new hp7
    have k16 := k15.trans k6
    have k17 := k16.trans k7
    have cr := Rows.cat (p := p7) (((AllV.append (avrd.drop at_) (avod.take 1)).append (avrd.take at_)).imp fun _ _ q => q.keep k16) ((avod.drop 1).imp fun _ _ q => q.keep k16) hp7
    exact ⟨_, _, _, _, _, _, _, _, _, _, p7, rfl, Sd.keep0 k17, Rd.keep k17 (by simp), Od.keep k17 (by simp), cr, kpd.trans k17.up⟩
  rintro σ He ⟨v6, v8, v14, v15, v16, v18, v19, v20, v21, v22, pR, rfl, Se, Re, Oe, RRe, kpe⟩
  have hrl : (((inner.drop at_ ++ (os.map oRow).take 1) ++ inner.take at_) ++ (os.map oRow).drop 1).length ≤ 30 := by
    simp only [List.length_append, List.length_drop, List.length_take, List.length_map]
    omega
  -- the sides
  have nin : ∀ e ∈ ie, e.2.2 ∈ a.ticks := fun e he => (iok e he).2.2
  have non : ∀ o ∈ os.map (fun o : Out => ((o.1, o.2.1, o.2.2.1) : Nwc)), o.2.2 ∈ a.ticks := fun o ho => by
    obtain ⟨z, hz, rfl⟩ := List.mem_map.mp ho
    exact (oko z hz).2.2.1
  refine ⟨fun σ H' => ∃ (v6 v8 v14 v15 v16 v18 v20 v21 v22 : Option V) (pS : Addr) (sd : List V), σ = [some (.ref a.d), some (.ref pe), some (.int bits), some (.ref a.pn), some (.ref a.pl), some (.ref a.pt), v6, some (.ref a.pp), v8, some (.ref pi), some (.int lf1), some (.ref pb), some (.ref pc), some (.ref pR), v14, v15, v16, some (.ref po), v18, some (.ref pS), v20, v21, v22] ∧ Kp [] He H' ∧ H' pS = some (.lst sd) ∧ AllV (IsSide H' a.ticks) sd [ie, os.map fun o => (o.1, o.2.1, o.2.2.1)], ?_, ?_⟩
  · refine ⟨_, rfl, _, rfl, (by show 2 ≤ sizeLine; decide), fun tt htt => ⟨tt, rfl, ⟨_, SqT.of (upd_same ..)⟩, fun DS hDS => ?_⟩⟩
    have kt : Kp [] He (upd He tt (.tup [.ref pi, .ref po])) := Kp.new htt
    have htt' : upd He tt (.tup [.ref pi, .ref po]) tt = some (.tup [.ref pi, .ref po]) := upd_same ..
    generalize upd He tt (.tup [.ref pi, .ref po]) = Hf at kt htt' hDS
    have src : AllV (fun v tr => ∃ p ws, v = .ref p ∧ Hf p = some (.lst ws) ∧ AllV (IsNwc Hf) ws tr ∧ tr.length ≤ 3 ∧ ∀ y ∈ tr, y.2.2 ∈ a.ticks) [V.ref pi, .ref po] [ie, os.map fun o => (o.1, o.2.1, o.2.2.1)] := by
      obtain ⟨wi, hwi, awi⟩ := Re.keep kt (by simp)
      obtain ⟨wo, hwo, awo⟩ := Oe.keep kt (by simp)
      exact ⟨⟨pi, wi, rfl, hwi, nwc_ins awi, hi3, nin⟩, ⟨po, wo, rfl, hwo, nwc_outs awo, by rw [List.length_map]; omega, non⟩, trivial⟩
    have hptf : Hf a.pt = some (.lst (a.ticks.map V.str)) := kt.at Se.ticks (by simp)
    refine lc_tup (xs := [.ref pi, .ref po]) (fun i H' => ∃ acc, H' DS = some (.lst acc) ∧ AllV (fun v tr => IsSide H' a.ticks v tr ∧ v ≠ .ref DS) acc (([ie, os.map fun o => (o.1, o.2.1, o.2.2.1)] : List (List Nwc)).take i) ∧ Kp [] Hf H') ⟨[], upd_same .., trivial, Kp.new hDS⟩ (fun i H' _ ⟨_, _, _, kk⟩ => SqT.of (kk.tup htt')) ?_ ?_
    · rintro i v H' hv ⟨acc, hacc, aacc, kk⟩
      obtain ⟨tr, htr, p, ws, rfl, hp, aws, htl, htk3⟩ := src.get hv
      have hi2 : i < 2 := by
        have := (List.getElem?_eq_some_iff.mp hv).1
        simpa using this
      have hp' := kk.at hp (by simp)
      have aws' := aws.imp fun _ _ q => q.keep kk
      have hpt' := kk.at hptf (by simp)
      refine ⟨rfl, yesT ⟨_, rfl, p, rfl, ⟨_, SqL.of hp'⟩, fun D2 hD2 => ?_⟩⟩
      have hDS2 : DS ≠ D2 := ne_of_none hacc hD2
      refine lc_list (xs := ws) (fun m H2 => ∃ us, H2 D2 = some (.lst us) ∧ AllV (IsTri H2) us ((tr.take m).map (conv3 a.ticks)) ∧ Kp [] H' H2) ⟨[], upd_same .., trivial, Kp.new hD2⟩ (fun m H2 _ ⟨_, _, _, kk2⟩ => SqL.of (kk2.at hp' (by simp))) ?_ ?_
      · rintro m u H2 hu ⟨us, hus, aus, kk2⟩
        obtain ⟨⟨x, w, c⟩, hy, ta, r0, rest, rfl, hta⟩ := aws'.get hu
        have hta2 := kk2.tup hta
        have hcm := htk3 _ (List.mem_of_getElem? hy)
        obtain ⟨f1, f2⟩ := idx_str hcm
        have hm : m < 3 := by
          have h1 := (List.getElem?_eq_some_iff.mp hy).1
          omega
        refine ⟨rfl, yesT ⟨_, rfl, ta, _, _, .str x, rfl, rfl, SqT.of hta2, atI_nat (j := 1) rfl, _, rfl, ta, _, _, .int (w : Int), rfl, rfl, SqT.of hta2, atI_nat (j := 2) rfl, _, rfl, .inl ⟨rfl, _, SqL.of (kk2.at hpt' (by simp))⟩, _, rfl, ta, _, _, .str c, rfl, rfl, SqT.of hta2, atI_nat (j := 3) rfl, ?_⟩⟩
        refine ⟨a.pt, _, .str c, a.ticks.idxOf c, .str c, rfl, rfl, SqL.of (kk2.at hpt' (by simp)), rfl, ?_, f1, ?_, f2, (by show 3 ≤ sizeLine; decide), fun t3 ht3 => ?_⟩
        · rw [List.all_eq_true]
          intro z hz
          obtain ⟨z1, _, rfl⟩ := List.mem_map.mp hz
          rfl
        · exact decide_eq_true rfl
        have k3 : Kp [] H2 (upd H2 t3 (.tup [.str x, .int (w : Int), .int ((a.ticks.idxOf c : Nat) : Int)])) := Kp.new ht3
        have ht3' : upd H2 t3 (.tup [.str x, .int (w : Int), .int ((a.ticks.idxOf c : Nat) : Int)]) t3 = some (.tup [.str x, .int (w : Int), .int ((a.ticks.idxOf c : Nat) : Int)]) := upd_same ..
        have hus3 := k3.at hus (by simp)
        have kD : Kp [D2] (upd H2 t3 (.tup [.str x, .int (w : Int), .int ((a.ticks.idxOf c : Nat) : Int)])) (upd (upd H2 t3 (.tup [.str x, .int (w : Int), .int ((a.ticks.idxOf c : Nat) : Int)])) D2 (.lst (us ++ [.ref t3]))) := Kp.put hus3 (by simp)
        refine ⟨us, hus3, ?_, us ++ [.ref t3], upd_same .., ?_, (kk2.trans k3).fresh hD2⟩
        · rw [aus.length, List.length_map, List.length_take]
          exact Nat.lt_of_le_of_lt (show _ ≤ 3 by omega) (by decide)
        · have et : tr.take (m + 1) = tr.take m ++ [(x, w, c)] := by rw [List.take_succ, hy]; rfl
          rw [et, List.map_append]
          exact ((aus.imp fun _ _ q => q.keep k3).imp fun _ _ q => q.keep kD).snoc (show IsTri _ (.ref t3) (x, w, a.ticks.idxOf c) from ⟨t3, rfl, kD.tup ht3'⟩)
      · rintro H2 ⟨us, hus, aus, kk2⟩
        rw [aws'.length, List.take_length] at aus
        have hacc2 := kk2.at hacc (by simp)
        have kD : Kp [DS] H2 (upd H2 DS (.lst (acc ++ [.ref D2]))) := Kp.put hacc2 (by simp)
        refine ⟨acc, hacc2, ?_, acc ++ [.ref D2], upd_same .., ?_, (kk.trans kk2).fresh hDS⟩
        · rw [aacc.length, List.length_take]
          exact Nat.lt_of_le_of_lt (show _ ≤ 3 by omega) (by decide)
        · have et : ([ie, os.map fun o => (o.1, o.2.1, o.2.2.1)] : List (List Nwc)).take (i + 1) = ([ie, os.map fun o => (o.1, o.2.1, o.2.2.1)] : List (List Nwc)).take i ++ [tr] := by rw [List.take_succ, htr]; rfl
          rw [et]
          refine AllV.snoc (aacc.imp fun v tr' zz => ?_) ⟨⟨D2, us, rfl, by rw [upd_ne (Ne.symm hDS2)]; exact hus, aus.imp fun _ _ q => q.keep kD⟩, fun e => hDS2 (V.ref.inj e).symm⟩
          obtain ⟨z, zn⟩ := zz
          obtain ⟨q, us', z1, z2, z3⟩ := z.keep kk2
          refine ⟨⟨q, us', z1, ?_, z3.imp fun _ _ y => y.keep kD⟩, zn⟩
          rw [upd_ne (fun e => zn (by rw [z1, e]))]
          exact z2
    · rintro H' ⟨acc, hacc, aacc, kk⟩
      exact ⟨_, _, _, _, _, _, _, _, _, DS, acc, rfl, kt.trans kk, hacc, aacc.imp fun _ _ z => z.1⟩
  rintro σ Hf ⟨v6, v8, v14, v15, v16, v18, v20, v21, v22, pS, sd, rfl, kef, hsd, asd⟩
  obtain ⟨v0, v1, rfl, ⟨q0, us0, rfl, hq0, aq0⟩, ⟨q1, us1, rfl, hq1, aq1⟩⟩ : ∃ v0 v1, sd = [v0, v1] ∧ IsSide Hf a.ticks v0 ie ∧ IsSide Hf a.ticks v1 (os.map fun o => (o.1, o.2.1, o.2.2.1)) := by
    match sd, asd with
    | [x, y], h => exact ⟨x, y, rfl, h.1, h.2.1⟩
  have hptf : Hf a.pt = some (.lst (a.ticks.map V.str)) := kef.at Se.ticks (by simp)
  have htk3 : a.ticks.length ≤ 3 := by
    show (a.ps.map (·.1)).length ≤ 3
    rw [List.length_map]
    exact Se.few
  -- the face
  refine ⟨_, rfl, a.pt, _, rfl, .inl ⟨SqL.of hptf, fun t1 ht1 => ?_⟩⟩
  have k1 : Kp [] Hf (upd Hf t1 (.tup (a.ticks.map V.str))) := Kp.new ht1
  have g1 : upd Hf t1 (.tup (a.ticks.map V.str)) t1 = some (.tup (a.ticks.map V.str)) := upd_same ..
  generalize upd Hf t1 (.tup (a.ticks.map V.str)) = H1 at k1 g1
  refine ⟨_, rfl, pS, _, _, .ref q0, rfl, rfl, SqL.of (k1.at hsd (by simp)), rfl, q0, us0, rfl, .inl ⟨SqL.of (k1.at hq0 (by simp)), fun t2 ht2 => ?_⟩⟩
  have k2 : Kp [] H1 (upd H1 t2 (.tup us0)) := Kp.new ht2
  have g2 : upd H1 t2 (.tup us0) t2 = some (.tup us0) := upd_same ..
  generalize upd H1 t2 (.tup us0) = H2 at k2 g2
  have k12 := k1.trans k2
  refine ⟨_, rfl, pS, _, _, .ref q1, rfl, rfl, SqL.of (k12.at hsd (by simp)), rfl, q1, us1, rfl, .inl ⟨SqL.of (k12.at hq1 (by simp)), fun t3 ht3 => ⟨(by show 3 ≤ sizeLine; decide), fun tf htf => ?_⟩⟩⟩
  have k3 : Kp [] H2 (upd (upd H2 t3 (.tup us1)) tf (.tup [.ref t1, .ref t2, .ref t3])) := (Kp.new ht3).step htf
  have g3 : upd (upd H2 t3 (.tup us1)) tf (.tup [.ref t1, .ref t2, .ref t3]) t3 = some (.tup us1) := (Kp.new (l := []) htf).tup (upd_same ..)
  have g4 : upd (upd H2 t3 (.tup us1)) tf (.tup [.ref t1, .ref t2, .ref t3]) tf = some (.tup [.ref t1, .ref t2, .ref t3]) := upd_same ..
  generalize upd (upd H2 t3 (.tup us1)) tf (.tup [.ref t1, .ref t2, .ref t3]) = H3 at k3 g3 g4
  have k13 := k12.trans k3
  have kfa : IsFace H3 (.ref tf) ⟨a.ticks, ie.map fun e => (e.1, e.2.1, a.ticks.idxOf e.2.2), os.map fun o => (o.1, o.2.1, a.ticks.idxOf o.2.2.1)⟩ :=
    ⟨tf, t1, t2, t3, us0, us1, rfl, g4, (k2.trans k3).tup g1, k3.tup g2, aq0.imp fun _ _ q => q.keep k13, g3, by
      have h1 := aq1.imp fun _ _ q => q.keep k13
      rw [List.map_map] at h1
      exact h1⟩
  have ke3 := kef.trans k13
  have S3 := Se.keep0 ke3
  -- all the rows
  refine ⟨_, rfl, a.pt, rfl, ⟨_, SqL.of (k13.at hptf (by simp))⟩, fun DC hDC => ?_⟩
  refine lc_list (xs := a.ticks.map V.str) (fun i H' => ∃ acc, H' DC = some (.lst acc) ∧ AllV (IsRow H') acc ((a.ticks.take i).map MRow.clock) ∧ Kp [] H3 H') ⟨[], upd_same .., trivial, Kp.new hDC⟩ (fun i H' _ ⟨_, _, _, kk⟩ => SqL.of (kk.at (k13.at hptf (by simp)) (by simp))) ?_ ?_
  · rintro i v H' hv ⟨acc, hacc, aacc, kk⟩
    have hi : i < a.ticks.length := by
      have := (List.getElem?_eq_some_iff.mp hv).1
      simpa using this
    have ev : v = .str a.ticks[i] := by
      rw [List.getElem?_map, List.getElem?_eq_getElem hi] at hv
      exact (Option.some.inj hv).symm
    subst ev
    refine ⟨rfl, yesT ⟨_, rfl, (by show 2 ≤ sizeLine; decide), fun t4 ht4 => ?_⟩⟩
    have k4 : Kp [] H' (upd H' t4 (.tup [.str "clock", .str a.ticks[i]])) := Kp.new ht4
    have g5 : upd H' t4 (.tup [.str "clock", .str a.ticks[i]]) t4 = some (.tup [.str "clock", .str a.ticks[i]]) := upd_same ..
    have hacc4 := k4.at hacc (by simp)
    have kD : Kp [DC] (upd H' t4 (.tup [.str "clock", .str a.ticks[i]])) (upd (upd H' t4 (.tup [.str "clock", .str a.ticks[i]])) DC (.lst (acc ++ [.ref t4]))) := Kp.put hacc4 (by simp)
    refine ⟨acc, hacc4, ?_, acc ++ [.ref t4], upd_same .., ?_, (kk.trans k4).fresh hDC⟩
    · rw [aacc.length, List.length_map, List.length_take]
      exact Nat.lt_of_le_of_lt (show min i a.ticks.length ≤ 3 by omega) (by decide)
    · rw [List.take_succ, List.getElem?_eq_getElem hi, List.map_append]
      exact ((aacc.imp fun _ _ q => q.keep k4).imp fun _ _ q => q.keep kD).snoc (show IsRow _ (.ref t4) (.clock a.ticks[i]) from ⟨t4, rfl, kD.tup g5⟩)
  rintro H4 ⟨acc, hacc, aacc, k34⟩
  rw [List.length_map, List.take_length] at aacc
  have ke4 := ke3.trans k34
  obtain ⟨wi, hwi, awi⟩ := Re.keep ke4 (by simp)
  refine ⟨_, rfl, DC, pi, acc, wi, rfl, rfl, hacc, hwi, ?_, fun pA hpA => ?_⟩
  · rw [aacc.length, awi.length, List.length_map, List.length_map]
    exact Nat.le_trans (show a.ticks.length + ie.length ≤ 6 by omega) (by decide)
  have r5 := Rows.cat aacc awi hpA
  have k5 : Kp [] H4 (upd H4 pA (.lst (acc ++ wi))) := Kp.new hpA
  generalize upd H4 pA (.lst (acc ++ wi)) = H5 at r5 k5
  have ke5 := ke4.trans k5
  obtain ⟨wA, hwA, awA⟩ := r5
  obtain ⟨wR, hwR, awR⟩ := RRe.keep ke5 (by simp)
  refine ⟨_, rfl, pA, pR, wA, wR, rfl, rfl, hwA, hwR, ?_, fun pM hpM => ?_⟩
  · rw [awA.length, awR.length]
    rw [List.length_append, List.length_map, List.length_map]
    exact Nat.le_trans (Nat.add_le_add (show a.ticks.length + ie.length ≤ 6 by omega) hrl) (by decide)
  have r6 := Rows.cat awA awR hpM
  have k6 : Kp [] H5 (upd H5 pM (.lst (wA ++ wR))) := Kp.new hpM
  have hpM0 : H5 pM = none := hpM
  generalize upd H5 pM (.lst (wA ++ wR)) = H6 at r6 k6
  have ke6 := ke5.trans k6
  have S6' := Se.keep0 ke6
  refine ⟨_, rfl, _, rfl, _, rfl, a.pl, _, _, _, rfl, rfl, SqL.of S6'.left, rfl, _, _, rfl, rfl, (by show 3 ≤ sizeLine; decide), fun tr htr => ?_⟩
  generalize hH7 : upd H6 tr _ = H7
  have k7 : Kp [] H6 H7 := by rw [← hH7]; exact Kp.new htr
  have htr' : H7 tr = some (.tup [.ref pM, .ref tf, .int (lf1 - lf3)]) := by rw [← hH7]; exact upd_same ..
  clear hH7
  have hlow := Se.low
  have hpMH : H pM = none := by
    have h1 : He pM = none := ke5.free hpM0 (by simp)
    exact kpe.free h1 (by have := Se.deck.ne h1; simp [Ne.symm this.1, Ne.symm this.2])
  have hbx1 : bx.map (·.1.1) = bs.map (·.1) := by rw [← hbx, List.map_map]; rfl
  have hNS : NS = (a.ticks ++ (ie.map (·.1) ++ (bx.map (·.1.1) ++ (cs.map (·.1) ++ (ss.map Step.nm ++ os.map (·.1)))))) ++ ns4 := by
    rw [hns, htk, hn1, hn2, hn3, hn4, hbx1]
    simp
  refine hQ tr pM (.ref tf) (lf1 - lf3) ⟨({ a with top := lf1 } : Ads), ie, bx, cs, ss, os, at_⟩ H7 htr' ?_ hpMH (kfa.keep ((k34.trans k5).trans (k6.trans k7))) ?_ ?_ (kpe.trans (ke6.trans k7).up) ((S6'.keep0 k7).deck.less (by omega))
  · have := r6.keep k7 (by simp)
    rw [← hinn] at this
    exact this
  · have : lf3 ≤ lf1 := hlow
    omega
  · have nd := hok.1
    rw [hNS] at nd
    have hbl : bx.length = bs.length := by rw [← hbx, List.length_map]
    exact {
      t1 := by
        have := Se.ne
        show 1 ≤ (a.ps.map (·.1)).length
        rw [List.length_map]
        exact List.length_pos_iff.mpr this
      t3 := by
        show (a.ps.map (·.1)).length ≤ 3
        rw [List.length_map]
        exact Se.few
      nd := (List.nodup_append.mp nd).1
      pl := fun x hx => hok.2 x (by rw [hNS]; exact List.mem_append_left _ hx)
      i3 := hi3
      b3 := by show bx.length ≤ 3; omega
      c2 := hc2
      s6 := hs6
      o1 := ho1
      o2 := ho2
      insOk := iok
      bxOk := fun b hb => ⟨bok b.1 (by rw [← hbx]; exact List.mem_map_of_mem hb), by
        have := tya b hb
        rw [← hL2, ← hL1, ← hbx] at this
        exact this⟩
      crOk := fun x hx => by
        have := cok x hx
        rw [← hL1, ← hbx] at this
        exact this
      ssOk := by
        have := sok
        rw [← hL1, ← hbx] at this
        exact this
      osOk := fun o ho => by
        have := oko o ho
        rw [← hL2, ← hL1, ← hbx] at this
        exact this }
end
end WT

set_option Elab.async false
set_option linter.all false
set_option maxRecDepth 100000
set_option maxHeartbeats 8000000
/-! in_path, paths_in, names_in: over the parts of an expression. -/
namespace WT
open PySem PySem.Spec PyProof.Rows L2
/-- a part of an expression: a number or a text, an expression -/
inductive Pt where
  | int (i : Int)
  | str (x : Str)
  | ex (e : Ex)
def IsPt (H : Hp) (v : V) : Pt → Prop
  | .int i => v = .int i
  | .str x => v = .str x
  | .ex e => IsEx H e v
theorem IsPt.keep {l : List Addr} {H H' : Hp} (k : Kp l H H') {v : V} {p : Pt} (h : IsPt H v p) : IsPt H' v p := by
  cases p with
  | int i => exact h
  | str x => exact h
  | ex e => exact IsEx.keep k (show IsEx H e v from h)
def Ex.parts : Ex → List Pt
  | .name x => [.str "name", .str x]
  | .num w k => [.str "num", .int w, .int k]
  | .not a => [.str "not", .ex a]
  | .bin o a b => [.str (opN o), .ex a, .ex b]
  | .pick a b c => [.str "pick", .ex a, .ex b, .ex c]
  | .cut w a => [.str "cut", .int w, .ex a]
  | .bit k a => [.str "bit", .int k, .ex a]
theorem isEx_parts {H : Hp} {e : Ex} {v : V} (h : IsEx H e v) : ∃ a vs, v = .ref a ∧ H a = some (.tup vs) ∧ AllV (IsPt H) vs e.parts := by
  cases e with
  | name x => obtain ⟨a, h1, h2⟩ := h; exact ⟨a, _, h1, h2, rfl, rfl, trivial⟩
  | num w k => obtain ⟨a, h1, h2⟩ := h; exact ⟨a, _, h1, h2, rfl, rfl, rfl, trivial⟩
  | not e => obtain ⟨a, u, h1, h2, h3⟩ := h; exact ⟨a, _, h1, h2, rfl, h3, trivial⟩
  | bin o e f => obtain ⟨a, u, u', h1, h2, h3, h4⟩ := h; exact ⟨a, _, h1, h2, rfl, h3, h4, trivial⟩
  | pick e f g => obtain ⟨a, u, u', u'', h1, h2, h3, h4, h5⟩ := h; exact ⟨a, _, h1, h2, rfl, h3, h4, h5, trivial⟩
  | cut w e => obtain ⟨a, u, h1, h2, h3⟩ := h; exact ⟨a, _, h1, h2, rfl, rfl, h3, trivial⟩
  | bit k e => obtain ⟨a, u, h1, h2, h3⟩ := h; exact ⟨a, _, h1, h2, rfl, rfl, h3, trivial⟩
theorem parts_isEx {H : Hp} {e : Ex} {a : Addr} {vs : List V} (h2 : H a = some (.tup vs)) (h : AllV (IsPt H) vs e.parts) : IsEx H e (.ref a) := by
  cases e with
  | name x => match vs, h with | [_, _], ⟨q1, q2, _⟩ => cases q1; cases q2; exact ⟨a, rfl, h2⟩
  | num w k => match vs, h with | [_, _, _], ⟨q1, q2, q3, _⟩ => cases q1; cases q2; cases q3; exact ⟨a, rfl, h2⟩
  | not e => match vs, h with | [_, u], ⟨q1, q2, _⟩ => cases q1; exact ⟨a, u, rfl, h2, q2⟩
  | bin o e f => match vs, h with | [_, u, u'], ⟨q1, q2, q3, _⟩ => cases q1; exact ⟨a, u, u', rfl, h2, q2, q3⟩
  | pick e f g => match vs, h with | [_, u, u', u''], ⟨q1, q2, q3, q4, _⟩ => cases q1; exact ⟨a, u, u', u'', rfl, h2, q2, q3, q4⟩
  | cut w e => match vs, h with | [_, _, u], ⟨q1, q2, q3, _⟩ => cases q1; cases q2; exact ⟨a, u, rfl, h2, q3⟩
  | bit k e => match vs, h with | [_, _, u], ⟨q1, q2, q3, _⟩ => cases q1; cases q2; exact ⟨a, u, rfl, h2, q3⟩
/-- each name with the path ahead -/
def Ex.pre (ah : Str) : Ex → Ex
  | .name x => .name (ah ++ x)
  | .num w k => .num w k
  | .not a => .not (a.pre ah)
  | .bin o a b => .bin o (a.pre ah) (b.pre ah)
  | .pick a b c => .pick (a.pre ah) (b.pre ah) (c.pre ah)
  | .cut w a => .cut w (a.pre ah)
  | .bit k a => .bit k (a.pre ah)
def Pt.pre (ah : Str) : Pt → Pt
  | .int i => .int i
  | .str x => .str x
  | .ex e => .ex (e.pre ah)
theorem pre_parts {ah : Str} {e : Ex} (h : ∀ x, e ≠ .name x) : (e.pre ah).parts = e.parts.map (Pt.pre ah) := by
  cases e with
  | name x => exact absurd rfl (h x)
  | _ => rfl
/-- the word of an expression that is no name is not name -/
theorem word_ne {e : Ex} (h : ∀ x, e ≠ .name x) : ∃ w ps, e.parts = .str w :: ps ∧ w ≠ ("name" : Str) := by
  cases e with
  | name x => exact absurd rfl (h x)
  | bin o a b => exact ⟨opN o, _, rfl, by cases o <;> decide⟩
  | _ => exact ⟨_, _, rfl, by decide⟩
theorem part_depth {e : Ex} {j : Nat} (h : e.depth ≤ j + 1) : ∀ p ∈ e.parts, ∀ f, p = .ex f → f.depth ≤ j ∧ ∀ x ∈ f.names, x ∈ e.names := by
  intro p hp f hf
  subst hf
  cases e <;> simp [Ex.parts] at hp <;> simp only [Ex.depth, Ex.names] at h ⊢
  case not a => subst hp; exact ⟨by omega, fun x hx => hx⟩
  case bin o a b =>
    rcases hp with e | e <;> subst e
    · exact ⟨by omega, fun x hx => by simp [hx]⟩
    · exact ⟨by omega, fun x hx => by simp [hx]⟩
  case pick a b c =>
    rcases hp with e | e | e <;> subst e
    · exact ⟨by omega, fun x hx => by simp [hx]⟩
    · exact ⟨by omega, fun x hx => by simp [hx]⟩
    · exact ⟨by omega, fun x hx => by simp [hx]⟩
  case cut w a => subst hp; exact ⟨by omega, fun x hx => hx⟩
  case bit k a => subst hp; exact ⟨by omega, fun x hx => hx⟩
theorem kit_st (K : PySem.W.Frag) : PySem.W.kitAny K (.type "str") [.type "int", .type "str"] = some true := by rfl
theorem kit_tp (K : PySem.W.Frag) : PySem.W.kitAny K (.type "tuple") [.type "int", .type "str"] = some false := by rfl
theorem kit_tt (K : PySem.W.Frag) : PySem.W.kitOne K (.type "tuple") (.type "tuple") = some true := by rfl
theorem kit_it (K : PySem.W.Frag) : PySem.W.kitOne K (.type "int") (.type "tuple") = some false := by rfl
theorem kit_s2 (K : PySem.W.Frag) : PySem.W.kitOne K (.type "str") (.type "tuple") = some false := by rfl
theorem kit_ss (K : PySem.W.Frag) : PySem.W.kitOne K (.type "str") (.type "str") = some true := by rfl
abbrev s_in_path : Stmt := topS 28
abbrev N_in_path : List Str := ["_law_ahead", "_law_e", "_law_part"]
abbrev P_in_path : List Str := ["_law_ahead", "_law_e"]
theorem sc_in_path : FnScope N_in_path P_in_path (defScope s_in_path) := ⟨rfl, rfl, rfl, by decide +kernel, rfl, by decide +kernel, by decide +kernel⟩
def spInPath (j : Nat) : Sp := fun vs H Q _ => 1 ≤ j ∧ ∃ (ah : Str) (v : V) (e : Ex), vs = [.str ah, v] ∧ IsEx H e v ∧ e.depth ≤ j ∧ ah.length ≤ 100 ∧ (∀ x ∈ e.names, x.length ≤ 100) ∧
  ∀ v' H', IsEx H' (e.pre ah) v' → Kp [] H H' → Q v' H'
section
variable {P : Program} {w : World} {K : PySem.W.Frag} {mg : Str → Option Value} {base : Heap}
theorem cal_in_path (S : Std K mg "_law_in_path" s_in_path) (T : Frees mg) (j : Nat) : Cal P w K mg base "_law_in_path" j P_in_path (spInPath j) := by
  induction j with
  | zero =>
    obtain ⟨f, fd, F, m⟩ := S
    exact ⟨f, fd, ⟨fun vs H Q E h => by have := h.1; omega, fun A outer s H args us vs Q E _ _ _ _ h => by have := h.1; omega⟩, m, F.kp, F.bindsN fun _ _ _ _ _ _ us hl => match us, hl with | [_, _], _ => rfl⟩
  | succ j ih =>
  obtain ⟨f, fd, F, m⟩ := S
  obtain ⟨fi, di, G_in_path, m_in_path, k_in_path, b_in_path⟩ := ih
  refine ⟨f, fd, ?_, m, F.kp, F.bindsN fun _ _ _ _ _ _ us hl => match us, hl with | [_, _], _ => rfl⟩
  have sc := sc_in_path
  refine F.ok (k := j) sc (fun vs H Q E h => by obtain ⟨_, _, _, _, rfl, _⟩ := h; rfl) fun cdv A outer s H vs Q E hr h => ⟨_, PSs.nox (pss_cons (ps_if (pt_cmpR op_eq (pe_ix (ixt K) (pv 1) pe_int (fun _ _ => rfl)) pe_str (nomark _)) (pss_one (ps_ret (pe_tup (pa_cons pe_str (pa_cons (pe_op op_add_str (pv 0) (pe_ix (ixt K) (pv 1) pe_int (fun _ _ => rfl))) pa_nil))))) pss_nil)
 (pss_one (ps_ret (pe_callTy (cTup K) rfl T.tuple (by decide +kernel) (pa_cons (pe_lc (own := [("_law_part", 2)]) rfl sc.nd (PI.toK (t' := iTup K _) (pi_tup (pv 1))) (blkOk_by (N := N_in_path) (sc := defScope s_in_path) (by decide +kernel)) (fun _ _ _ _ _ => (pg_name (i := 2) sc.nd rfl (Or.inl rfl))) (fun _ _ _ _ _ => pts_nil) (fun _ _ _ _ _ => (pe_ifExp (pt_val (pe_callB (cIsiT K) rfl T.isinstance (by decide +kernel) (pa_cons (pv 2) (pa_cons (pe_tup (pa_cons (pe_bltn (v := .ty "int") rfl T.int (by decide +kernel) rfl) (pa_cons (pe_bltn (v := .ty "str") rfl T.str (by decide +kernel) rfl) pa_nil))) pa_nil)))) (pv 2) (pe_call G_in_path (hr.mono (by omega)) rfl m_in_path k_in_path b_in_path .nil pass0 (pa_cons (pv 0) (pa_cons (pv 2) pa_nil)))))) pa_nil))))), ?_⟩
  obtain ⟨_, ah, v, e, rfl, he, hd, hal, hn, hQ⟩ := h
  obtain ⟨a, vs, rfl, ha, av⟩ := isEx_parts he
  by_cases hnm : ∃ x, e = .name x
  · obtain ⟨x, rfl⟩ := hnm
    match vs, av with
    | [_, _], ⟨q1, q2, _⟩ =>
    cases q1
    cases q2
    refine ⟨_, rfl, a, _, _, .str "name", rfl, rfl, SqT.of ha, rfl, rfl, _, rfl, iteT ⟨_, rfl, _, rfl, a, _, _, .str x, rfl, rfl, SqT.of ha, rfl, _, _, rfl, rfl, ?_, (by show 2 ≤ sizeLine; decide), fun t ht => ?_⟩⟩
    · have := hn x (by simp [Ex.names])
      exact Nat.le_trans (Nat.add_le_add hal this) (by decide)
    · exact hQ _ _ ⟨t, rfl, upd_same ..⟩ (Kp.new ht)
  have hnn : ∀ x, e ≠ .name x := fun x z => hnm ⟨x, z⟩
  obtain ⟨wd, ps, hps, hwd⟩ := word_ne hnn
  obtain ⟨v0, vs0, rfl⟩ : ∃ v0 vs0, vs = v0 :: vs0 := by
    cases vs with
    | nil => rw [hps] at av; exact av.elim
    | cons x y => exact ⟨x, y, rfl⟩
  have hv0 : v0 = .str wd := by rw [hps] at av; exact av.1
  subst hv0
  refine ⟨_, rfl, a, _, _, .str wd, rfl, rfl, SqT.of ha, atI_nat (j := 0) rfl, rfl, _, rfl, ?_⟩
  rw [show decide (V.str wd = V.str "name") = false from decide_eq_false (fun z => hwd (V.str.inj z))]
  refine iteF ⟨_, rfl, a, rfl, ⟨_, SqT.of ha⟩, fun DD hDD => ?_⟩
  have hpl : e.parts.length ≤ 4 := by cases e <;> simp [Ex.parts]
  refine lc_tup (xs := .str wd :: vs0) (fun i H' => ∃ acc, H' DD = some (.lst acc) ∧ AllV (IsPt H') acc ((e.parts.take i).map (Pt.pre ah)) ∧ Kp [] H H') ⟨[], upd_same .., trivial, Kp.new hDD⟩ (fun i H' _ ⟨_, _, _, kk⟩ => SqT.of (kk.tup ha)) ?_ ?_
  · rintro i u H' hu ⟨acc, hacc, aacc, kk⟩
    obtain ⟨p, hp, hpt⟩ := av.get hu
    have hi : i < 4 := by
      have := (List.getElem?_eq_some_iff.mp hp).1
      omega
    have hal4 : acc.length < sizeLine := by
      rw [aacc.length, List.length_map, List.length_take]
      exact Nat.lt_of_le_of_lt (Nat.min_le_left ..) (Nat.lt_of_lt_of_le hi (by decide))
    have et : e.parts.take (i + 1) = e.parts.take i ++ [p] := by rw [List.take_succ, hp]; rfl
    refine ⟨rfl, yesT ⟨_, rfl, (by show 2 ≤ sizeLine; decide), fun tp htp => ?_⟩⟩
    have kt : Kp [] H' (upd H' tp (.tup [.ty "int", .ty "str"])) := Kp.new htp
    have gt : upd H' tp (.tup [.ty "int", .ty "str"]) tp = some (.tup [.ty "int", .ty "str"]) := upd_same ..
    have hacc2 := kt.at hacc (by simp)
    have aacc2 := aacc.imp fun v q (z : IsPt H' v q) => (show IsPt (upd H' tp (.tup [.ty "int", .ty "str"])) v q from IsPt.keep kt z)
    generalize upd H' tp (.tup [.ty "int", .ty "str"]) = H2 at kt gt hacc2 aacc2
    have cls : Paired ClsV [V.ty "int", .ty "str"] [.type "int", .type "str"] := .cons (.ty _) (.cons (.ty _) .nil)
    have fin : ∀ (v : V) (H3 : Hp), Kp [] H2 H3 → IsPt H3 v (p.pre ah) → ∃ acc', H3 DD = some (.lst acc') ∧ acc'.length < sizeLine ∧ ∃ acc'', upd H3 DD (.lst (acc' ++ [v])) DD = some (.lst acc'') ∧ AllV (IsPt (upd H3 DD (.lst (acc' ++ [v])))) acc'' ((e.parts.take (i + 1)).map (Pt.pre ah)) ∧ Kp [] H (upd H3 DD (.lst (acc' ++ [v]))) := fun v H3 k3 hv => by
      have hacc3 := k3.at hacc2 (by simp)
      have kD : Kp [DD] H3 (upd H3 DD (.lst (acc ++ [v]))) := Kp.put hacc3 (by simp)
      refine ⟨acc, hacc3, hal4, acc ++ [v], upd_same .., ?_, ((kk.trans kt).trans k3).fresh hDD⟩
      rw [et, List.map_append]
      exact ((aacc2.imp fun _ _ q => q.keep k3).imp fun _ _ q => q.keep kD).snoc (hv.keep kD)
    cases p with
    | int z =>
      cases hpt
      exact ⟨_, tp, _, _, _, true, rfl, gt, cls, .base (.int z), rfl, _, rfl, iteT ⟨_, rfl, fin _ H2 (Kp.refl _ _) rfl⟩⟩
    | str z =>
      cases hpt
      exact ⟨_, tp, _, _, _, true, rfl, gt, cls, .base (.str z), kit_st K, _, rfl, iteT ⟨_, rfl, fin _ H2 (Kp.refl _ _) rfl⟩⟩
    | ex f' =>
      obtain ⟨d1, d2⟩ := part_depth hd _ (List.mem_of_getElem? hp) f' rfl
      obtain ⟨b, ws, rfl, hb, ab⟩ := isEx_parts (show IsEx H f' u from hpt)
      have hf' : IsEx H2 f' (.ref b) := (IsEx.keep kk (show IsEx H f' (.ref b) from hpt)).keep kt
      have dpos : 1 ≤ f'.depth := by cases f' <;> simp [Ex.depth]
      exact ⟨_, tp, _, _, _, false, rfl, gt, cls, .base (.tup ((kk.trans kt).tup hb)), kit_tp K, _, rfl, iteF ⟨_, rfl, _, rfl, by omega, ah, .ref b, f', rfl, hf', d1, hal, fun x hx => hn x (d2 x hx), fun v' H3 hv' k3 => fin v' H3 k3 hv'⟩⟩
  · rintro H' ⟨acc, hacc, aacc, kk⟩
    rw [av.length, List.take_length, ← pre_parts hnn] at aacc
    refine ⟨DD, acc, rfl, .inl ⟨SqL.of hacc, fun t ht => ?_⟩⟩
    exact hQ _ _ (parts_isEx (upd_same ..) (aacc.imp fun _ _ q => q.keep (Kp.new (l := []) ht))) (kk.step ht)
end
end WT

set_option Elab.async false
set_option linter.all false
set_option maxRecDepth 100000
set_option maxHeartbeats 8000000
/-! paths_in, names_in. -/
namespace WT
open PySem PySem.Spec PyProof.Rows L2
def Pt.names : Pt → List Str
  | .ex e => e.names
  | _ => []
theorem names_parts {e : Ex} (h : ∀ x, e ≠ .name x) : e.names = (e.parts.drop 1).flatMap Pt.names := by
  cases e with
  | name x => exact absurd rfl (h x)
  | _ => simp [Ex.names, Ex.parts, Pt.names]
theorem names_len {e : Ex} : ∀ {j : Nat}, e.depth ≤ j → e.names.length ≤ 3 ^ j := by
  induction e with
  | name x => intro j h; cases j with
    | zero => simp [Ex.depth] at h
    | succ j => simp [Ex.names]; exact Nat.one_le_pow _ _ (by decide)
  | num w k => intro j h; simp [Ex.names]
  | not a ih => intro j h; cases j with
    | zero => simp [Ex.depth] at h
    | succ j => simp only [Ex.depth, Ex.names] at h ⊢; exact Nat.le_trans (ih (j := j) (by omega)) (Nat.pow_le_pow_right (by decide) (by omega))
  | bin o a b iha ihb => intro j h; cases j with
    | zero => simp [Ex.depth] at h
    | succ j =>
      simp only [Ex.depth, Ex.names, List.length_append] at h ⊢
      have h1 := iha (j := j) (by omega)
      have h2 := ihb (j := j) (by omega)
      rw [Nat.pow_succ]
      omega
  | pick a b c iha ihb ihc => intro j h; cases j with
    | zero => simp [Ex.depth] at h
    | succ j =>
      simp only [Ex.depth, Ex.names, List.length_append] at h ⊢
      have h1 := iha (j := j) (by omega)
      have h2 := ihb (j := j) (by omega)
      have h3 := ihc (j := j) (by omega)
      rw [Nat.pow_succ]
      omega
  | cut w a ih => intro j h; cases j with
    | zero => simp [Ex.depth] at h
    | succ j => simp only [Ex.depth, Ex.names] at h ⊢; exact Nat.le_trans (ih (j := j) (by omega)) (Nat.pow_le_pow_right (by decide) (by omega))
  | bit k a ih => intro j h; cases j with
    | zero => simp [Ex.depth] at h
    | succ j => simp only [Ex.depth, Ex.names] at h ⊢; exact Nat.le_trans (ih (j := j) (by omega)) (Nat.pow_le_pow_right (by decide) (by omega))
abbrev s_names_in : Stmt := topS 33
abbrev N_names_in : List Str := ["_law_e", "_law_found", "_law_part"]
abbrev P_names_in : List Str := ["_law_e"]
theorem sc_names_in : FnScope N_names_in P_names_in (defScope s_names_in) := ⟨rfl, rfl, rfl, by decide +kernel, rfl, by decide +kernel, by decide +kernel⟩
def spNamesIn (j : Nat) : Sp := fun vs H Q _ => 1 ≤ j ∧ j ≤ 3 ∧ ∃ (v : V) (e : Ex), vs = [v] ∧ IsEx H e v ∧ e.depth ≤ j ∧
  ∀ p H', H' p = some (.lst (e.names.map V.str)) → H p = none → Kp [] H H' → Q (.ref p) H'
abbrev s_paths_in : Stmt := topS 3
abbrev N_paths_in : List Str := ["e", "part", "path"]
abbrev P_paths_in : List Str := ["e"]
theorem sc_paths_in : FnScope N_paths_in P_paths_in (defScope s_paths_in) := ⟨rfl, rfl, rfl, by decide +kernel, rfl, by decide +kernel, by decide +kernel⟩
/-- two clauses: the outer over a tuple, the inner over a list -/
theorem lc2_tup {K : PySem.W.Frag} {a : Addr} {xs : List V} {g g1 : TG} {tt tt1 : TT} {wi1 : TI} {te : TE} {vs vs1 : List Nat} {σ : L2.St} {H1 : Hp} {D : Addr} {Qd : Hp → Prop} (Pv : Nat → Hp → Prop) (h0 : Pv 0 (upd H1 D (.lst []))) (hl : ∀ i H, i ≤ xs.length → Pv i H → SqT K H a xs)
    (hs : ∀ i x H, xs[i]? = some x → Pv i H → g x (wipe σ vs) H fun σ2 H2 => wipe σ2 vs = wipe σ vs ∧ tt σ2 H2 fun b H3 =>
      if b = true then wi1 σ2 H3 fun J1 H4 => ∃ W1 : Nat → Nat → Hp → Prop, (∃ m, W1 0 m H4) ∧ ∀ j k H, W1 j k H →
        (J1.stop j H ∧ Pv (i + 1) H) ∨ (J1.go j H ∧ ∃ Nx1 : Hp → Prop, (∀ H', Nx1 H' → ∃ k', k' < k ∧ W1 (j + 1) k' H') ∧ ∀ x H', J1.yld j H x H' → g1 x (wipe σ2 vs1) H' fun σ3 H5 => wipe σ3 vs1 = wipe σ2 vs1 ∧ tt1 σ3 H5 fun b H6 =>
          if b = true then te σ3 H6 fun y H7 => ∃ acc, H7 D = some (.lst acc) ∧ acc.length < sizeLine ∧ Nx1 (upd H7 D (.lst (acc ++ [y]))) else Nx1 H6)
      else Pv (i + 1) H3) (hd : ∀ H, Pv xs.length H → Qd H) :
    ∃ W : Nat → Nat → Hp → Prop, (∃ m, W 0 m (upd H1 D (.lst []))) ∧ ∀ i m H, W i m H →
      ((Itt K a).stop i H ∧ Qd H) ∨ ((Itt K a).go i H ∧ ∃ Nx : Hp → Prop, (∀ H', Nx H' → ∃ m', m' < m ∧ W (i + 1) m' H') ∧ ∀ x H', (Itt K a).yld i H x H' → g x (wipe σ vs) H' fun σ2 H2 => wipe σ2 vs = wipe σ vs ∧ tt σ2 H2 fun b H3 =>
        if b = true then wi1 σ2 H3 fun J1 H4 => ∃ W1 : Nat → Nat → Hp → Prop, (∃ m, W1 0 m H4) ∧ ∀ j k H, W1 j k H →
          (J1.stop j H ∧ Nx H) ∨ (J1.go j H ∧ ∃ Nx1 : Hp → Prop, (∀ H', Nx1 H' → ∃ k', k' < k ∧ W1 (j + 1) k' H') ∧ ∀ x H', J1.yld j H x H' → g1 x (wipe σ2 vs1) H' fun σ3 H5 => wipe σ3 vs1 = wipe σ2 vs1 ∧ tt1 σ3 H5 fun b H6 =>
            if b = true then te σ3 H6 fun y H7 => ∃ acc, H7 D = some (.lst acc) ∧ acc.length < sizeLine ∧ Nx1 (upd H7 D (.lst (acc ++ [y]))) else Nx1 H6)
        else Nx H3) := by
  refine ⟨fun i m H => m = xs.length - i ∧ i ≤ xs.length ∧ Pv i H, ⟨xs.length, by simp, Nat.zero_le _, h0⟩, ?_⟩
  rintro i m H ⟨rfl, hi, p⟩
  have q := hl i H hi p
  by_cases hlt : i < xs.length
  · refine .inr ⟨⟨xs, xs[i], q, by simp [hlt]⟩, Pv (i + 1), fun H' p' => ⟨xs.length - (i + 1), by omega, rfl, hlt, p'⟩, fun x H' y => ?_⟩
    obtain ⟨e, y⟩ := y
    subst e
    exact hs i x _ (y xs q) p
  · have e : i = xs.length := by omega
    subst e
    exact .inl ⟨⟨xs, q, Nat.le_refl _⟩, hd H p⟩
theorem lc2_in {K : PySem.W.Frag} {a : Addr} {ys : List V} {g1 : TG} {tt1 : TT} {te : TE} {vs1 : List Nat} {σ2 : L2.St} {H4 : Hp} {D : Addr} {Nx : Hp → Prop} (Pv : Nat → Hp → Prop) (h0 : Pv 0 H4) (hl : ∀ j H, j ≤ ys.length → Pv j H → SqL K H a ys)
    (hs : ∀ j y H, ys[j]? = some y → Pv j H → g1 y (wipe σ2 vs1) H fun σ3 H5 => wipe σ3 vs1 = wipe σ2 vs1 ∧ tt1 σ3 H5 fun b H6 =>
      if b = true then te σ3 H6 fun y H7 => ∃ acc, H7 D = some (.lst acc) ∧ acc.length < sizeLine ∧ Pv (j + 1) (upd H7 D (.lst (acc ++ [y]))) else Pv (j + 1) H6) (hd : ∀ H, Pv ys.length H → Nx H) :
    ∃ W1 : Nat → Nat → Hp → Prop, (∃ m, W1 0 m H4) ∧ ∀ j k H, W1 j k H →
      ((Itl K a).stop j H ∧ Nx H) ∨ ((Itl K a).go j H ∧ ∃ Nx1 : Hp → Prop, (∀ H', Nx1 H' → ∃ k', k' < k ∧ W1 (j + 1) k' H') ∧ ∀ x H', (Itl K a).yld j H x H' → g1 x (wipe σ2 vs1) H' fun σ3 H5 => wipe σ3 vs1 = wipe σ2 vs1 ∧ tt1 σ3 H5 fun b H6 =>
        if b = true then te σ3 H6 fun y H7 => ∃ acc, H7 D = some (.lst acc) ∧ acc.length < sizeLine ∧ Nx1 (upd H7 D (.lst (acc ++ [y]))) else Nx1 H6) := by
  refine ⟨fun i m H => m = ys.length - i ∧ i ≤ ys.length ∧ Pv i H, ⟨ys.length, by simp, Nat.zero_le _, h0⟩, ?_⟩
  rintro i m H ⟨rfl, hi, p⟩
  have q := hl i H hi p
  by_cases hlt : i < ys.length
  · refine .inr ⟨⟨ys, ys[i], q, by simp [hlt]⟩, Pv (i + 1), fun H' p' => ⟨ys.length - (i + 1), by omega, rfl, hlt, p'⟩, fun x H' y => ?_⟩
    obtain ⟨e, y⟩ := y
    subst e
    exact hs i x _ (y ys q) p
  · have e : i = ys.length := by omega
    subst e
    exact .inl ⟨⟨ys, q, Nat.le_refl _⟩, hd H p⟩
section
variable {P : Program} {w : World} {K : PySem.W.Frag} {mg : Str → Option Value} {base : Heap}
theorem cal_names_in (S : Std K mg "_law_names_in" s_names_in) (T : Frees mg) (j : Nat) : Cal P w K mg base "_law_names_in" j P_names_in (spNamesIn j) := by
  induction j with
  | zero =>
    obtain ⟨f, fd, F, m⟩ := S
    exact ⟨f, fd, ⟨fun vs H Q E h => by have := h.1; omega, fun A outer s H args us vs Q E _ _ _ _ h => by have := h.1; omega⟩, m, F.kp, F.bindsN fun _ _ _ _ _ _ us hl => match us, hl with | [_], _ => rfl⟩
  | succ j ih =>
  obtain ⟨f, fd, F, m⟩ := S
  obtain ⟨fi, di, G_names_in, m_names_in, k_names_in, b_names_in⟩ := ih
  refine ⟨f, fd, ?_, m, F.kp, F.bindsN fun _ _ _ _ _ _ us hl => match us, hl with | [_], _ => rfl⟩
  have sc := sc_names_in
  refine F.ok (k := j) sc (fun vs H Q E h => by obtain ⟨_, _, _, _, rfl, _⟩ := h; rfl) fun cdv A outer s H vs Q E hr h => ⟨_, PSs.nox (pss_cons (ps_if (pt_cmpR op_eq (pe_ix (ixt K) (pv 0) pe_int (fun _ _ => rfl)) pe_str (nomark _)) (pss_one (ps_ret (pe_lst (pa_cons (pe_ix (ixt K) (pv 0) pe_int (fun _ _ => rfl)) pa_nil)))) pss_nil)
 (pss_cons (ps_set (i := 1) sc.nd rfl (Or.inl rfl) (pe_lst pa_nil))
 (pss_cons (ps_for PassesOwn.never rfl (PI.toK (t' := iTup K _) (pi_tup (pe_slice (slT K) (pv 0) (po_some pe_int) po_none))) (pg_name (i := 2) sc.nd rfl (Or.inl rfl))
 (pss_one (ps_if (pt_val (pe_callB (cIsi K) rfl T.isinstance (by decide +kernel) (pa_cons (pv 2) (pa_cons (pe_bltn (v := .ty "tuple") rfl T.tuple (by decide +kernel) rfl) pa_nil)))) (pss_one (ps_expr (PE.toK (t' := tBM K _ _ _ _) (pe_bm PySem.F.plainAttrs_list PySem.F.slot_list_extend PySem.F.type_list_extend mt_extend (pv 1) (pa_cons (pe_call G_names_in (hr.mono (by omega)) rfl m_names_in k_names_in b_names_in .nil pass0 (pa_cons (pv 2) pa_nil)) pa_nil))))) pss_nil)))
 (pss_one (ps_ret (pv 1)))))), ?_⟩
  obtain ⟨_, hj3, v, e, rfl, he, hd, hQ⟩ := h
  obtain ⟨a, vs, rfl, ha, av⟩ := isEx_parts he
  by_cases hnm : ∃ x, e = .name x
  · obtain ⟨x, rfl⟩ := hnm
    match vs, av with
    | [_, _], ⟨q1, q2, _⟩ =>
    cases q1
    cases q2
    exact ⟨_, rfl, a, _, _, .str "name", rfl, rfl, SqT.of ha, rfl, rfl, _, rfl, iteT ⟨_, rfl, a, _, _, .str x, rfl, rfl, SqT.of ha, rfl, (by show 1 ≤ sizeLine; decide), fun p hp => hQ p _ (upd_same ..) hp (Kp.new hp)⟩⟩
  have hnn : ∀ x, e ≠ .name x := fun x z => hnm ⟨x, z⟩
  obtain ⟨wd, ps, hps, hwd⟩ := word_ne hnn
  obtain ⟨v0, vs0, rfl⟩ : ∃ v0 vs0, vs = v0 :: vs0 := by
    cases vs with
    | nil => rw [hps] at av; exact av.elim
    | cons x y => exact ⟨x, y, rfl⟩
  have hv0 : v0 = .str wd := by rw [hps] at av; exact av.1
  subst hv0
  refine ⟨_, rfl, a, _, _, .str wd, rfl, rfl, SqT.of ha, atI_nat (j := 0) rfl, rfl, _, rfl, ?_⟩
  rw [show decide (V.str wd = V.str "name") = false from decide_eq_false (fun z => hwd (V.str.inj z))]
  refine iteF ⟨(by show 0 ≤ sizeLine; decide), fun pf hpf => ?_⟩
  have kf : Kp [] H (upd H pf (.lst [])) := Kp.new hpf
  have gf : upd H pf (.lst []) pf = some (.lst []) := upd_same ..
  have ha1 := kf.tup ha
  have avs0 : AllV (IsPt H) vs0 (e.parts.drop 1) := by
    rw [hps] at av ⊢
    exact av.2
  have hpl : (e.parts.drop 1).length ≤ 3 := by cases e <;> simp [Ex.parts]
  have hnl := names_len hd
  have h3j : 3 ^ (j + 1) ≤ 27 := Nat.le_trans (Nat.pow_le_pow_right (by decide) hj3) (by decide)
  rw [names_parts hnn] at hnl hQ
  generalize upd H pf (.lst []) = H1 at kf gf ha1
  refine ⟨_, rfl, _, rfl, a, _, rfl, SqT.of ha1, fun z => ?_, fun _ ts hts => ?_⟩
  · have h1 : HT.sIx (V.str wd :: vs0).length 0 (some 1) = 1 := by
      rw [show (1 : Int) = ((1 : Nat) : Int) from rfl, HT.sIx_nat, List.length_cons]
      omega
    rw [h1] at z
    exact absurd z.1 (by decide)
  rw [show cutV (V.str wd :: vs0) (some 1) none = vs0 from cutV_lo (k := 1) (by simp)]
  have kt : Kp [] H1 (upd H1 ts (.tup vs0)) := Kp.new hts
  have gt : upd H1 ts (.tup vs0) ts = some (.tup vs0) := upd_same ..
  have gf2 := kt.at gf (by simp)
  generalize upd H1 ts (.tup vs0) = H2 at kt gt gf2
  have k2 := kf.trans kt
  refine ⟨ts, rfl, ⟨_, SqT.of gt⟩, ?_⟩
  refine for_tup (xs := vs0) (fun i σ H' => ∃ v2, σ = [some (.ref a), some (.ref pf), v2] ∧ H' pf = some (.lst ((((e.parts.drop 1).take i).flatMap Pt.names).map V.str)) ∧ Kp [] H H' ∧ Kp [pf] H2 H') ⟨_, rfl, gf2, k2, Kp.refl _ _⟩ (fun i σ H' _ ⟨_, _, _, _, kk⟩ => SqT.of (kk.tup gt)) ?_ ?_
  · rintro i u σ H' hu ⟨v2, rfl, hf, kk, kk2⟩
    obtain ⟨p, hp, hpt⟩ := avs0.get hu
    have et : (e.parts.drop 1).take (i + 1) = (e.parts.drop 1).take i ++ [p] := by rw [List.take_succ, hp]; rfl
    have hmp : p ∈ e.parts := List.mem_of_mem_drop (List.mem_of_getElem? hp)
    cases p with
    | int z =>
      cases hpt
      refine ⟨_, rfl, _, _, _, _, false, rfl, .ty _, .base (.int z), kit_it K, _, rfl, iteF ⟨_, rfl, ?_, kk, kk2⟩⟩
      rw [et, List.flatMap_append]
      simp [Pt.names, hf]
    | str z =>
      cases hpt
      refine ⟨_, rfl, _, _, _, _, false, rfl, .ty _, .base (.str z), kit_s2 K, _, rfl, iteF ⟨_, rfl, ?_, kk, kk2⟩⟩
      rw [et, List.flatMap_append]
      simp [Pt.names, hf]
    | ex f' =>
      obtain ⟨d1, d2⟩ := part_depth hd _ hmp f' rfl
      obtain ⟨b, ws, rfl, hb, ab⟩ := isEx_parts (show IsEx H f' u from hpt)
      have hf' : IsEx H' f' (.ref b) := IsEx.keep kk (show IsEx H f' (.ref b) from hpt)
      have dpos : 1 ≤ f'.depth := by cases f' <;> simp [Ex.depth]
      refine ⟨_, rfl, _, _, _, _, true, rfl, .ty _, .base (.tup (kk.tup hb)), kit_tt K, _, rfl, iteT ⟨_, rfl, .inl ⟨rfl, _, SqL.of hf⟩, _, rfl, by omega, by omega, .ref b, f', rfl, hf', d1, fun p' H3 hp' hn' k3 => ?_⟩⟩
      have hf3 := k3.at hf (by simp)
      have hlen : ((((e.parts.drop 1).take i).flatMap Pt.names).map V.str).length + (f'.names.map V.str).length ≤ 27 := by
        have h1 : (((e.parts.drop 1).take (i + 1)).flatMap Pt.names).length ≤ ((e.parts.drop 1).flatMap Pt.names).length := by
          conv => rhs; rw [← List.take_append_drop (i + 1) (e.parts.drop 1)]
          rw [List.flatMap_append, List.length_append]
          omega
        rw [et, List.flatMap_append, List.length_append] at h1
        simp only [List.flatMap_cons, List.flatMap_nil, List.append_nil, Pt.names] at h1
        rw [List.length_map, List.length_map]
        omega
      refine ⟨pf, p', _, _, rfl, rfl, hf3, hp', Nat.le_trans hlen (by decide), _, rfl, ?_, (kk.trans k3).fresh hpf, (kk2.trans (k3.up (l := [pf]))).trans (Kp.put hf3 (by simp))⟩
      rw [upd_same, et, List.flatMap_append, List.map_append]
      simp [Pt.names]
  · rintro σ H' ⟨v2, rfl, hf, kk, kk2⟩
    rw [avs0.length, List.take_length] at hf
    exact ⟨_, rfl, hQ pf H' hf hpf kk⟩
theorem cal_paths_in (S : Std K mg "paths_in" s_paths_in) (T : Frees mg) (j : Nat) : Cal P w K mg base "paths_in" j P_paths_in (spNamesIn j) := by
  induction j with
  | zero =>
    obtain ⟨f, fd, F, m⟩ := S
    exact ⟨f, fd, ⟨fun vs H Q E h => by have := h.1; omega, fun A outer s H args us vs Q E _ _ _ _ h => by have := h.1; omega⟩, m, F.kp, F.bindsN fun _ _ _ _ _ _ us hl => match us, hl with | [_], _ => rfl⟩
  | succ j ih =>
  obtain ⟨f, fd, F, m⟩ := S
  obtain ⟨fi, di, G_paths_in, m_paths_in, k_paths_in, b_paths_in⟩ := ih
  refine ⟨f, fd, ?_, m, F.kp, F.bindsN fun _ _ _ _ _ _ us hl => match us, hl with | [_], _ => rfl⟩
  have sc := sc_paths_in
  refine F.ok (k := j) sc (fun vs H Q E h => by obtain ⟨_, _, _, _, rfl, _⟩ := h; rfl) fun cdv A outer s H vs Q E hr h => ⟨_, PSs.nox (pss_cons (ps_if (pt_cmpR op_eq (pe_ix (ixt K) (pv 0) pe_int (fun _ _ => rfl)) pe_str (nomark _)) (pss_one (ps_ret (pe_lst (pa_cons (pe_ix (ixt K) (pv 0) pe_int (fun _ _ => rfl)) pa_nil)))) pss_nil)
 (pss_one (ps_ret (pe_lc2 (own := [("part", 1), ("path", 2)]) (vs1 := [2]) rfl sc.nd (PI.toK (t' := iTup K _) (pi_tup (pe_slice (slT K) (pv 0) (po_some pe_int) po_none))) (blkOk_by (N := N_paths_in) (sc := defScope s_paths_in) (by decide +kernel)) (by decide) (fun _ _ _ _ _ => (pg_name (i := 1) sc.nd rfl (Or.inl rfl))) (fun _ _ _ _ _ => pts_one (pt_val (pe_callB (cIsi K) rfl T.isinstance (by decide +kernel) (pa_cons (pv 1) (pa_cons (pe_bltn (v := .ty "tuple") rfl T.tuple (by decide +kernel) rfl) pa_nil))))) (fun _ _ _ _ _ => (PI.toK (t' := iList K _) (pi_list (pe_call G_paths_in (hr.mono (by omega)) rfl m_paths_in k_paths_in b_paths_in .nil pass0 (pa_cons (pv 1) pa_nil))))) (fun _ _ _ _ _ => (pg_name (i := 2) sc.nd rfl (Or.inl rfl))) (fun _ _ _ _ _ => pts_nil) (fun _ _ _ _ _ => (pv 2)))))), ?_⟩
  obtain ⟨_, hj3, v, e, rfl, he, hd, hQ⟩ := h
  obtain ⟨a, vs, rfl, ha, av⟩ := isEx_parts he
  by_cases hnm : ∃ x, e = .name x
  · obtain ⟨x, rfl⟩ := hnm
    match vs, av with
    | [_, _], ⟨q1, q2, _⟩ =>
    cases q1
    cases q2
    exact ⟨_, rfl, a, _, _, .str "name", rfl, rfl, SqT.of ha, rfl, rfl, _, rfl, iteT ⟨_, rfl, a, _, _, .str x, rfl, rfl, SqT.of ha, rfl, (by show 1 ≤ sizeLine; decide), fun p hp => hQ p _ (upd_same ..) hp (Kp.new hp)⟩⟩
  have hnn : ∀ x, e ≠ .name x := fun x z => hnm ⟨x, z⟩
  obtain ⟨wd, ps, hps, hwd⟩ := word_ne hnn
  obtain ⟨v0, vs0, rfl⟩ : ∃ v0 vs0, vs = v0 :: vs0 := by
    cases vs with
    | nil => rw [hps] at av; exact av.elim
    | cons x y => exact ⟨x, y, rfl⟩
  have hv0 : v0 = .str wd := by rw [hps] at av; exact av.1
  subst hv0
  refine ⟨_, rfl, a, _, _, .str wd, rfl, rfl, SqT.of ha, atI_nat (j := 0) rfl, rfl, _, rfl, ?_⟩
  rw [show decide (V.str wd = V.str "name") = false from decide_eq_false (fun z => hwd (V.str.inj z))]
  have avs0 : AllV (IsPt H) vs0 (e.parts.drop 1) := by
    rw [hps] at av ⊢
    exact av.2
  have hpl : (e.parts.drop 1).length ≤ 3 := by cases e <;> simp [Ex.parts]
  have hnl := names_len hd
  have h3j : 3 ^ (j + 1) ≤ 27 := Nat.le_trans (Nat.pow_le_pow_right (by decide) hj3) (by decide)
  rw [names_parts hnn] at hnl hQ
  refine iteF ⟨_, rfl, _, rfl, a, _, rfl, SqT.of ha, fun z => ?_, fun _ ts hts => ?_⟩
  · have h1 : HT.sIx (V.str wd :: vs0).length 0 (some 1) = 1 := by
      rw [show (1 : Int) = ((1 : Nat) : Int) from rfl, HT.sIx_nat, List.length_cons]
      omega
    rw [h1] at z
    exact absurd z.1 (by decide)
  rw [show cutV (V.str wd :: vs0) (some 1) none = vs0 from cutV_lo (k := 1) (by simp)]
  have kt : Kp [] H (upd H ts (.tup vs0)) := Kp.new hts
  have gt : upd H ts (.tup vs0) ts = some (.tup vs0) := upd_same ..
  generalize upd H ts (.tup vs0) = H1 at kt gt
  refine ⟨ts, rfl, ⟨_, SqT.of gt⟩, fun DD hDD => ?_⟩
  have hDH : H DD = none := kt.free hDD (by simp)
  refine lc2_tup (xs := vs0) (fun i H' => H' DD = some (.lst ((((e.parts.drop 1).take i).flatMap Pt.names).map V.str)) ∧ Kp [] H1 H') ⟨upd_same .., Kp.new hDD⟩ (fun i H' _ ⟨_, kk⟩ => SqT.of (kk.tup gt)) ?_ ?_
  · rintro i u H' hu ⟨hf, kk⟩
    obtain ⟨p, hp, hpt⟩ := avs0.get hu
    have et : (e.parts.drop 1).take (i + 1) = (e.parts.drop 1).take i ++ [p] := by rw [List.take_succ, hp]; rfl
    have hmp : p ∈ e.parts := List.mem_of_mem_drop (List.mem_of_getElem? hp)
    cases p with
    | int z =>
      cases hpt
      refine ⟨rfl, _, rfl, _, _, _, _, false, rfl, .ty _, .base (.int z), kit_it K, _, rfl, iteF ⟨?_, kk⟩⟩
      rw [et, List.flatMap_append]
      simp [Pt.names, hf]
    | str z =>
      cases hpt
      refine ⟨rfl, _, rfl, _, _, _, _, false, rfl, .ty _, .base (.str z), kit_s2 K, _, rfl, iteF ⟨?_, kk⟩⟩
      rw [et, List.flatMap_append]
      simp [Pt.names, hf]
    | ex f' =>
      obtain ⟨d1, d2⟩ := part_depth hd _ hmp f' rfl
      obtain ⟨b, ws, rfl, hb, ab⟩ := isEx_parts (show IsEx H f' u from hpt)
      have k2 := kt.trans kk
      have hf' : IsEx H' f' (.ref b) := IsEx.keep k2 (show IsEx H f' (.ref b) from hpt)
      have dpos : 1 ≤ f'.depth := by cases f' <;> simp [Ex.depth]
      refine ⟨rfl, _, rfl, _, _, _, _, true, rfl, .ty _, .base (.tup (k2.tup hb)), kit_tt K, _, rfl, iteT ⟨_, rfl, by omega, by omega, .ref b, f', rfl, hf', d1, fun p' H3 hp' hn' k3 => ⟨p', rfl, ⟨_, SqL.of hp'⟩, ?_⟩⟩⟩
      have hpd : DD ≠ p' := ne_of_none hf hn'
      have hlen : ((((e.parts.drop 1).take i).flatMap Pt.names)).length + (f'.names).length ≤ 27 := by
        have h1 : (((e.parts.drop 1).take (i + 1)).flatMap Pt.names).length ≤ ((e.parts.drop 1).flatMap Pt.names).length := by
          conv => rhs; rw [← List.take_append_drop (i + 1) (e.parts.drop 1)]
          rw [List.flatMap_append, List.length_append]
          omega
        rw [et, List.flatMap_append, List.length_append] at h1
        simp only [List.flatMap_cons, List.flatMap_nil, List.append_nil, Pt.names] at h1
        omega
      refine lc2_in (ys := f'.names.map V.str) (fun m H4 => H4 DD = some (.lst ((((e.parts.drop 1).take i).flatMap Pt.names ++ f'.names.take m).map V.str)) ∧ Kp [] H1 H4 ∧ H4 p' = some (.lst (f'.names.map V.str))) ⟨by simpa using k3.at hf (by simp), kk.trans k3, hp'⟩ (fun m H4 _ h => SqL.of h.2.2) ?_ ?_
      · rintro m y H4 hy ⟨h4, k4, p4⟩
        have hm : m < f'.names.length := by
          have := (List.getElem?_eq_some_iff.mp hy).1
          simpa using this
        have ey : y = .str f'.names[m] := by
          rw [List.getElem?_map, List.getElem?_eq_getElem hm] at hy
          exact (Option.some.inj hy).symm
        subst ey
        refine ⟨rfl, yesT ⟨_, rfl, _, h4, ?_, ?_, k4.fresh hDD, ?_⟩⟩
        · rw [List.length_map, List.length_append, List.length_take]
          exact Nat.lt_of_le_of_lt (show _ ≤ 27 by omega) (by decide)
        · have e2 : f'.names.take (m + 1) = f'.names.take m ++ [f'.names[m]] := by rw [List.take_succ, List.getElem?_eq_getElem hm]; rfl
          rw [upd_same, e2]
          simp only [List.map_append, List.append_assoc, List.map_cons, List.map_nil]
        · rw [upd_ne (Ne.symm hpd)]; exact p4
      · rintro H4 ⟨h4, k4, p4⟩
        rw [List.length_map, List.take_length] at h4
        refine ⟨?_, k4⟩
        rw [h4, et, List.flatMap_append]
        simp [Pt.names]
  · rintro H' ⟨hf, kk⟩
    rw [avs0.length, List.take_length] at hf
    exact hQ DD H' hf hDH (kt.trans kk)
end
end WT

set_option Elab.async false
set_option linter.all false
set_option maxRecDepth 100000
set_option maxHeartbeats 8000000
/-! The flattening. -/
namespace WT
open PySem PySem.Spec PyProof.Rows L2
theorem pre_depth {ah : Str} : ∀ e : Ex, (e.pre ah).depth = e.depth
  | .name _ => rfl
  | .num _ _ => rfl
  | .not a => congrArg (· + 1) (pre_depth a)
  | .bin _ a b => by show max (a.pre ah).depth (b.pre ah).depth + 1 = _; rw [pre_depth a, pre_depth b]; rfl
  | .pick a b c => by show max (max (a.pre ah).depth (b.pre ah).depth) (c.pre ah).depth + 1 = _; rw [pre_depth a, pre_depth b, pre_depth c]; rfl
  | .cut _ a => congrArg (· + 1) (pre_depth a)
  | .bit _ a => congrArg (· + 1) (pre_depth a)
theorem pre_names {ah : Str} : ∀ e : Ex, (e.pre ah).names = e.names.map (ah ++ ·)
  | .name _ => rfl
  | .num _ _ => rfl
  | .not a => pre_names a
  | .bin _ a b => by show (a.pre ah).names ++ (b.pre ah).names = (a.names ++ b.names).map _; rw [pre_names a, pre_names b, List.map_append]
  | .pick a b c => by show (a.pre ah).names ++ ((b.pre ah).names ++ (c.pre ah).names) = (a.names ++ (b.names ++ c.names)).map _; rw [pre_names a, pre_names b, pre_names c, List.map_append, List.map_append]
  | .cut _ a => pre_names a
  | .bit _ a => pre_names a
inductive FRow where
  | inr (p : Str) (w : Nat) (c : Str)
  | wire (p : Str) (w : Nat) (e : Ex)
  | out (p : Str) (w : Nat) (e : Ex)
  | box (p : Str) (w : Nat) (c : Str) (k : Nat) (e : Ex)
def FRow.path : FRow → Str
  | .inr p _ _ => p | .wire p _ _ => p | .out p _ _ => p | .box p _ _ _ _ => p
def FRow.width : FRow → Nat
  | .inr _ w _ => w | .wire _ w _ => w | .out _ w _ => w | .box _ w _ _ _ => w
def IsFRow (H : Hp) (v : V) : FRow → Prop
  | .inr p w c => ∃ a, v = .ref a ∧ H a = some (.tup [.str "in", .str p, .int (w : Int), .str c])
  | .wire p w e => ∃ a u, v = .ref a ∧ H a = some (.tup [.str "wire", .str p, .int (w : Int), u]) ∧ IsEx H e u
  | .out p w e => ∃ a u, v = .ref a ∧ H a = some (.tup [.str "out", .str p, .int (w : Int), u]) ∧ IsEx H e u
  | .box p w c k e => ∃ a u, v = .ref a ∧ H a = some (.tup [.str "box", .str p, .int (w : Int), .str c, .int (k : Int), u]) ∧ IsEx H e u
theorem IsFRow.keep {l : List Addr} {H H' : Hp} (k : Kp l H H') : ∀ {r : FRow} {v : V}, IsFRow H v r → IsFRow H' v r
  | .inr _ _ _, v, ⟨a, h1, h2⟩ => ⟨a, h1, k.tup h2⟩
  | .wire _ _ _, v, ⟨a, u, h1, h2, h3⟩ => ⟨a, u, h1, k.tup h2, h3.keep k⟩
  | .out _ _ _, v, ⟨a, u, h1, h2, h3⟩ => ⟨a, u, h1, k.tup h2, h3.keep k⟩
  | .box _ _ _ _ _, v, ⟨a, u, h1, h2, h3⟩ => ⟨a, u, h1, k.tup h2, h3.keep k⟩
def IsFW (H : Hp) (v : V) (r : FRow) : Prop := ∃ a fv wv, v = .ref a ∧ H a = some (.tup [fv, wv]) ∧ IsFRow H fv r
theorem IsFW.keep {l : List Addr} {H H' : Hp} (k : Kp l H H') {v : V} {r : FRow} (h : IsFW H v r) : IsFW H' v r := let ⟨a, f, w, h1, h2, h3⟩ := h; ⟨a, f, w, h1, k.tup h2, h3.keep k⟩
/-! ### the mirror -/
def clocksOf (rs : List MRow) : List Str := rs.filterMap fun r => match r with | .clock x => some x | _ => none
def insOf (rs : List MRow) : List Str := rs.filterMap fun r => match r with | .inr x _ _ => some x | _ => none
/-- the clock of a row of a module, in the flat design -/
def toOf (own : List Str) (ticks : List Str) (given : Option (List Ex)) (c : Str) : Str := if given.isNone then c else ticks.getD (own.idxOf c) c
def flatRow (rec : Str → Str → List Str → List Ex → List FRow) (ah : Str) (to : Str → Str) (given : Option (List Ex)) (ins : List Str) : MRow → List FRow
  | .clock _ => []
  | .inr x w c => match given with
    | none => [.inr (ah ++ x) w c]
    | some gv => [.wire (ah ++ x) w (gv.getD (ins.idxOf x) (.num 0 0))]
  | .wire x w e => [.wire (ah ++ x) w (e.pre ah)]
  | .out x w _ e => match given with
    | none => [.out (ah ++ x) w (e.pre ah)]
    | some _ => [.wire (ah ++ x) w (e.pre ah)]
  | .box x w c k e => [.box (ah ++ x) w (to c) k (e.pre ah)]
  | .cross x c k s => [.box (ah ++ x ++ ".one") 1 (to c) k (.name (ah ++ s)), .box (ah ++ x) 1 (to c) k (.name (ah ++ x ++ ".one"))]
  | .use x m hd gv => rec m (ah ++ x ++ ".") (hd.map to) (gv.map (Ex.pre ah))
abbrev Md : Type := List (Str × List MRow)
def flatRows (md : Md) : Nat → Str → Str → List Str → Option (List Ex) → List FRow
  | 0, _, _, _, _ => []
  | j + 1, nm, ah, ticks, given => ((md.lookup nm).getD []).flatMap (flatRow (fun m ah' tk gv => flatRows md j m ah' tk (some gv)) ah (toOf (clocksOf ((md.lookup nm).getD [])) ticks given) given (insOf ((md.lookup nm).getD [])))
/-- what an expression of a module's row is like -/
def ExOk (d : Nat) (e : Ex) : Prop := e.depth ≤ d ∧ ∀ x ∈ e.names, x.length ≤ 13
def WfRow (rs : List MRow) : MRow → Prop
  | .clock x => x.length ≤ 6
  | .inr x _ c => x.length ≤ 6
  | .wire x _ e => x.length ≤ 6 ∧ ExOk 3 e
  | .out x _ _ e => x.length ≤ 6 ∧ ExOk 3 e
  | .box x _ c _ e => x.length ≤ 6 ∧ c ∈ clocksOf rs ∧ ExOk 3 e
  | .cross x c _ s => x.length ≤ 6 ∧ c ∈ clocksOf rs ∧ s.length ≤ 13
  | .use x _ hd gv => x.length ≤ 6 ∧ (∀ t ∈ hd, t ∈ clocksOf rs) ∧ gv.length ≤ 3 ∧ ∀ e ∈ gv, ExOk 2 e
def WfM (md : Md) : Nat → Str → Prop
  | 0, _ => False
  | j + 1, nm => ∃ rs, md.lookup nm = some rs ∧ (clocksOf rs).Nodup ∧ rs.length ≤ 20 ∧ ∀ r ∈ rs, WfRow rs r ∧ ∀ x m hd gv, r = .use x m hd gv → (∃ rs', md.lookup m = some rs' ∧ hd.length = (clocksOf rs').length ∧ gv.length = (insOf rs').length) ∧ WfM md j m
theorem flatRows_len {md : Md} : ∀ {j : Nat} {nm ah : Str} {ticks : List Str} {given : Option (List Ex)}, WfM md j nm → (flatRows md j nm ah ticks given).length ≤ 2 * 20 ^ j
  | 0, _, _, _, _, h => h.elim
  | j + 1, nm, ah, ticks, given, ⟨rs, hrs, _, hl, hr⟩ => by
    unfold flatRows
    rw [hrs]
    simp only [Option.getD_some]
    have key : ∀ l : List MRow, (∀ r ∈ l, r ∈ rs) → (l.flatMap (flatRow (fun m ah' tk gv => flatRows md j m ah' tk (some gv)) ah (toOf (clocksOf rs) ticks given) given (insOf rs))).length ≤ l.length * (2 * 20 ^ j) := by
      intro l
      induction l with
      | nil => intro _; simp
      | cons r l ih =>
        intro hm
        have h1 := ih fun x hx => hm x (List.mem_cons_of_mem _ hx)
        have h0 : 1 ≤ 20 ^ j := Nat.one_le_pow _ _ (by decide)
        have h2 : (flatRow (fun m ah' tk gv => flatRows md j m ah' tk (some gv)) ah (toOf (clocksOf rs) ticks given) given (insOf rs) r).length ≤ 2 * 20 ^ j := by
          cases r with
          | use x m hd gv => exact flatRows_len ((hr _ (hm _ List.mem_cons_self)).2 x m hd gv rfl).2
          | inr x w c => cases given <;> simp [flatRow] <;> omega
          | out x w c e => cases given <;> simp [flatRow] <;> omega
          | _ => simp [flatRow] <;> omega
        rw [List.flatMap_cons, List.length_append, List.length_cons, Nat.succ_mul]
        omega
    have h3 := key rs (fun _ h => h)
    have h4 : rs.length * (2 * 20 ^ j) ≤ 20 * (2 * 20 ^ j) := Nat.mul_le_mul_right _ hl
    rw [Nat.pow_succ]
    omega
abbrev toK (q : Str × Str) : Key × V := (Sum.inr q.1, V.str q.2)
theorem to_get : ∀ {own tks : List Str} {c : Str}, own.length = tks.length → c ∈ own → valV ((own.zip tks).map toK) (Sum.inr c) = some (.str (tks.getD (own.idxOf c) c))
  | [], _, _, _, h => by simp at h
  | x :: own, [], _, h, _ => by simp at h
  | x :: own, y :: tks, c, h, hc => by
    unfold valV
    rw [List.zip_cons_cons, List.map_cons, List.find?_cons]
    by_cases e : x = c
    · subst e
      simp
    · have h1 : (decide ((toK (x, y)).1 = Sum.inr c)) = false := decide_eq_false (fun z => e (Sum.inr.inj z))
      rw [h1]
      have ih := to_get (own := own) (tks := tks) (c := c) (by simpa using h) (by
        rcases List.mem_cons.mp hc with z | z
        · exact absurd z.symm e
        · exact z)
      unfold valV at ih
      simp only [ih, List.idxOf_cons, show (x == c) = false from beq_eq_false_iff_ne.mpr e, cond_false, List.getD_cons_succ]
theorem keys_zip : ∀ {own tks : List Str}, own.length = tks.length → ((own.zip tks).map toK).map (·.1) = own.map Sum.inr
  | [], [], _ => rfl
  | x :: own, y :: tks, h => congrArg (Sum.inr x :: ·) (keys_zip (by simpa using h))
  | [], _ :: _, h => by simp at h
  | _ :: _, [], h => by simp at h
theorem nodup_inr {own : List Str} (h : own.Nodup) : (own.map (Sum.inr : Str → Key)).Nodup := by
  rw [List.Nodup, List.pairwise_map]
  exact List.Pairwise.imp (fun hab z => hab (Sum.inr.inj z)) h
/-- the word of a row -/
def MRow.word : MRow → Str
  | .clock _ => "clock" | .inr _ _ _ => "in" | .wire _ _ _ => "wire" | .out _ _ _ _ => "out" | .box _ _ _ _ _ => "box" | .cross _ _ _ _ => "cross" | .use _ _ _ _ => "use"
theorem row_head {H : Hp} {v : V} {r : MRow} (h : IsRow H v r) : ∃ a rest, v = .ref a ∧ H a = some (.tup (.str r.word :: .str r.nm :: rest)) := by
  cases r with
  | clock x => obtain ⟨a, h1, h2⟩ := h; exact ⟨a, _, h1, h2⟩
  | inr x w c => obtain ⟨a, h1, h2⟩ := h; exact ⟨a, _, h1, h2⟩
  | wire x w e => obtain ⟨a, u, h1, h2, _⟩ := h; exact ⟨a, _, h1, h2⟩
  | out x w c e => obtain ⟨a, u, h1, h2, _⟩ := h; exact ⟨a, _, h1, h2⟩
  | box x w c k e => obtain ⟨a, u, h1, h2, _⟩ := h; exact ⟨a, _, h1, h2⟩
  | cross x c k s => obtain ⟨a, h1, h2⟩ := h; exact ⟨a, _, h1, h2⟩
  | use x m hd gv => obtain ⟨a, p, q, us, h1, h2, _⟩ := h; exact ⟨a, _, h1, h2⟩
theorem clocksOf_snoc (l : List MRow) (r : MRow) : clocksOf (l ++ [r]) = clocksOf l ++ (if r.word = "clock" then [r.nm] else []) := by
  unfold clocksOf
  rw [List.filterMap_append]
  cases r <;> rfl
theorem insOf_snoc (l : List MRow) (r : MRow) : insOf (l ++ [r]) = insOf l ++ (if r.word = "in" then [r.nm] else []) := by
  unfold insOf
  rw [List.filterMap_append]
  cases r <;> rfl
def Made (H : Hp) (pm : Addr) (md : Md) : Prop := ∃ kvs : List (Key × V), H pm = some (.dK kvs) ∧ ∀ nm rs, md.lookup nm = some rs → ∃ q, valV kvs (Sum.inr nm) = some (.ref q) ∧ Rows H q rs
theorem Made.keep {H H' : Hp} {pm : Addr} {md : Md} (h : Made H pm md) (k : Kp [] H H') : Made H' pm md := by
  obtain ⟨kvs, h1, h2⟩ := h
  exact ⟨kvs, k.at h1 (by simp), fun nm rs e => let ⟨q, a, b⟩ := h2 nm rs e; ⟨q, a, b.keep k (by simp)⟩⟩
def GivenV (H : Hp) (v : V) : Option (List Ex) → Prop
  | none => v = .non
  | some gv => ∃ pg us, v = .ref pg ∧ H pg = some (.lst us) ∧ AllV (fun u e => IsEx H e u) us gv
theorem GivenV.keep {H H' : Hp} {v : V} {g : Option (List Ex)} (h : GivenV H v g) (k : Kp [] H H') : GivenV H' v g := by
  cases g with
  | none => exact h
  | some gv =>
    obtain ⟨pg, us, h1, h2, h3⟩ := h
    exact ⟨pg, us, h1, k.at h2 (by simp), h3.imp fun _ _ q => q.keep k⟩
abbrev s_flat_rows : Stmt := topS 29
abbrev N_flat_rows : List Str := ["_law_made", "_law_name", "_law_ahead", "_law_ticks", "_law_given", "_law_found", "_law_own", "_law_row", "_law_to", "_law_ins_here", "_law_k", "_law_path", "_law_word", "_law_handed", "_law_e", "_law_clock"]
abbrev P_flat_rows : List Str := ["_law_made", "_law_name", "_law_ahead", "_law_ticks", "_law_given"]
theorem sc_flat_rows : FnScope N_flat_rows P_flat_rows (defScope s_flat_rows) := ⟨rfl, rfl, rfl, by decide +kernel, rfl, by decide +kernel, by decide +kernel⟩
def spFlatRows (j : Nat) : Sp := fun vs H Q _ => 1 ≤ j ∧ j ≤ 3 ∧ ∃ (pm ptk : Addr) (nm ah : Str) (gvV : V) (md : Md) (ticks : List Str) (given : Option (List Ex)) (rs : List MRow), vs = [.ref pm, .str nm, .str ah, .ref ptk, gvV] ∧ Made H pm md ∧ GivenV H gvV given ∧ H ptk = some (.lst (ticks.map V.str)) ∧
  WfM md j nm ∧ md.lookup nm = some rs ∧ (∀ gv, given = some gv → ticks.length = (clocksOf rs).length ∧ gv.length = (insOf rs).length ∧ ∀ e ∈ gv, e.depth ≤ 3) ∧ ah.length + 7 * j ≤ 60 ∧
  ∀ p vs' H', H' p = some (.lst vs') → AllV (IsFW H') vs' (flatRows md j nm ah ticks given) → H p = none → Kp [] H H' → Q (.ref p) H'
section
variable {P : Program} {w : World} {K : PySem.W.Frag} {mg : Str → Option Value} {base : Heap}
theorem cal_flat_rows (S : Std K mg "_law_flat_rows" s_flat_rows) (T : Frees mg) (cpath : Cal P w K mg base "_law_in_path" 3 P_in_path (spInPath 3)) (j : Nat) : Cal P w K mg base "_law_flat_rows" (3 + j) P_flat_rows (spFlatRows j) := by
  induction j with
  | zero =>
    obtain ⟨f, fd, F, m⟩ := S
    exact ⟨f, fd, ⟨fun vs H Q E h => by have := h.1; omega, fun A outer s H args us vs Q E _ _ _ _ h => by have := h.1; omega⟩, m, F.kp, F.bindsN fun _ _ _ _ _ _ us hl => match us, hl with | [_, _, _, _, _], _ => rfl⟩
  | succ j ih =>
  obtain ⟨f, fd, F, m⟩ := S
  obtain ⟨fp, dp, G_in_path, m_in_path, k_in_path, b_in_path⟩ := cpath
  obtain ⟨fi, di, G_flat_rows, m_flat_rows, k_flat_rows, b_flat_rows⟩ := ih
  refine ⟨f, fd, ?_, m, F.kp, F.bindsN fun _ _ _ _ _ _ us hl => match us, hl with | [_, _, _, _, _], _ => rfl⟩
  have sc := sc_flat_rows
  refine F.ok (k := 3 + j) sc (fun vs H Q E h => by obtain ⟨_, _, _, _, _, _, _, _, _, _, _, rfl, _⟩ := h; rfl) fun cdv A outer s H vs Q E hr h => ⟨_, PSs.nox (pss_cons (ps_set (i := 5) sc.nd rfl (Or.inl rfl) (pe_lst pa_nil))
 (pss_cons (ps_setLc (i := 6) (own := [("_law_row", 7)]) rfl sc.nd rfl rfl (sw_true rfl rfl rfl (by decide +kernel)) (PI.toK (t' := iList K _) (pi_list (pe_dget (hu_of hr) (pv 0) (pv 1) (fun _ _ => rfl)))) (blkOk_by (N := N_flat_rows) (sc := defScope s_flat_rows) (by decide +kernel)) (fun _ _ _ _ _ => (pg_name (i := 7) sc.nd rfl (Or.inl rfl))) (fun _ _ _ _ _ => pts_one (pt_cmpR op_eq (pe_ix (ixt K) (pv 7) pe_int (fun _ _ => rfl)) pe_str (nomark _))) (fun _ _ _ _ _ => (pe_ix (ixt K) (pv 7) pe_int (fun _ _ => rfl))))
 (C8.pss_cut (ps_set (i := 8) sc.nd rfl (Or.inr rfl) (pe_callTy (call_dictP rfl) rfl T.dict (by decide +kernel) (pa_cons (PE.toK (t' := tLZ K _) (pe_lz rfl rfl T.list rfl T.zip (pa_cons (pv 6) (pa_cons (pe_ifExp (pt_cmpR op_notN (pv 4) pe_non (nomark _)) (pv 3) (pv 6)) pa_nil)))) pa_nil)))
 (C8.pss_cut (ps_setLc (i := 9) (own := [("_law_row", 7)]) rfl sc.nd rfl rfl (sw_true rfl rfl rfl (by decide +kernel)) (PI.toK (t' := iList K _) (pi_list (pe_dget (hu_of hr) (pv 0) (pv 1) (fun _ _ => rfl)))) (blkOk_by (N := N_flat_rows) (sc := defScope s_flat_rows) (by decide +kernel)) (fun _ _ _ _ _ => (pg_name (i := 7) sc.nd rfl (Or.inl rfl))) (fun _ _ _ _ _ => pts_one (pt_cmpR op_eq (pe_ix (ixt K) (pv 7) pe_int (fun _ _ => rfl)) pe_str (nomark _))) (fun _ _ _ _ _ => (pe_ix (ixt K) (pv 7) pe_int (fun _ _ => rfl))))
 (pss_cons (ps_for PassesOwn.never rfl (PI.toK (t' := iEnum K _) (pi_enum rfl T.enumerate (pa_cons (pe_dget (hu_of hr) (pv 0) (pv 1) (fun _ _ => rfl)) pa_nil))) (PG.toK (t' := gTup K 2 _) (pg_tup rfl (pgs_cons (pg_name (i := 10) sc.nd rfl (Or.inl rfl)) (pgs_cons (pg_name (i := 7) sc.nd rfl (Or.inl rfl)) pgs_nil))))
 (pss_cons (ps_set (i := 11) sc.nd rfl (Or.inl rfl) (pe_op op_add_str (pv 2) (pe_ix (ixt K) (pv 7) pe_int (fun _ _ => rfl))))
 (pss_cons (ps_if (PW.pt (pw_and (pt_cmpR op_eq (pe_ix (ixt K) (pv 7) pe_int (fun _ _ => rfl)) pe_str (nomark _)) (pw_and1 (pt_cmpR op_isN (pv 4) pe_non (nomark _))))) (pss_one (ps_expr (PE.toK (t' := tBM K _ _ _ _) (pe_bm PySem.F.plainAttrs_list PySem.F.slot_list_append PySem.F.type_list_append mt_append (pv 5) (pa_cons (pe_tup (pa_cons (pe_tup (pa_cons pe_str (pa_cons (pv 11) (pa_cons (pe_ix (ixt K) (pv 7) pe_int (fun _ _ => rfl)) (pa_cons (pe_ix (ixt K) (pv 7) pe_int (fun _ _ => rfl)) pa_nil))))) (pa_cons (pe_tup (pa_cons (pv 1) (pa_cons (pv 10) pa_nil))) pa_nil))) pa_nil))))) pss_nil)
 (pss_cons (ps_if (PW.pt (pw_and (pt_cmpR op_eq (pe_ix (ixt K) (pv 7) pe_int (fun _ _ => rfl)) pe_str (nomark _)) (pw_and1 (pt_cmpR op_notN (pv 4) pe_non (nomark _))))) (pss_one (ps_expr (PE.toK (t' := tBM K _ _ _ _) (pe_bm PySem.F.plainAttrs_list PySem.F.slot_list_append PySem.F.type_list_append mt_append (pv 5) (pa_cons (pe_tup (pa_cons (pe_tup (pa_cons pe_str (pa_cons (pv 11) (pa_cons (pe_ix (ixt K) (pv 7) pe_int (fun _ _ => rfl)) (pa_cons (pe_ix (ixl K) (pv 4) (PE.toK (t' := tBM K _ _ _ _) (pe_bm PySem.F.plainAttrs_list PySem.F.slot_list_index PySem.F.type_list_index (mIndex K) (pv 9) (pa_cons (pe_ix (ixt K) (pv 7) pe_int (fun _ _ => rfl)) pa_nil))) (fun _ _ => rfl)) pa_nil))))) (pa_cons (pe_tup (pa_cons (pv 1) (pa_cons (pv 10) pa_nil))) pa_nil))) pa_nil))))) pss_nil)
 (pss_cons (ps_if (pt_cmpR op_eq (pe_ix (ixt K) (pv 7) pe_int (fun _ _ => rfl)) pe_str (nomark _)) (pss_one (ps_expr (PE.toK (t' := tBM K _ _ _ _) (pe_bm PySem.F.plainAttrs_list PySem.F.slot_list_append PySem.F.type_list_append mt_append (pv 5) (pa_cons (pe_tup (pa_cons (pe_tup (pa_cons pe_str (pa_cons (pv 11) (pa_cons (pe_ix (ixt K) (pv 7) pe_int (fun _ _ => rfl)) (pa_cons (pe_call G_in_path (hr.mono (by omega)) rfl m_in_path k_in_path b_in_path .nil pass0 (pa_cons (pv 2) (pa_cons (pe_ix (ixt K) (pv 7) pe_int (fun _ _ => rfl)) pa_nil))) pa_nil))))) (pa_cons (pe_tup (pa_cons (pv 1) (pa_cons (pv 10) pa_nil))) pa_nil))) pa_nil))))) pss_nil)
 (pss_cons (ps_if (pt_cmpR op_eq (pe_ix (ixt K) (pv 7) pe_int (fun _ _ => rfl)) pe_str (nomark _)) (pss_cons (ps_set (i := 12) sc.nd rfl (Or.inl rfl) (pe_ifExp (pt_cmpR op_isN (pv 4) pe_non (nomark _)) pe_str pe_str))
 (pss_one (ps_expr (PE.toK (t' := tBM K _ _ _ _) (pe_bm PySem.F.plainAttrs_list PySem.F.slot_list_append PySem.F.type_list_append mt_append (pv 5) (pa_cons (pe_tup (pa_cons (pe_tup (pa_cons (pv 12) (pa_cons (pv 11) (pa_cons (pe_ix (ixt K) (pv 7) pe_int (fun _ _ => rfl)) (pa_cons (pe_call G_in_path (hr.mono (by omega)) rfl m_in_path k_in_path b_in_path .nil pass0 (pa_cons (pv 2) (pa_cons (pe_ix (ixt K) (pv 7) pe_int (fun _ _ => rfl)) pa_nil))) pa_nil))))) (pa_cons (pe_tup (pa_cons (pv 1) (pa_cons (pv 10) pa_nil))) pa_nil))) pa_nil)))))) pss_nil)
 (pss_cons (ps_if (pt_cmpR op_eq (pe_ix (ixt K) (pv 7) pe_int (fun _ _ => rfl)) pe_str (nomark _)) (pss_one (ps_expr (PE.toK (t' := tBM K _ _ _ _) (pe_bm PySem.F.plainAttrs_list PySem.F.slot_list_append PySem.F.type_list_append mt_append (pv 5) (pa_cons (pe_tup (pa_cons (pe_tup (pa_cons pe_str (pa_cons (pv 11) (pa_cons (pe_ix (ixt K) (pv 7) pe_int (fun _ _ => rfl)) (pa_cons (pe_dget (hu_of hr) (pv 8) (pe_ix (ixt K) (pv 7) pe_int (fun _ _ => rfl)) (fun _ _ => rfl)) (pa_cons (pe_ix (ixt K) (pv 7) pe_int (fun _ _ => rfl)) (pa_cons (pe_call G_in_path (hr.mono (by omega)) rfl m_in_path k_in_path b_in_path .nil pass0 (pa_cons (pv 2) (pa_cons (pe_ix (ixt K) (pv 7) pe_int (fun _ _ => rfl)) pa_nil))) pa_nil))))))) (pa_cons (pe_tup (pa_cons (pv 1) (pa_cons (pv 10) pa_nil))) pa_nil))) pa_nil))))) pss_nil)
 (pss_cons (ps_if (pt_cmpR op_eq (pe_ix (ixt K) (pv 7) pe_int (fun _ _ => rfl)) pe_str (nomark _)) (pss_cons (ps_expr (PE.toK (t' := tBM K _ _ _ _) (pe_bm PySem.F.plainAttrs_list PySem.F.slot_list_append PySem.F.type_list_append mt_append (pv 5) (pa_cons (pe_tup (pa_cons (pe_tup (pa_cons pe_str (pa_cons (pe_op op_add_str (pv 11) pe_str) (pa_cons pe_int (pa_cons (pe_dget (hu_of hr) (pv 8) (pe_ix (ixt K) (pv 7) pe_int (fun _ _ => rfl)) (fun _ _ => rfl)) (pa_cons (pe_ix (ixt K) (pv 7) pe_int (fun _ _ => rfl)) (pa_cons (pe_tup (pa_cons pe_str (pa_cons (pe_op op_add_str (pv 2) (pe_ix (ixt K) (pv 7) pe_int (fun _ _ => rfl))) pa_nil))) pa_nil))))))) (pa_cons (pe_tup (pa_cons (pv 1) (pa_cons (pv 10) pa_nil))) pa_nil))) pa_nil))))
 (pss_one (ps_expr (PE.toK (t' := tBM K _ _ _ _) (pe_bm PySem.F.plainAttrs_list PySem.F.slot_list_append PySem.F.type_list_append mt_append (pv 5) (pa_cons (pe_tup (pa_cons (pe_tup (pa_cons pe_str (pa_cons (pv 11) (pa_cons pe_int (pa_cons (pe_dget (hu_of hr) (pv 8) (pe_ix (ixt K) (pv 7) pe_int (fun _ _ => rfl)) (fun _ _ => rfl)) (pa_cons (pe_ix (ixt K) (pv 7) pe_int (fun _ _ => rfl)) (pa_cons (pe_tup (pa_cons pe_str (pa_cons (pe_op op_add_str (pv 11) pe_str) pa_nil))) pa_nil))))))) (pa_cons (pe_tup (pa_cons (pv 1) (pa_cons (pv 10) pa_nil))) pa_nil))) pa_nil)))))) pss_nil)
 (pss_one (ps_if (pt_cmpR op_eq (pe_ix (ixt K) (pv 7) pe_int (fun _ _ => rfl)) pe_str (nomark _)) (pss_cons (ps_setLc (i := 13) (own := [("_law_e", 14)]) rfl sc.nd rfl rfl (sw_true rfl rfl rfl (by decide +kernel)) (PI.toK (t' := iTup K _) (pi_tup (pe_ix (ixt K) (pv 7) pe_int (fun _ _ => rfl)))) (blkOk_by (N := N_flat_rows) (sc := defScope s_flat_rows) (by decide +kernel)) (fun _ _ _ _ _ => (pg_name (i := 14) sc.nd rfl (Or.inl rfl))) (fun _ _ _ _ _ => pts_nil) (fun _ _ _ _ _ => (pe_call G_in_path (hr.mono (by omega)) rfl m_in_path k_in_path b_in_path .nil pass0 (pa_cons (pv 2) (pa_cons (pv 14) pa_nil)))))
 (pss_one (ps_expr (PE.toK (t' := tBM K _ _ _ _) (pe_bm PySem.F.plainAttrs_list PySem.F.slot_list_extend PySem.F.type_list_extend mt_extend (pv 5) (pa_cons (pe_call G_flat_rows (hr.mono (by omega)) rfl m_flat_rows k_flat_rows b_flat_rows .nil pass0 (pa_cons (pv 0) (pa_cons (pe_ix (ixt K) (pv 7) pe_int (fun _ _ => rfl)) (pa_cons (pe_op op_add_str (pv 11) pe_str) (pa_cons (pe_lc (own := [("_law_clock", 15)]) rfl sc.nd (PI.toK (t' := iTup K _) (pi_tup (pe_ix (ixt K) (pv 7) pe_int (fun _ _ => rfl)))) (blkOk_by (N := N_flat_rows) (sc := defScope s_flat_rows) (by decide +kernel)) (fun _ _ _ _ _ => (pg_name (i := 15) sc.nd rfl (Or.inl rfl))) (fun _ _ _ _ _ => pts_nil) (fun _ _ _ _ _ => (pe_dget (hu_of hr) (pv 8) (pv 15) (fun _ _ => rfl)))) (pa_cons (pv 13) pa_nil)))))) pa_nil)))))) pss_nil))))))))))
 (pss_one (ps_ret (pv 5)))))))), ?_⟩
  obtain ⟨_, hj3, pm, ptk, nm, ah, gvV, md, ticks, given, rs, rfl, M, GV, htk, wf, hrs, hgv, hal, hQ⟩ := h
  obtain ⟨kvs, hpm, hmd⟩ := M
  obtain ⟨q, hqv, vr, hq, avr⟩ := hmd nm rs hrs
  obtain ⟨rs', hrs', hnd, hrl, hwf⟩ := wf
  rw [hrs] at hrs'
  cases hrs'
  have hvl : vr.length ≤ 20 := by rw [avr.length]; exact hrl
  have dgk : ∀ {H'}, Kp [] H H' → DGet H' pm (.str nm) (some (.ref q)) := fun k => by
    rw [← hqv]
    exact DGet.k (k := Sum.inr nm) (k.at hpm (by simp))
  -- found, the clocks
  refine ⟨(by show 0 ≤ sizeLine; decide), fun pf hpf => ?_⟩
  have kf : Kp [] H (upd H pf (.lst [])) := Kp.new hpf
  have gf : upd H pf (.lst []) pf = some (.lst []) := upd_same ..
  generalize upd H pf (.lst []) = H1 at kf gf
  refine ⟨_, rfl, _, rfl, pm, .ref q, rfl, dgk kf, q, rfl, ⟨_, SqL.of (kf.at hq (by simp))⟩, fun po hpo => ?_⟩
  refine lc_list (xs := vr) (fun i H' => H' po = some (.lst ((clocksOf (rs.take i)).map V.str)) ∧ Kp [] H1 H') ⟨upd_same .., Kp.new hpo⟩ (fun i H' _ h => SqL.of ((kf.trans h.2).at hq (by simp))) ?_ ?_
  · rintro i v H' hv ⟨h1, h2⟩
    obtain ⟨r, hr0, hrv⟩ := avr.get hv
    have hi : i < 20 := by
      have := (List.getElem?_eq_some_iff.mp hv).1
      omega
    obtain ⟨ta, rest, rfl, hta⟩ := row_head (hrv.keep (kf.trans h2))
    have et : rs.take (i + 1) = rs.take i ++ [r] := by rw [List.take_succ, hr0]; rfl
    refine ⟨rfl, _, rfl, ta, _, _, .str r.word, rfl, rfl, SqT.of hta, atI_nat (j := 0) rfl, rfl, _, rfl, ?_⟩
    by_cases hw : r.word = "clock"
    · rw [show decide (V.str r.word = V.str "clock") = true from decide_eq_true (by rw [hw])]
      refine iteT ⟨_, rfl, ta, _, _, .str r.nm, rfl, rfl, SqT.of hta, atI_nat (j := 1) rfl, _, h1, ?_, ?_, h2.fresh hpo⟩
      · rw [List.length_map]
        refine Nat.lt_of_le_of_lt (Nat.le_trans (List.length_filterMap_le _ _) ?_) (show 20 < sizeLine by decide)
        rw [List.length_take]
        exact Nat.le_trans (Nat.min_le_right ..) hrl
      · rw [upd_same, et, clocksOf_snoc, if_pos hw]
        simp
    · rw [show decide (V.str r.word = V.str "clock") = false from decide_eq_false (fun z => hw (V.str.inj z))]
      refine iteF ⟨?_, h2⟩
      rw [h1, et, clocksOf_snoc, if_neg hw]
      simp
  rintro H2 ⟨hpo2, k12⟩
  rw [avr.length, List.take_length] at hpo2
  have kf2 := kf.trans k12
  have hpo0 : H1 po = none := hpo
  generalize hown : clocksOf rs = own at hpo2 hnd
  have hol : own.length ≤ 20 := by
    rw [← hown]
    exact Nat.le_trans (List.length_filterMap_le _ _) hrl
  -- to
  generalize htk' : (if given.isNone then own else ticks) = tks
  have htl : own.length = tks.length := by
    rw [← htk']
    cases given with
    | none => rfl
    | some gv =>
      have := (hgv gv rfl).1
      rw [← hown]
      exact this.symm
  have hto : ∀ c ∈ own, tks.getD (own.idxOf c) c = toOf own ticks given c := fun c hc => by
    unfold toOf
    rw [← htk']
    cases given with
    | none =>
      have h1 : own.idxOf c < own.length := List.idxOf_lt_length_iff.mpr hc
      simp only [Option.isNone_none, if_true]
      rw [List.getD_eq_getElem?_getD, List.getElem?_eq_getElem h1, List.getElem_idxOf]
      rfl
    | some gv => rfl
  refine ⟨fun σ H' => ∃ (v7 v9 v10 v11 v12 v13 v14 v15 : Option V) (pto : Addr) (tv : List (Key × V)), σ = [some (.ref pm), some (.str nm), some (.str ah), some (.ref ptk), some gvV, some (.ref pf), some (.ref po), v7, some (.ref pto), v9, v10, v11, v12, v13, v14, v15] ∧ Kp [] H2 H' ∧ H' pto = some (.dK tv) ∧ pto ≠ pf ∧ ∀ c ∈ own, valV tv (Sum.inr c) = some (.str (toOf own ticks given c)), ?_, ?_⟩
  · have zl : ∀ pz : Addr, H2 pz = some (.lst (tks.map V.str)) → ∃ a b xs ys, [V.ref po, .ref pz] = [V.ref a, .ref b] ∧ SqL K H2 a xs ∧ SqL K H2 b ys ∧ xs.length = ys.length ∧ ∀ S H', ZL H2 H' S (xs.zip ys) → ∃ a ps kvs, [V.ref S] = [V.ref a] ∧ SqL K H' a (ps.map V.ref) ∧ Paired (fun p (kv : Key × V) => SqT K H' p [kV kv.1, kv.2]) ps kvs ∧ ∀ p, H' p = none → ∃ (v7 v9 v10 v11 v12 v13 v14 v15 : Option V) (pto : Addr) (tv : List (Key × V)), List.set (List.set (List.set (L2.start N_flat_rows [V.ref pm, V.str nm, V.str ah, V.ref ptk, gvV]) 5 (some (.ref pf))) 6 (some (.ref po))) 8 (some (.ref p)) = [some (.ref pm), some (.str nm), some (.str ah), some (.ref ptk), some gvV, some (.ref pf), some (.ref po), v7, some (.ref pto), v9, v10, v11, v12, v13, v14, v15] ∧ Kp [] H2 (upd H' p (.dK (mergeK [] kvs))) ∧ upd H' p (.dK (mergeK [] kvs)) pto = some (.dK tv) ∧ pto ≠ pf ∧ ∀ c ∈ own, valV tv (Sum.inr c) = some (.str (toOf own ticks given c)) := fun pz hz => by
      refine ⟨po, pz, _, _, rfl, SqL.of hpo2, SqL.of hz, by simpa using htl, fun S H' z => ?_⟩
      obtain ⟨refs, hrl', hS, hS0, same, hp⟩ := z
      have pr : Paired (fun p (kv : Key × V) => SqT K H' p [kV kv.1, kv.2]) refs ((own.zip tks).map toK) := by
        have hz1 : ((own.map V.str).zip (tks.map V.str)) = (own.zip tks).map fun q => (V.str q.1, V.str q.2) := by
          rw [List.zip_map]
          rfl
        rw [hz1] at hrl' hp
        rw [List.length_map] at hrl'
        have key : ∀ (l : List (Str × Str)) (r : List Addr) (n : Nat), r = refs.drop n → l = (own.zip tks).drop n → Paired (fun p (kv : Key × V) => SqT K H' p [kV kv.1, kv.2]) r (l.map toK) := by
          intro l
          induction l with
          | nil =>
            intro r n hr hl
            have : r = [] := by
              rw [hr, List.drop_eq_nil_iff]
              have := List.drop_eq_nil_iff.mp hl.symm
              omega
            subst this
            exact .nil
          | cons x l ih =>
            intro r n hr hl
            have hx : (own.zip tks)[n]? = some x := by
              have := congrArg (fun l : List (Str × Str) => l[0]?) hl
              simpa using this.symm
            have hn : n < refs.length := by
              have := (List.getElem?_eq_some_iff.mp hx).1
              omega
            have hrn : r = refs[n] :: refs.drop (n + 1) := by rw [hr]; exact List.drop_eq_getElem_cons hn
            rw [hrn]
            refine .cons ?_ (ih _ (n + 1) rfl ?_)
            · obtain ⟨_, _, h3⟩ := hp n refs[n] (V.str x.1, V.str x.2) (List.getElem?_eq_getElem hn) (by rw [List.getElem?_map, hx]; rfl)
              exact SqT.of h3
            · have := congrArg (fun l : List (Str × Str) => l.drop 1) hl
              simpa [List.drop_drop, Nat.add_comm] using this
        exact key _ refs 0 rfl rfl
      refine ⟨S, refs, _, rfl, SqL.of hS, pr, fun p hp0 => ?_⟩
      have em : mergeK [] ((own.zip tks).map toK) = (own.zip tks).map toK := by
        rw [mergeK_nodup (by rw [List.nil_append, keys_zip htl]; exact nodup_inr hnd)]; simp
      rw [em]
      refine ⟨_, _, _, _, _, _, _, _, p, _, rfl, (Same.kp [] same).trans (Kp.new hp0), upd_same .., ?_, fun c hc => by rw [← hto c hc]; exact to_get htl hc⟩
      exact Ne.symm (ne_of_none (((Same.kp [] same)).at (k12.at gf (by simp)) (by simp)) hp0)
    refine ⟨_, rfl, _, rfl, rfl, _, rfl, ?_⟩
    cases given with
    | none =>
      have e : gvV = .non := GV
      subst e
      refine iteF ⟨_, rfl, zl po ?_⟩
      rw [hpo2, ← htk']
      rfl
    | some gv =>
      obtain ⟨pg, us, rfl, hpg, aus⟩ := GV
      refine iteT ⟨_, rfl, zl ptk ?_⟩
      rw [← htk']
      exact kf2.at htk (by simp)
  rintro σ H3 ⟨v7, v9, v10, v11, v12, v13, v14, v15, pto, tv, rfl, k23, hpto, hptf, htv⟩
  have kf3 := kf2.trans k23
  -- the ins
  refine ⟨fun σ H' => ∃ (v7 v10 v11 v12 v13 v14 v15 : Option V) (pi : Addr), σ = [some (.ref pm), some (.str nm), some (.str ah), some (.ref ptk), some gvV, some (.ref pf), some (.ref po), v7, some (.ref pto), some (.ref pi), v10, v11, v12, v13, v14, v15] ∧ Kp [] H3 H' ∧ H' pi = some (.lst ((insOf rs).map V.str)) ∧ pi ≠ pf, ?_, ?_⟩
  · refine ⟨_, rfl, _, rfl, pm, .ref q, rfl, dgk kf3, q, rfl, ⟨_, SqL.of (kf3.at hq (by simp))⟩, fun pi hpi => ?_⟩
    have hpif : pi ≠ pf := Ne.symm (ne_of_none ((k12.trans k23).at gf (by simp)) hpi)
    refine lc_list (xs := vr) (fun i H' => H' pi = some (.lst ((insOf (rs.take i)).map V.str)) ∧ Kp [] H3 H') ⟨upd_same .., Kp.new hpi⟩ (fun i H' _ h => SqL.of ((kf3.trans h.2).at hq (by simp))) ?_ ?_
    · rintro i v H' hv ⟨h1, h2⟩
      obtain ⟨r, hr0, hrv⟩ := avr.get hv
      obtain ⟨ta, rest, rfl, hta⟩ := row_head (hrv.keep (kf3.trans h2))
      have et : rs.take (i + 1) = rs.take i ++ [r] := by rw [List.take_succ, hr0]; rfl
      refine ⟨rfl, _, rfl, ta, _, _, .str r.word, rfl, rfl, SqT.of hta, atI_nat (j := 0) rfl, rfl, _, rfl, ?_⟩
      by_cases hw : r.word = "in"
      · rw [show decide (V.str r.word = V.str "in") = true from decide_eq_true (by rw [hw])]
        refine iteT ⟨_, rfl, ta, _, _, .str r.nm, rfl, rfl, SqT.of hta, atI_nat (j := 1) rfl, _, h1, ?_, ?_, h2.fresh hpi⟩
        · rw [List.length_map]
          refine Nat.lt_of_le_of_lt (Nat.le_trans (List.length_filterMap_le _ _) ?_) (show 20 < sizeLine by decide)
          rw [List.length_take]
          exact Nat.le_trans (Nat.min_le_right ..) hrl
        · rw [upd_same, et, insOf_snoc, if_pos hw]
          simp
      · rw [show decide (V.str r.word = V.str "in") = false from decide_eq_false (fun z => hw (V.str.inj z))]
        refine iteF ⟨?_, h2⟩
        rw [h1, et, insOf_snoc, if_neg hw]
        simp
    · rintro H' ⟨h1, h2⟩
      rw [avr.length, List.take_length] at h1
      exact ⟨_, _, _, _, _, _, _, pi, rfl, h2, h1, hpif⟩
  rintro σ H4 ⟨v7, v10, v11, v12, v13, v14, v15, pi, rfl, k34, hpi, hpif⟩
  have kf4 := kf3.trans k34
  have gf4 := (k12.trans (k23.trans k34)).at gf (by simp)
  have hpto4 := k34.at hpto (by simp)
  have hah : ah.length ≤ 60 := by omega
  generalize hFR : flatRow (fun m ah' tk gv => flatRows md j m ah' tk (some gv)) ah (toOf own ticks given) given (insOf rs) = FR
  have hall : flatRows md (j + 1) nm ah ticks given = rs.flatMap FR := by
    rw [← hFR, ← hown]
    show ((md.lookup nm).getD []).flatMap _ = _
    rw [hrs]
    rfl
  have hwf' : WfM md (j + 1) nm := ⟨rs, hrs, by rw [hown]; exact hnd, hrl, hwf⟩
  have htot := flatRows_len (ah := ah) (ticks := ticks) (given := given) hwf'
  rw [hall] at htot hQ
  have h20 : 2 * 20 ^ (j + 1) ≤ 16000 := by
    have : j + 1 = 1 ∨ j + 1 = 2 ∨ j + 1 = 3 := by omega
    rcases this with e | e | e <;> rw [e] <;> decide
  have hpart : ∀ i, ((rs.take i).flatMap FR).length ≤ 16000 := fun i => by
    have h1 : ((rs.take i).flatMap FR).length ≤ (rs.flatMap FR).length := by
      conv => rhs; rw [← List.take_append_drop i rs]
      rw [List.flatMap_append, List.length_append]
      omega
    omega
  refine ⟨_, rfl, _, rfl, pm, .ref q, rfl, dgk kf4, q, _, rfl, SqL.of (kf4.at hq (by simp)), ?_⟩
  refine for_it (walk_enum (xs := vr)) (fun i σ H' => ∃ (v7 v10 v11 v12 v13 v14 v15 : Option V) (acc : List V), σ = [some (.ref pm), some (.str nm), some (.str ah), some (.ref ptk), some gvV, some (.ref pf), some (.ref po), v7, some (.ref pto), some (.ref pi), v10, v11, v12, v13, v14, v15] ∧ H' pf = some (.lst acc) ∧ AllV (IsFW H') acc ((rs.take i).flatMap FR) ∧ Kp [] H H' ∧ Kp [pf] H4 H')
    ⟨_, _, _, _, _, _, _, [], rfl, gf4, trivial, kf4, Kp.refl _ _⟩ (fun i σ H' _ ⟨_, _, _, _, _, _, _, _, _, _, _, kk, _⟩ => SqL.of (kk.at hq (by simp))) ?_ ?_
  · rintro i v σ H' Hn hi ⟨v7, v10, v11, v12, v13, v14, v15, acc, rfl, hacc, aacc, kk, kk4⟩ ⟨T0, x0, y0, rfl, hT0, rfl, hx0, hy0⟩
    cases hx0
    obtain ⟨r, hr0, hrv⟩ := avr.get hy0
    have et : (rs.take (i + 1)).flatMap FR = (rs.take i).flatMap FR ++ FR r := by
      rw [List.take_succ, hr0, List.flatMap_append]
      simp
    have hpart1 := hpart (i + 1)
    rw [et, List.length_append] at hpart1
    obtain ⟨wfr, wfu⟩ := hwf r (List.mem_of_getElem? hr0)
    have kT : Kp [] H' (upd H' T0 (.tup [.int (i : Nat), y0])) := Kp.new hT0
    have hT0' : upd H' T0 (.tup [.int (i : Nat), y0]) T0 = some (.tup [.int (i : Nat), y0]) := upd_same ..
    have hacc1 := kT.at hacc (by simp)
    have aacc1 := aacc.imp fun _ _ z => z.keep kT
    have kk1 := kk.trans kT
    have kk41 : Kp [pf] H4 (upd H' T0 (.tup [.int (i : Nat), y0])) := kk4.trans kT.up
    generalize upd H' T0 (.tup [.int (i : Nat), y0]) = H1' at kT hT0' hacc1 aacc1 kk1 kk41
    obtain ⟨ta, rest, rfl, hta⟩ := row_head (hrv.keep kk1)
    have hrow := hrv.keep kk1
    have hxl : r.nm.length ≤ 6 := by cases r <;> first | exact wfr.1 | exact wfr
    have hpath : (ah ++ r.nm).length ≤ 66 := by
      show (ah.cps ++ r.nm.cps).size ≤ 66
      rw [Array.size_append]
      have h1 : ah.cps.size ≤ 60 := hah
      have h2 : r.nm.cps.size ≤ 6 := hxl
      omega
    refine ⟨T0, _, rfl, SqT.of hT0', rfl, _, _, rfl, _, _, rfl, rfl, ?_⟩
    refine ⟨_, rfl, _, rfl, ta, _, _, .str r.nm, rfl, rfl, SqT.of hta, atI_nat (j := 1) rfl, _, _, rfl, rfl, Nat.le_trans (show ah.length + r.nm.length ≤ 66 by omega) (by decide), ?_⟩
    -- what an append does
    have app : ∀ (Ha : Hp) (ac : List V) (rws : List FRow) (fv : V) (r' : FRow) (t2 t3 : Addr), Ha pf = some (.lst ac) → AllV (IsFW Ha) ac rws → IsFRow Ha fv r' → Kp [] H Ha → Kp [pf] H4 Ha → Ha t2 = none → upd Ha t2 (.tup [.str nm, .int (i : Nat)]) t3 = none →
        upd (upd Ha t2 (.tup [.str nm, .int (i : Nat)])) t3 (.tup [fv, .ref t2]) pf = some (.lst ac) ∧ (AllV (IsFW (upd (upd (upd Ha t2 (.tup [.str nm, .int (i : Nat)])) t3 (.tup [fv, .ref t2])) pf (.lst (ac ++ [.ref t3])))) (ac ++ [.ref t3]) (rws ++ [r']) ∧ Kp [] H (upd (upd (upd Ha t2 (.tup [.str nm, .int (i : Nat)])) t3 (.tup [fv, .ref t2])) pf (.lst (ac ++ [.ref t3]))) ∧ Kp [pf] H4 (upd (upd (upd Ha t2 (.tup [.str nm, .int (i : Nat)])) t3 (.tup [fv, .ref t2])) pf (.lst (ac ++ [.ref t3]))) ∧ Kp [pf] Ha (upd (upd (upd Ha t2 (.tup [.str nm, .int (i : Nat)])) t3 (.tup [fv, .ref t2])) pf (.lst (ac ++ [.ref t3])))) := by
      intro Ha ac rws fv r' t2 t3 h1 h2 h3 h4 h5 h6 h7
      have ka : Kp [] Ha (upd (upd Ha t2 (.tup [.str nm, .int (i : Nat)])) t3 (.tup [fv, .ref t2])) := (Kp.new h6).step h7
      have hb := ka.at h1 (by simp)
      have g3 : upd (upd Ha t2 (.tup [.str nm, .int (i : Nat)])) t3 (.tup [fv, .ref t2]) t3 = some (.tup [fv, .ref t2]) := upd_same ..
      generalize upd (upd Ha t2 (.tup [.str nm, .int (i : Nat)])) t3 (.tup [fv, .ref t2]) = Hb at ka hb g3
      have kp : Kp [pf] Hb (upd Hb pf (.lst (ac ++ [.ref t3]))) := Kp.put hb (by simp)
      refine ⟨hb, ?_, (h4.trans ka).fresh hpf, (h5.trans ka.up).trans kp, ka.up.trans kp⟩
      exact ((h2.imp fun _ _ z => z.keep ka).imp fun _ _ z => z.keep kp).snoc ⟨t3, fv, .ref t2, rfl, kp.tup g3, (h3.keep ka).keep kp⟩
    have hal1 : acc.length < sizeLine := by
      rw [aacc.length]
      exact Nat.lt_of_le_of_lt (hpart i) (by decide)
    have give : ∀ {Hz : Hp} {ac : List V} (v7 v10 v11 v12 v13 v14 v15 : Option V), Hz pf = some (.lst ac) → AllV (IsFW Hz) ac ((rs.take i).flatMap FR ++ FR r) → Kp [] H Hz → Kp [pf] H4 Hz → ∃ (w7 w10 w11 w12 w13 w14 w15 : Option V) (acc : List V), [some (.ref pm), some (.str nm), some (.str ah), some (.ref ptk), some gvV, some (.ref pf), some (.ref po), v7, some (.ref pto), some (.ref pi), v10, v11, v12, v13, v14, v15] = [some (.ref pm), some (.str nm), some (.str ah), some (.ref ptk), some gvV, some (.ref pf), some (.ref po), w7, some (.ref pto), some (.ref pi), w10, w11, w12, w13, w14, w15] ∧ Hz pf = some (.lst acc) ∧ AllV (IsFW Hz) acc ((rs.take (i + 1)).flatMap FR) ∧ Kp [] H Hz ∧ Kp [pf] H4 Hz := fun v7 v10 v11 v12 v13 v14 v15 h1 h2 h3 h4 => ⟨_, _, _, _, _, _, _, _, rfl, h1, by rw [et]; exact h2, h3, h4⟩
    cases r with
    | clock x =>
      exact ⟨_, rfl, ta, _, _, .str "clock", rfl, rfl, SqT.of hta, atI_nat (j := 0) rfl, rfl, _, rfl, iteF (iteF ⟨_, rfl, ta, _, _, .str "clock", rfl, rfl, SqT.of hta, atI_nat (j := 0) rfl, rfl, _, rfl, iteF (iteF ⟨_, rfl, ta, _, _, .str "clock", rfl, rfl, SqT.of hta, atI_nat (j := 0) rfl, rfl, _, rfl, iteF ⟨_, rfl, ta, _, _, .str "clock", rfl, rfl, SqT.of hta, atI_nat (j := 0) rfl, rfl, _, rfl, iteF ⟨_, rfl, ta, _, _, .str "clock", rfl, rfl, SqT.of hta, atI_nat (j := 0) rfl, rfl, _, rfl, iteF ⟨_, rfl, ta, _, _, .str "clock", rfl, rfl, SqT.of hta, atI_nat (j := 0) rfl, rfl, _, rfl, iteF ⟨_, rfl, ta, _, _, .str "clock", rfl, rfl, SqT.of hta, atI_nat (j := 0) rfl, rfl, _, rfl, iteF (by exact give _ _ _ _ _ _ _ hacc1 (by rw [show FR (.clock x) = [] by rw [← hFR]; rfl, List.append_nil]; exact aacc1) kk1 kk41)⟩⟩⟩⟩⟩)⟩)⟩
    | inr x w c =>
      obtain ⟨ta', rfl', hta'⟩ := hrow
      cases rfl'
      cases given with
      | none =>
        have e0 : gvV = .non := GV
        subst e0
        refine ⟨_, rfl, ta, _, _, .str "in", rfl, rfl, SqT.of hta', atI_nat (j := 0) rfl, rfl, _, rfl, iteT ⟨_, rfl, rfl, _, rfl, iteT ⟨_, rfl, .inl ⟨rfl, _, SqL.of hacc1⟩, _, rfl, _, rfl, ta, _, _, .int (w : Int), rfl, rfl, SqT.of hta', atI_nat (j := 2) rfl, _, rfl, ta, _, _, .str c, rfl, rfl, SqT.of hta', atI_nat (j := 3) rfl, (by show 4 ≤ sizeLine; decide), fun t1 ht1 => ?_⟩⟩⟩
        have k1 : Kp [] H1' (upd H1' t1 (.tup [.str "in", .str (ah ++ x), .int (w : Int), .str c])) := Kp.new ht1
        have f1 : IsFRow (upd H1' t1 (.tup [.str "in", .str (ah ++ x), .int (w : Int), .str c])) (.ref t1) (.inr (ah ++ x) w c) := ⟨t1, rfl, upd_same ..⟩
        have hacc2 := k1.at hacc1 (by simp)
        have aacc2 := aacc1.imp fun _ _ z => z.keep k1
        have kk2 := kk1.trans k1
        have kk42 := kk41.trans (k1.up (l := [pf]))
        have hta2 := k1.tup hta'
        refine ⟨_, rfl, _, rfl, (by show 2 ≤ sizeLine; decide), fun t2 ht2 => ⟨(by show 2 ≤ sizeLine; decide), fun t3 ht3 => ?_⟩⟩
        obtain ⟨b1, b2, b3, b4, b5⟩ := app _ acc _ (.ref t1) _ t2 t3 hacc2 aacc2 f1 kk2 kk42 ht2 ht3
        have htz := b5.tup hta2
        refine ⟨pf, _, _, rfl, rfl, b1, hal1, _, rfl, ta, _, _, .str "in", rfl, rfl, SqT.of htz, atI_nat (j := 0) rfl, rfl, _, rfl, iteT ⟨_, rfl, rfl, _, rfl, iteF ⟨_, rfl, ta, _, _, .str "in", rfl, rfl, SqT.of htz, atI_nat (j := 0) rfl, rfl, _, rfl, iteF ⟨_, rfl, ta, _, _, .str "in", rfl, rfl, SqT.of htz, atI_nat (j := 0) rfl, rfl, _, rfl, iteF ⟨_, rfl, ta, _, _, .str "in", rfl, rfl, SqT.of htz, atI_nat (j := 0) rfl, rfl, _, rfl, iteF ⟨_, rfl, ta, _, _, .str "in", rfl, rfl, SqT.of htz, atI_nat (j := 0) rfl, rfl, _, rfl, iteF ⟨_, rfl, ta, _, _, .str "in", rfl, rfl, SqT.of htz, atI_nat (j := 0) rfl, rfl, _, rfl, iteF (by exact give _ _ _ _ _ _ _ (upd_same ..) (by rw [show FR (.inr x w c) = [.inr (ah ++ x) w c] by rw [← hFR]; rfl]; exact b2) b3 b4)⟩⟩⟩⟩⟩⟩⟩
      | some gv =>
        obtain ⟨pg, us, rfl, hpg, aus⟩ := GV
        have hpg1 := kk1.at hpg (by simp)
        have aus1 := aus.imp fun _ _ (z : IsEx H _ _) => IsEx.keep kk1 z
        have hxin : x ∈ insOf rs := by
          unfold insOf
          exact List.mem_filterMap.mpr ⟨_, List.mem_of_getElem? hr0, rfl⟩
        obtain ⟨f1, f2⟩ := idx_str hxin
        have hpi1 := kk41.at hpi (by simp [hpif])
        obtain ⟨gl1, gl2, gl3⟩ := hgv gv rfl
        have hix : (insOf rs).idxOf x < gv.length := by rw [gl2]; exact List.idxOf_lt_length_iff.mpr hxin
        obtain ⟨u, hu, hue⟩ := aus1.get' (List.getElem?_eq_getElem hix)
        have hgd : gv.getD ((insOf rs).idxOf x) (.num 0 0) = gv[(insOf rs).idxOf x] := by
          rw [List.getD_eq_getElem?_getD, List.getElem?_eq_getElem hix]; rfl
        refine ⟨_, rfl, ta, _, _, .str "in", rfl, rfl, SqT.of hta', atI_nat (j := 0) rfl, rfl, _, rfl, iteT ⟨_, rfl, rfl, _, rfl, iteF ⟨_, rfl, ta, _, _, .str "in", rfl, rfl, SqT.of hta', atI_nat (j := 0) rfl, rfl, _, rfl, iteT ⟨_, rfl, rfl, _, rfl, iteT ⟨_, rfl, .inl ⟨rfl, _, SqL.of hacc1⟩, _, rfl, _, rfl, ta, _, _, .int (w : Int), rfl, rfl, SqT.of hta', atI_nat (j := 2) rfl, _, rfl, _, rfl, .inl ⟨rfl, _, SqL.of hpi1⟩, _, rfl, ta, _, _, .str x, rfl, rfl, SqT.of hta', atI_nat (j := 1) rfl, pi, _, .str x, (insOf rs).idxOf x, .str x, rfl, rfl, SqL.of hpi1, rfl, (by rw [List.all_eq_true]; intro z hz; obtain ⟨z1, _, rfl⟩ := List.mem_map.mp hz; rfl), f1, decide_eq_true rfl, f2, pg, _, _, u, rfl, rfl, SqL.of hpg1, atI_nat hu, (by show 4 ≤ sizeLine; decide), fun t1 ht1 => ?_⟩⟩⟩⟩⟩
        have k1 : Kp [] H1' (upd H1' t1 (.tup [.str "wire", .str (ah ++ x), .int (w : Int), u])) := Kp.new ht1
        have f1 : IsFRow (upd H1' t1 (.tup [.str "wire", .str (ah ++ x), .int (w : Int), u])) (.ref t1) (.wire (ah ++ x) w gv[(insOf rs).idxOf x]) := ⟨t1, u, rfl, upd_same .., IsEx.keep k1 hue⟩
        have hacc2 := k1.at hacc1 (by simp)
        have aacc2 := aacc1.imp fun _ _ z => z.keep k1
        have kk2 := kk1.trans k1
        have kk42 := kk41.trans (k1.up (l := [pf]))
        have hta2 := k1.tup hta'
        refine ⟨_, rfl, _, rfl, (by show 2 ≤ sizeLine; decide), fun t2 ht2 => ⟨(by show 2 ≤ sizeLine; decide), fun t3 ht3 => ?_⟩⟩
        obtain ⟨b1, b2, b3, b4, b5⟩ := app _ acc _ (.ref t1) _ t2 t3 hacc2 aacc2 f1 kk2 kk42 ht2 ht3
        have htz := b5.tup hta2
        refine ⟨pf, _, _, rfl, rfl, b1, hal1, _, rfl, ta, _, _, .str "in", rfl, rfl, SqT.of htz, atI_nat (j := 0) rfl, rfl, _, rfl, iteF ⟨_, rfl, ta, _, _, .str "in", rfl, rfl, SqT.of htz, atI_nat (j := 0) rfl, rfl, _, rfl, iteF ⟨_, rfl, ta, _, _, .str "in", rfl, rfl, SqT.of htz, atI_nat (j := 0) rfl, rfl, _, rfl, iteF ⟨_, rfl, ta, _, _, .str "in", rfl, rfl, SqT.of htz, atI_nat (j := 0) rfl, rfl, _, rfl, iteF ⟨_, rfl, ta, _, _, .str "in", rfl, rfl, SqT.of htz, atI_nat (j := 0) rfl, rfl, _, rfl, iteF (by exact give _ _ _ _ _ _ _ (upd_same ..) (by rw [show FR (.inr x w c) = [.wire (ah ++ x) w gv[(insOf rs).idxOf x]] by rw [← hFR, ← hgd]; rfl]; exact b2) b3 b4)⟩⟩⟩⟩⟩
    | wire x w e =>
      obtain ⟨ta', u, rfl', hta', hex⟩ := hrow
      cases rfl'
      have de := wfr.2
      refine ⟨_, rfl, ta, _, _, .str "wire", rfl, rfl, SqT.of hta', atI_nat (j := 0) rfl, rfl, _, rfl, iteF (iteF ⟨_, rfl, ta, _, _, .str "wire", rfl, rfl, SqT.of hta', atI_nat (j := 0) rfl, rfl, _, rfl, iteF (iteF ⟨_, rfl, ta, _, _, .str "wire", rfl, rfl, SqT.of hta', atI_nat (j := 0) rfl, rfl, _, rfl, iteT ⟨_, rfl, .inl ⟨rfl, _, SqL.of hacc1⟩, _, rfl, _, rfl, ta, _, _, .int (w : Int), rfl, rfl, SqT.of hta', atI_nat (j := 2) rfl, _, rfl, _, rfl, ta, _, _, u, rfl, rfl, SqT.of hta', atI_nat (j := 3) rfl, by decide, ah, u, e, rfl, hex, de.1, by omega, fun z hz => Nat.le_trans (de.2 z hz) (by decide), fun v' H2 hv' k2 => ⟨(by show 4 ≤ sizeLine; decide), fun t1 ht1 => ?_⟩⟩⟩)⟩)⟩
      have k1 : Kp [] H1' (upd H2 t1 (.tup [.str "wire", .str (ah ++ x), .int (w : Int), v'])) := k2.trans (Kp.new ht1)
      have f1 : IsFRow (upd H2 t1 (.tup [.str "wire", .str (ah ++ x), .int (w : Int), v'])) (.ref t1) (.wire (ah ++ x) w (e.pre ah)) := ⟨t1, v', rfl, upd_same .., IsEx.keep (Kp.new (l := []) ht1) hv'⟩
      have hacc2 := k1.at hacc1 (by simp)
      have aacc2 := aacc1.imp fun _ _ z => z.keep k1
      have kk2 := kk1.trans k1
      have kk42 := kk41.trans (k1.up (l := [pf]))
      have hta2 := k1.tup hta'
      refine ⟨_, rfl, _, rfl, (by show 2 ≤ sizeLine; decide), fun t2 ht2 => ⟨(by show 2 ≤ sizeLine; decide), fun t3 ht3 => ?_⟩⟩
      obtain ⟨b1, b2, b3, b4, b5⟩ := app _ acc _ (.ref t1) _ t2 t3 hacc2 aacc2 f1 kk2 kk42 ht2 ht3
      have htz := b5.tup hta2
      refine ⟨pf, _, _, rfl, rfl, b1, hal1, _, rfl, ta, _, _, .str "wire", rfl, rfl, SqT.of htz, atI_nat (j := 0) rfl, rfl, _, rfl, iteF ⟨_, rfl, ta, _, _, .str "wire", rfl, rfl, SqT.of htz, atI_nat (j := 0) rfl, rfl, _, rfl, iteF ⟨_, rfl, ta, _, _, .str "wire", rfl, rfl, SqT.of htz, atI_nat (j := 0) rfl, rfl, _, rfl, iteF ⟨_, rfl, ta, _, _, .str "wire", rfl, rfl, SqT.of htz, atI_nat (j := 0) rfl, rfl, _, rfl, iteF (by exact give _ _ _ _ _ _ _ (upd_same ..) (by rw [show FR (.wire x w e) = [.wire (ah ++ x) w (e.pre ah)] by rw [← hFR]; rfl]; exact b2) b3 b4)⟩⟩⟩⟩
    | out x w c e =>
      obtain ⟨ta', u, rfl', hta', hex⟩ := hrow
      cases rfl'
      have de := wfr.2
      cases given with
      | none =>
        have e0 : gvV = .non := GV
        subst e0
        refine ⟨_, rfl, ta, _, _, .str "out", rfl, rfl, SqT.of hta', atI_nat (j := 0) rfl, rfl, _, rfl, iteF (iteF ⟨_, rfl, ta, _, _, .str "out", rfl, rfl, SqT.of hta', atI_nat (j := 0) rfl, rfl, _, rfl, iteF (iteF ⟨_, rfl, ta, _, _, .str "out", rfl, rfl, SqT.of hta', atI_nat (j := 0) rfl, rfl, _, rfl, iteF ⟨_, rfl, ta, _, _, .str "out", rfl, rfl, SqT.of hta', atI_nat (j := 0) rfl, rfl, _, rfl, iteT ⟨_, rfl, rfl, _, rfl, iteT ⟨_, rfl, .inl ⟨rfl, _, SqL.of hacc1⟩, _, rfl, _, rfl, _, rfl, ta, _, _, .int (w : Int), rfl, rfl, SqT.of hta', atI_nat (j := 2) rfl, _, rfl, _, rfl, ta, _, _, u, rfl, rfl, SqT.of hta', atI_nat (j := 4) rfl, by decide, ah, u, e, rfl, hex, de.1, by omega, fun z hz => Nat.le_trans (de.2 z hz) (by decide), fun v' H2 hv' k2 => ⟨(by show 4 ≤ sizeLine; decide), fun t1 ht1 => ?_⟩⟩⟩⟩⟩)⟩)⟩
        have k1 : Kp [] H1' (upd H2 t1 (.tup [.str "out", .str (ah ++ x), .int (w : Int), v'])) := k2.trans (Kp.new ht1)
        have f1 : IsFRow (upd H2 t1 (.tup [.str "out", .str (ah ++ x), .int (w : Int), v'])) (.ref t1) (.out (ah ++ x) w (e.pre ah)) := ⟨t1, v', rfl, upd_same .., IsEx.keep (Kp.new (l := []) ht1) hv'⟩
        have hacc2 := k1.at hacc1 (by simp)
        have aacc2 := aacc1.imp fun _ _ z => z.keep k1
        have kk2 := kk1.trans k1
        have kk42 := kk41.trans (k1.up (l := [pf]))
        have hta2 := k1.tup hta'
        refine ⟨_, rfl, _, rfl, (by show 2 ≤ sizeLine; decide), fun t2 ht2 => ⟨(by show 2 ≤ sizeLine; decide), fun t3 ht3 => ?_⟩⟩
        obtain ⟨b1, b2, b3, b4, b5⟩ := app _ acc _ (.ref t1) _ t2 t3 hacc2 aacc2 f1 kk2 kk42 ht2 ht3
        have htz := b5.tup hta2
        refine ⟨pf, _, _, rfl, rfl, b1, hal1, _, rfl, ta, _, _, .str "out", rfl, rfl, SqT.of htz, atI_nat (j := 0) rfl, rfl, _, rfl, iteF ⟨_, rfl, ta, _, _, .str "out", rfl, rfl, SqT.of htz, atI_nat (j := 0) rfl, rfl, _, rfl, iteF ⟨_, rfl, ta, _, _, .str "out", rfl, rfl, SqT.of htz, atI_nat (j := 0) rfl, rfl, _, rfl, iteF (by exact give _ _ _ _ _ _ _ (upd_same ..) (by rw [show FR (.out x w c e) = [.out (ah ++ x) w (e.pre ah)] by rw [← hFR]; rfl]; exact b2) b3 b4)⟩⟩⟩
      | some gv =>
        obtain ⟨pg, us, rfl, hpg, aus⟩ := GV
        refine ⟨_, rfl, ta, _, _, .str "out", rfl, rfl, SqT.of hta', atI_nat (j := 0) rfl, rfl, _, rfl, iteF (iteF ⟨_, rfl, ta, _, _, .str "out", rfl, rfl, SqT.of hta', atI_nat (j := 0) rfl, rfl, _, rfl, iteF (iteF ⟨_, rfl, ta, _, _, .str "out", rfl, rfl, SqT.of hta', atI_nat (j := 0) rfl, rfl, _, rfl, iteF ⟨_, rfl, ta, _, _, .str "out", rfl, rfl, SqT.of hta', atI_nat (j := 0) rfl, rfl, _, rfl, iteT ⟨_, rfl, rfl, _, rfl, iteF ⟨_, rfl, .inl ⟨rfl, _, SqL.of hacc1⟩, _, rfl, _, rfl, _, rfl, ta, _, _, .int (w : Int), rfl, rfl, SqT.of hta', atI_nat (j := 2) rfl, _, rfl, _, rfl, ta, _, _, u, rfl, rfl, SqT.of hta', atI_nat (j := 4) rfl, by decide, ah, u, e, rfl, hex, de.1, by omega, fun z hz => Nat.le_trans (de.2 z hz) (by decide), fun v' H2 hv' k2 => ⟨(by show 4 ≤ sizeLine; decide), fun t1 ht1 => ?_⟩⟩⟩⟩⟩)⟩)⟩
        have k1 : Kp [] H1' (upd H2 t1 (.tup [.str "wire", .str (ah ++ x), .int (w : Int), v'])) := k2.trans (Kp.new ht1)
        have f1 : IsFRow (upd H2 t1 (.tup [.str "wire", .str (ah ++ x), .int (w : Int), v'])) (.ref t1) (.wire (ah ++ x) w (e.pre ah)) := ⟨t1, v', rfl, upd_same .., IsEx.keep (Kp.new (l := []) ht1) hv'⟩
        have hacc2 := k1.at hacc1 (by simp)
        have aacc2 := aacc1.imp fun _ _ z => z.keep k1
        have kk2 := kk1.trans k1
        have kk42 := kk41.trans (k1.up (l := [pf]))
        have hta2 := k1.tup hta'
        refine ⟨_, rfl, _, rfl, (by show 2 ≤ sizeLine; decide), fun t2 ht2 => ⟨(by show 2 ≤ sizeLine; decide), fun t3 ht3 => ?_⟩⟩
        obtain ⟨b1, b2, b3, b4, b5⟩ := app _ acc _ (.ref t1) _ t2 t3 hacc2 aacc2 f1 kk2 kk42 ht2 ht3
        have htz := b5.tup hta2
        refine ⟨pf, _, _, rfl, rfl, b1, hal1, _, rfl, ta, _, _, .str "out", rfl, rfl, SqT.of htz, atI_nat (j := 0) rfl, rfl, _, rfl, iteF ⟨_, rfl, ta, _, _, .str "out", rfl, rfl, SqT.of htz, atI_nat (j := 0) rfl, rfl, _, rfl, iteF ⟨_, rfl, ta, _, _, .str "out", rfl, rfl, SqT.of htz, atI_nat (j := 0) rfl, rfl, _, rfl, iteF (by exact give _ _ _ _ _ _ _ (upd_same ..) (by rw [show FR (.out x w c e) = [.wire (ah ++ x) w (e.pre ah)] by rw [← hFR]; rfl]; exact b2) b3 b4)⟩⟩⟩
    | box x w c k e =>
      obtain ⟨ta', u, rfl', hta', hex⟩ := hrow
      cases rfl'
      have de := wfr.2.2
      have hto1 := kk41.at hpto4 (by simp [hptf])
      have hcv := htv c (by rw [← hown]; exact wfr.2.1)
      have dto : DGet H1' pto (.str c) (some (.str (toOf own ticks given c))) := by rw [← hcv]; exact DGet.k (k := Sum.inr c) hto1
      refine ⟨_, rfl, ta, _, _, .str "box", rfl, rfl, SqT.of hta', atI_nat (j := 0) rfl, rfl, _, rfl, iteF (iteF ⟨_, rfl, ta, _, _, .str "box", rfl, rfl, SqT.of hta', atI_nat (j := 0) rfl, rfl, _, rfl, iteF (iteF ⟨_, rfl, ta, _, _, .str "box", rfl, rfl, SqT.of hta', atI_nat (j := 0) rfl, rfl, _, rfl, iteF ⟨_, rfl, ta, _, _, .str "box", rfl, rfl, SqT.of hta', atI_nat (j := 0) rfl, rfl, _, rfl, iteF ⟨_, rfl, ta, _, _, .str "box", rfl, rfl, SqT.of hta', atI_nat (j := 0) rfl, rfl, _, rfl, iteT ⟨_, rfl, .inl ⟨rfl, _, SqL.of hacc1⟩, _, rfl, _, rfl, ta, _, _, .int (w : Int), rfl, rfl, SqT.of hta', atI_nat (j := 2) rfl, _, rfl, _, rfl, ta, _, _, .str c, rfl, rfl, SqT.of hta', atI_nat (j := 3) rfl, pto, _, rfl, dto, _, rfl, ta, _, _, .int (k : Int), rfl, rfl, SqT.of hta', atI_nat (j := 4) rfl, _, rfl, _, rfl, ta, _, _, u, rfl, rfl, SqT.of hta', atI_nat (j := 5) rfl, by decide, ah, u, e, rfl, hex, de.1, by omega, fun z hz => Nat.le_trans (de.2 z hz) (by decide), fun v' H2 hv' k2 => ⟨(by show 6 ≤ sizeLine; decide), fun t1 ht1 => ?_⟩⟩⟩⟩⟩)⟩)⟩
      have k1 : Kp [] H1' (upd H2 t1 (.tup [.str "box", .str (ah ++ x), .int (w : Int), .str (toOf own ticks given c), .int (k : Int), v'])) := k2.trans (Kp.new ht1)
      have f1 : IsFRow (upd H2 t1 (.tup [.str "box", .str (ah ++ x), .int (w : Int), .str (toOf own ticks given c), .int (k : Int), v'])) (.ref t1) (.box (ah ++ x) w (toOf own ticks given c) k (e.pre ah)) := ⟨t1, v', rfl, upd_same .., IsEx.keep (Kp.new (l := []) ht1) hv'⟩
      have hacc2 := k1.at hacc1 (by simp)
      have aacc2 := aacc1.imp fun _ _ z => z.keep k1
      have kk2 := kk1.trans k1
      have kk42 := kk41.trans (k1.up (l := [pf]))
      have hta2 := k1.tup hta'
      refine ⟨_, rfl, _, rfl, (by show 2 ≤ sizeLine; decide), fun t2 ht2 => ⟨(by show 2 ≤ sizeLine; decide), fun t3 ht3 => ?_⟩⟩
      obtain ⟨b1, b2, b3, b4, b5⟩ := app _ acc _ (.ref t1) _ t2 t3 hacc2 aacc2 f1 kk2 kk42 ht2 ht3
      have htz := b5.tup hta2
      refine ⟨pf, _, _, rfl, rfl, b1, hal1, _, rfl, ta, _, _, .str "box", rfl, rfl, SqT.of htz, atI_nat (j := 0) rfl, rfl, _, rfl, iteF ⟨_, rfl, ta, _, _, .str "box", rfl, rfl, SqT.of htz, atI_nat (j := 0) rfl, rfl, _, rfl, iteF (by exact give _ _ _ _ _ _ _ (upd_same ..) (by rw [show FR (.box x w c k e) = [.box (ah ++ x) w (toOf own ticks given c) k (e.pre ah)] by rw [← hFR]; rfl]; exact b2) b3 b4)⟩⟩
    | cross x c k s =>
      obtain ⟨ta', rfl', hta'⟩ := hrow
      cases rfl'
      have hto1 := kk41.at hpto4 (by simp [hptf])
      have hcv := htv c (by rw [← hown]; exact wfr.2.1)
      have dto : ∀ {Hx}, Kp [pf] H4 Hx → DGet Hx pto (.str c) (some (.str (toOf own ticks given c))) := fun kx => by rw [← hcv]; exact DGet.k (k := Sum.inr c) (kx.at hpto4 (by simp [hptf]))
      have hl1 : (ah ++ x).length + (".one" : Str).length ≤ 70 := by
        have : (".one" : Str).length = 4 := by decide
        have : (ah ++ x).length ≤ 66 := hpath
        omega
      have hl2 : ah.length + s.length ≤ 80 := by have := wfr.2.2; omega
      refine ⟨_, rfl, ta, _, _, .str "cross", rfl, rfl, SqT.of hta', atI_nat (j := 0) rfl, rfl, _, rfl, iteF (iteF ⟨_, rfl, ta, _, _, .str "cross", rfl, rfl, SqT.of hta', atI_nat (j := 0) rfl, rfl, _, rfl, iteF (iteF ⟨_, rfl, ta, _, _, .str "cross", rfl, rfl, SqT.of hta', atI_nat (j := 0) rfl, rfl, _, rfl, iteF ⟨_, rfl, ta, _, _, .str "cross", rfl, rfl, SqT.of hta', atI_nat (j := 0) rfl, rfl, _, rfl, iteF ⟨_, rfl, ta, _, _, .str "cross", rfl, rfl, SqT.of hta', atI_nat (j := 0) rfl, rfl, _, rfl, iteF ⟨_, rfl, ta, _, _, .str "cross", rfl, rfl, SqT.of hta', atI_nat (j := 0) rfl, rfl, _, rfl, iteT ⟨_, rfl, .inl ⟨rfl, _, SqL.of hacc1⟩, _, rfl, _, _, rfl, rfl, Nat.le_trans hl1 (by decide), _, rfl, _, rfl, ta, _, _, .str c, rfl, rfl, SqT.of hta', atI_nat (j := 2) rfl, pto, _, rfl, dto kk41, _, rfl, ta, _, _, .int (k : Int), rfl, rfl, SqT.of hta', atI_nat (j := 3) rfl, _, rfl, _, rfl, ta, _, _, .str s, rfl, rfl, SqT.of hta', atI_nat (j := 4) rfl, _, _, rfl, rfl, Nat.le_trans hl2 (by decide), (by show 2 ≤ sizeLine; decide), fun tn htn => ⟨(by show 6 ≤ sizeLine; decide), fun t1 ht1 => ?_⟩⟩⟩⟩⟩⟩)⟩)⟩
      have k1 : Kp [] H1' (upd (upd H1' tn (.tup [.str "name", .str (ah ++ s)])) t1 (.tup [.str "box", .str (ah ++ x ++ ".one"), .int 1, .str (toOf own ticks given c), .int (k : Int), .ref tn])) := (Kp.new htn).step ht1
      have f1 : IsFRow (upd (upd H1' tn (.tup [.str "name", .str (ah ++ s)])) t1 (.tup [.str "box", .str (ah ++ x ++ ".one"), .int 1, .str (toOf own ticks given c), .int (k : Int), .ref tn])) (.ref t1) (.box (ah ++ x ++ ".one") 1 (toOf own ticks given c) k (.name (ah ++ s))) := ⟨t1, .ref tn, rfl, upd_same .., tn, rfl, (Kp.new (l := []) ht1).tup (upd_same ..)⟩
      have hacc2 := k1.at hacc1 (by simp)
      have aacc2 := aacc1.imp fun _ _ z => z.keep k1
      have kk2 := kk1.trans k1
      have kk42 := kk41.trans (k1.up (l := [pf]))
      have hta2 := k1.tup hta'
      refine ⟨_, rfl, _, rfl, (by show 2 ≤ sizeLine; decide), fun t2 ht2 => ⟨(by show 2 ≤ sizeLine; decide), fun t3 ht3 => ?_⟩⟩
      obtain ⟨b1, b2, b3, b4, b5⟩ := app _ acc _ (.ref t1) _ t2 t3 hacc2 aacc2 f1 kk2 kk42 ht2 ht3
      have htz := b5.tup hta2
      refine ⟨pf, _, _, rfl, rfl, b1, hal1, ?_⟩
      generalize hH5 : upd _ pf (HO.lst (acc ++ [V.ref t3])) = H5'
      have hacc3 : H5' pf = some (.lst (acc ++ [.ref t3])) := by rw [← hH5]; exact upd_same ..
      replace b2 : AllV (IsFW H5') (acc ++ [.ref t3]) ((rs.take i).flatMap FR ++ [.box (ah ++ x ++ ".one") 1 (toOf own ticks given c) k (.name (ah ++ s))]) := by rw [← hH5]; exact b2
      replace b3 : Kp [] H H5' := by rw [← hH5]; exact b3
      replace b4 : Kp [pf] H4 H5' := by rw [← hH5]; exact b4
      replace htz : H5' ta = some (.tup [.str "cross", .str x, .str c, .int (k : Int), .str s]) := by rw [← hH5]; exact htz
      clear hH5 b1 b5
      have hal2 : (acc ++ [V.ref t3]).length < sizeLine := by
        rw [List.length_append, aacc1.length]
        exact Nat.lt_of_le_of_lt (show _ ≤ 16001 from Nat.succ_le_succ (hpart i)) (by decide)
      refine ⟨_, rfl, .inl ⟨rfl, _, SqL.of hacc3⟩, _, rfl, _, rfl, _, rfl, ta, _, _, .str c, rfl, rfl, SqT.of htz, atI_nat (j := 2) rfl, pto, _, rfl, dto b4, _, rfl, ta, _, _, .int (k : Int), rfl, rfl, SqT.of htz, atI_nat (j := 3) rfl, _, rfl, _, _, rfl, rfl, Nat.le_trans hl1 (by decide), (by show 2 ≤ sizeLine; decide), fun tm htm => ⟨(by show 6 ≤ sizeLine; decide), fun s1 hs1 => ?_⟩⟩
      have j1 : Kp [] H5' (upd (upd H5' tm (.tup [.str "name", .str (ah ++ x ++ ".one")])) s1 (.tup [.str "box", .str (ah ++ x), .int 1, .str (toOf own ticks given c), .int (k : Int), .ref tm])) := (Kp.new htm).step hs1
      have g1 : IsFRow (upd (upd H5' tm (.tup [.str "name", .str (ah ++ x ++ ".one")])) s1 (.tup [.str "box", .str (ah ++ x), .int 1, .str (toOf own ticks given c), .int (k : Int), .ref tm])) (.ref s1) (.box (ah ++ x) 1 (toOf own ticks given c) k (.name (ah ++ x ++ ".one"))) := ⟨s1, .ref tm, rfl, upd_same .., tm, rfl, (Kp.new (l := []) hs1).tup (upd_same ..)⟩
      refine ⟨_, rfl, _, rfl, (by show 2 ≤ sizeLine; decide), fun s2 hs2 => ⟨(by show 2 ≤ sizeLine; decide), fun s3 hs3 => ?_⟩⟩
      obtain ⟨c1, c2, c3, c4, c5⟩ := app _ _ _ (.ref s1) _ s2 s3 (j1.at hacc3 (by simp)) (b2.imp fun _ _ z => z.keep j1) g1 (b3.trans j1) (b4.trans (j1.up (l := [pf]))) hs2 hs3
      have htw := c5.tup (j1.tup htz)
      refine ⟨pf, _, _, rfl, rfl, c1, hal2, _, rfl, ta, _, _, .str "cross", rfl, rfl, SqT.of htw, atI_nat (j := 0) rfl, rfl, _, rfl, iteF (by exact give _ _ _ _ _ _ _ (upd_same ..) (by rw [show FR (.cross x c k s) = [.box (ah ++ x ++ ".one") 1 (toOf own ticks given c) k (.name (ah ++ s))] ++ [.box (ah ++ x) 1 (toOf own ticks given c) k (.name (ah ++ x ++ ".one"))] by rw [← hFR]; rfl, ← List.append_assoc]; exact c2) c3 c4)⟩
    | use x m hd gv' =>
      obtain ⟨ta', tp, tq, us, rfl', hta', htp, htq, aus⟩ := hrow
      cases rfl'
      obtain ⟨⟨rs', hrs', hdl, hgl⟩, wfm⟩ := wfu x m hd gv' rfl
      have hj1 : 1 ≤ j := by
        cases j with
        | zero => exact wfm.elim
        | succ j => omega
      obtain ⟨_, wt, wg3, wg⟩ := wfr
      have hus : us.length ≤ 3 := by rw [aus.length]; exact wg3
      have hl1 : (ah ++ x).length + (".").length ≤ 70 := by
        have : (".").length = 1 := by decide
        have : (ah ++ x).length ≤ 66 := hpath
        omega
      refine ⟨_, rfl, ta, _, _, .str "use", rfl, rfl, SqT.of hta', atI_nat (j := 0) rfl, rfl, _, rfl, iteF (iteF ⟨_, rfl, ta, _, _, .str "use", rfl, rfl, SqT.of hta', atI_nat (j := 0) rfl, rfl, _, rfl, iteF (iteF ⟨_, rfl, ta, _, _, .str "use", rfl, rfl, SqT.of hta', atI_nat (j := 0) rfl, rfl, _, rfl, iteF ⟨_, rfl, ta, _, _, .str "use", rfl, rfl, SqT.of hta', atI_nat (j := 0) rfl, rfl, _, rfl, iteF ⟨_, rfl, ta, _, _, .str "use", rfl, rfl, SqT.of hta', atI_nat (j := 0) rfl, rfl, _, rfl, iteF ⟨_, rfl, ta, _, _, .str "use", rfl, rfl, SqT.of hta', atI_nat (j := 0) rfl, rfl, _, rfl, iteF ⟨_, rfl, ta, _, _, .str "use", rfl, rfl, SqT.of hta', atI_nat (j := 0) rfl, rfl, _, rfl, iteT ⟨_, rfl, ta, _, _, .ref tq, rfl, rfl, SqT.of hta', atI_nat (j := 4) rfl, tq, rfl, ⟨_, SqT.of htq⟩, fun DD hDD => ?_⟩⟩⟩⟩⟩⟩)⟩)⟩
      refine lc_tup (xs := us) (fun k H' => ∃ ac, H' DD = some (.lst ac) ∧ AllV (fun u e => IsEx H' e u) ac ((gv'.take k).map (Ex.pre ah)) ∧ Kp [] H1' H') ⟨[], upd_same .., trivial, Kp.new hDD⟩ (fun k H' _ ⟨_, _, _, kx⟩ => SqT.of (kx.tup htq)) ?_ ?_
      · rintro k u H2 hu ⟨ac, hac, aac, kx⟩
        obtain ⟨e, he, hue⟩ := aus.get hu
        obtain ⟨de1, de2⟩ := wg e (List.mem_of_getElem? he)
        have hk : k < 3 := by
          have := (List.getElem?_eq_some_iff.mp hu).1
          omega
        refine ⟨rfl, yesT ⟨_, rfl, _, rfl, by decide, ah, u, e, rfl, IsEx.keep kx hue, by omega, by omega, fun z hz => Nat.le_trans (de2 z hz) (by decide), fun v' H3 hv' k3 => ?_⟩⟩
        have hac3 := k3.at hac (by simp)
        have kD : Kp [DD] H3 (upd H3 DD (.lst (ac ++ [v']))) := Kp.put hac3 (by simp)
        refine ⟨ac, hac3, ?_, ac ++ [v'], upd_same .., ?_, (kx.trans k3).fresh hDD⟩
        · rw [aac.length, List.length_map, List.length_take]
          exact Nat.lt_of_le_of_lt (show _ ≤ 3 by omega) (by decide)
        · have e3 : gv'.take (k + 1) = gv'.take k ++ [e] := by rw [List.take_succ, he]; rfl
          rw [e3, List.map_append]
          exact ((aac.imp fun _ _ z => IsEx.keep k3 z).imp fun _ _ z => IsEx.keep kD z).snoc (IsEx.keep kD hv')
      rintro H2 ⟨ac, hac, aac, kx⟩
      rw [aus.length, List.take_length] at aac
      have hta2 := kx.tup hta'
      have htp2 := kx.tup htp
      have kk42 := kk41.trans (kx.up (l := [pf]))
      refine ⟨_, rfl, .inl ⟨rfl, _, SqL.of (kx.at hacc1 (by simp))⟩, _, rfl, _, rfl, ta, _, _, .str m, rfl, rfl, SqT.of hta2, atI_nat (j := 2) rfl, _, rfl, _, _, rfl, rfl, Nat.le_trans hl1 (by decide), _, rfl, ta, _, _, .ref tp, rfl, rfl, SqT.of hta2, atI_nat (j := 3) rfl, tp, rfl, ⟨_, SqT.of htp2⟩, fun D2 hD2 => ?_⟩
      refine lc_tup (xs := hd.map V.str) (fun k H' => H' D2 = some (.lst (((hd.take k).map (toOf own ticks given)).map V.str)) ∧ Kp [] H2 H') ⟨upd_same .., Kp.new hD2⟩ (fun k H' _ ⟨_, kz⟩ => SqT.of (kz.tup htp2)) ?_ ?_
      · rintro k u H3 hu ⟨hd3, k3⟩
        have hk : k < hd.length := by
          have := (List.getElem?_eq_some_iff.mp hu).1
          simpa using this
        have eu : u = .str hd[k] := by
          rw [List.getElem?_map, List.getElem?_eq_getElem hk] at hu
          exact (Option.some.inj hu).symm
        subst eu
        have hcv := htv hd[k] (by rw [← hown]; exact wt _ (List.getElem_mem hk))
        have dto : DGet H3 pto (.str hd[k]) (some (.str (toOf own ticks given hd[k]))) := by rw [← hcv]; exact DGet.k (k := Sum.inr hd[k]) ((kk42.trans (k3.up (l := [pf]))).at hpto4 (by simp [hptf]))
        refine ⟨rfl, yesT ⟨_, rfl, _, rfl, pto, _, rfl, dto, _, hd3, ?_, ?_, k3.fresh hD2⟩⟩
        · rw [List.length_map, List.length_map, List.length_take]
          have h1 : hd.length ≤ 20 := by
            rw [hdl]
            have hm := wfm
            cases j with
            | zero => exact wfm.elim
            | succ j =>
              obtain ⟨r2, e2, _, e3, _⟩ := hm
              rw [hrs'] at e2
              cases e2
              exact Nat.le_trans (List.length_filterMap_le _ _) e3
          exact Nat.lt_of_le_of_lt (show _ ≤ 20 by omega) (by decide)
        · have e3 : hd.take (k + 1) = hd.take k ++ [hd[k]] := by rw [List.take_succ, List.getElem?_eq_getElem hk]; rfl
          rw [upd_same, e3]
          simp only [List.map_append, List.map_cons, List.map_nil]
      rintro H3 ⟨hd3, k3⟩
      rw [List.length_map, List.take_length] at hd3
      have kx3 := kx.trans k3
      have kk3 := kk1.trans kx3
      have hac3 := k3.at hac (by simp)
      have aac3 := aac.imp fun _ _ z => IsEx.keep k3 z
      refine ⟨_, rfl, hj1, by omega, pm, D2, m, ah ++ x ++ ".", .ref DD, md, hd.map (toOf own ticks given), some (gv'.map (Ex.pre ah)), rs', rfl, Made.keep ⟨kvs, hpm, hmd⟩ kk3, ⟨DD, ac, rfl, hac3, aac3⟩, hd3, wfm, hrs', fun gv0 e0 => ?_, ?_, fun p vs' Hz h1 h2 h3 h4 => ?_⟩
      · cases e0
        refine ⟨by rw [List.length_map, hdl], by rw [List.length_map, hgl], fun e he => ?_⟩
        obtain ⟨e1, he1, rfl⟩ := List.mem_map.mp he
        have h5 := (wg e1 he1).1
        rw [pre_depth]
        omega
      · show ((ah ++ x).cps ++ #[46]).size + 7 * j ≤ 60
        rw [Array.size_append]
        have h5 : (ah ++ x).cps.size = ah.cps.size + x.cps.size := Array.size_append
        have h6 : ah.cps.size + 7 * (j + 1) ≤ 60 := hal
        have h7 : x.cps.size ≤ 6 := hxl
        show (ah ++ x).cps.size + 1 + 7 * j ≤ 60
        omega
      · have hacz := (kx3.trans h4).at hacc1 (by simp)
        have aaccz := (aacc1.imp fun _ _ z => z.keep kx3).imp fun _ _ z => z.keep h4
        have kp : Kp [pf] Hz (upd Hz pf (.lst (acc ++ vs'))) := Kp.put hacz (by simp)
        have hfr : FR (.use x m hd gv') = flatRows md j m (ah ++ x ++ ".") (hd.map (toOf own ticks given)) (some (gv'.map (Ex.pre ah))) := by rw [← hFR]; rfl
        have hpf' : pf ≠ p := ne_of_none (kx3.at hacc1 (by simp)) h3
        refine ⟨pf, p, acc, vs', rfl, rfl, hacz, h1, ?_, ?_⟩
        · rw [aacc1.length, h2.length, ← hfr]
          exact Nat.le_trans hpart1 (by decide)
        · exact give _ _ _ _ _ _ _ (upd_same ..) (by rw [hfr]; exact (aaccz.append h2).imp fun _ _ z => z.keep kp) ((kk3.trans h4).fresh hpf) ((kk41.trans ((kx3.trans h4).up (l := [pf]))).trans kp)
  · rintro σ H' ⟨v7, v10, v11, v12, v13, v14, v15, acc, rfl, hacc, aacc, kk, kk4⟩
    rw [avr.length, List.take_length] at aacc
    exact ⟨_, rfl, hQ pf acc H' hacc aacc hpf kk⟩
end
end WT

set_option Elab.async false
set_option linter.all false
set_option maxRecDepth 100000
set_option maxHeartbeats 2000000
/-! Plain: a drawn module's rows are well formed; a chain of modules. -/
namespace WT
open PySem PySem.Spec PyProof.Rows L2
theorem Ty.mem {R : Str → Nat → Prop} : ∀ {e : Ex} {w : Nat}, Ty R e w → ∀ x ∈ e.names, ∃ u, R x u
  | .name y, w, h, x, hx => by
    rw [List.mem_singleton.mp hx]
    exact ⟨w, h.2⟩
  | .num _ _, _, _, x, hx => by simp [Ex.names] at hx
  | .not a, w, h, x, hx => Ty.mem (e := a) h.2 x hx
  | .bin o a b, w, ⟨_, h⟩, x, hx => by
    have hab : ∃ u v, Ty R a u ∧ Ty R b v := by
      cases o
      · exact ⟨w, w, h.1, h.2⟩
      · exact ⟨w, w, h.1, h.2⟩
      · exact ⟨w, w, h.1, h.2⟩
      · obtain ⟨u, v, h1, h2, _⟩ := h; exact ⟨u, v, h1, h2⟩
      · obtain ⟨_, u, h1, h2⟩ := h; exact ⟨u, u, h1, h2⟩
      · obtain ⟨_, u, h1, h2⟩ := h; exact ⟨u, u, h1, h2⟩
      · obtain ⟨u, v, h1, h2, _⟩ := h; exact ⟨u, v, h1, h2⟩
    obtain ⟨u, v, h1, h2⟩ := hab
    rcases List.mem_append.mp hx with z | z
    · exact Ty.mem h1 x z
    · exact Ty.mem h2 x z
  | .pick a b c, w, ⟨_, h1, h2, h3⟩, x, hx => by
    rcases List.mem_append.mp hx with z | z
    · exact Ty.mem h1 x z
    · rcases List.mem_append.mp z with z | z
      · exact Ty.mem h2 x z
      · exact Ty.mem h3 x z
  | .cut _ a, w, ⟨_, _, u, h⟩, x, hx => Ty.mem (e := a) h x hx
  | .bit _ a, w, ⟨_, _, u, h⟩, x, hx => Ty.mem (e := a) h x hx
theorem plain_len {x : Str} (h : plain x = true) : x.length ≤ 6 := of_decide_eq_true (Bool.and_eq_true_iff.mp (Bool.and_eq_true_iff.mp h).1).1
theorem dot_len {x y : Str} (hx : x.length ≤ 6) (hy : y.length ≤ 6) : (x ++ "." ++ y).length ≤ 13 := by
  show ((x.cps ++ #[46]) ++ y.cps).size ≤ 13
  rw [Array.size_append, Array.size_append]
  have h1 : x.cps.size ≤ 6 := hx
  have h2 : y.cps.size ≤ 6 := hy
  have h3 : (#[46] : Array Nat).size = 1 := rfl
  omega
/-- the outs' names of the modules below are plain -/
def BelPl (bel : List Bel) : Prop := ∀ b ∈ bel, FaceOk b.2.1 ∧ 0 ≤ b.2.2
def EntsLe (L : List Ent) : Prop := ∀ e ∈ L, e.1.length ≤ 13
theorem step_ents_le {a : Ads} {bel : List Bel} {L : List Ent} {s : Step} (hb : BelPl bel) (hp : plain s.nm = true) (h : StepOk a bel L s) : EntsLe s.ents := by
  have hl := plain_len hp
  cases s with
  | wire x w c e =>
    intro z hz
    rw [List.mem_singleton.mp hz]
    show x.length ≤ 13
    have : x.length ≤ 6 := hl
    omega
  | use x m F hd gv =>
    intro z hz
    obtain ⟨o, ho, rfl⟩ := List.mem_map.mp hz
    obtain ⟨⟨zz, hm⟩, _⟩ := h
    obtain ⟨_, _, _, w4⟩ := (hb _ hm).1.ok o ho
    exact dot_len hl (plain_len w4)
theorem steps_ents_le {a : Ads} {bel : List Bel} (hb : BelPl bel) : ∀ {ss : List Step} {L : List Ent}, (∀ s ∈ ss, plain s.nm = true) → StepsOk a bel L ss → EntsLe L → EntsLe (L ++ ss.flatMap Step.ents)
  | [], L, _, _, h => by simpa using h
  | s :: ss, L, hp, h, hl => by
    have h1 : EntsLe (L ++ s.ents) := fun z hz => by
      rcases List.mem_append.mp hz with q | q
      · exact hl z q
      · exact step_ents_le hb (hp s List.mem_cons_self) h.1 z q
    have := steps_ents_le hb (fun z hz => hp z (List.mem_cons_of_mem _ hz)) h.2 h1
    rw [List.flatMap_cons, ← List.append_assoc]
    exact this
theorem exOk_of {L : List Ent} {c : Str} {e : Ex} {w d : Nat} (hL : EntsLe L) (h : Ty (InPool (poolOf L c)) e w) (hd : e.depth ≤ d) : ExOk d e := ⟨hd, fun x hx => by
  obtain ⟨u, hu⟩ := h.mem x hx
  exact hL _ (mem_poolOf.mp hu)⟩
/-- the steps, one by one, with the entries that stood before -/
theorem steps_at {a : Ads} {bel : List Bel} : ∀ {ss : List Step} {L : List Ent} {s : Step}, StepsOk a bel L ss → s ∈ ss → ∃ pre post, ss = pre ++ s :: post ∧ StepOk a bel (L ++ pre.flatMap Step.ents) s
  | r :: rs, L, s, h, hs => by
    rcases List.mem_cons.mp hs with e | e
    · subst e
      exact ⟨[], rs, rfl, by simpa using h.1⟩
    · obtain ⟨pre, post, h1, h2⟩ := steps_at h.2 e
      exact ⟨r :: pre, post, by rw [h1]; rfl, by simpa [List.flatMap_cons, List.append_assoc] using h2⟩
section
variable {bel : List Bel} {M : Mod}
theorem ModOk.pn (h : ModOk bel M) : (∀ x ∈ M.a.ticks, plain x = true) ∧ (∀ e ∈ M.ins, plain e.1 = true) ∧ (∀ b ∈ M.bs, plain b.1.1 = true) ∧ (∀ x ∈ M.cs, plain x.1 = true) ∧ (∀ s ∈ M.ss, plain s.nm = true) ∧ ∀ o ∈ M.os, plain o.1 = true := by
  have p := h.pl
  unfold Mod.names at p
  refine ⟨fun x hx => p x ?_, fun e he => p _ ?_, fun b hb => p _ ?_, fun x hx => p _ ?_, fun s hs => p _ ?_, fun o ho => p _ ?_⟩ <;> simp only [List.mem_append, List.mem_map]
  · exact .inl hx
  · exact .inr (.inl ⟨e, he, rfl⟩)
  · exact .inr (.inr (.inl ⟨b, hb, rfl⟩))
  · exact .inr (.inr (.inr (.inl ⟨x, hx, rfl⟩)))
  · exact .inr (.inr (.inr (.inr (.inl ⟨s, hs, rfl⟩))))
  · exact .inr (.inr (.inr (.inr (.inr ⟨o, ho, rfl⟩))))
theorem ModOk.l1 (h : ModOk bel M) : EntsLe M.L1 := by
  obtain ⟨p1, p2, p3, p4, p5, p6⟩ := h.pn
  intro e he
  unfold Mod.L1 at he
  simp only [List.mem_append, List.mem_map] at he
  have k : ∀ {x : Str}, plain x = true → x.length ≤ 13 := fun z => Nat.le_trans (plain_len z) (by decide)
  rcases he with z | ⟨b, ⟨b', hb', rfl⟩, rfl⟩ | ⟨x, hx, rfl⟩
  · exact k (p2 e z)
  · exact k (p3 b' hb')
  · exact k (p4 x hx)
theorem ModOk.l2 (h : ModOk bel M) (hb : BelPl bel) : EntsLe M.L2 := steps_ents_le hb h.pn.2.2.2.2.1 h.ssOk h.l1
/-- what a row of the module is -/
theorem ModOk.rows_mem (h : ModOk bel M) {r : MRow} : r ∈ M.rows ↔ (∃ x ∈ M.a.ticks, r = .clock x) ∨ (∃ e ∈ M.ins, r = .inr e.1 e.2.1 e.2.2) ∨ (∃ s ∈ M.ss, r = s.row) ∨ (∃ x ∈ M.cs, r = cRow x) ∨ (∃ b ∈ M.bs, r = bRow b) ∨ ∃ o ∈ M.os, r = oRow o := by
  unfold Mod.rows Mod.inner
  have hi : ∀ (l : List MRow) (k : Nat), r ∈ l.drop k ∨ r ∈ l.take k ↔ r ∈ l := fun l k => by
    constructor
    · rintro (z | z)
      · exact List.mem_of_mem_drop z
      · exact List.mem_of_mem_take z
    · intro z
      rw [← List.take_append_drop k l] at z
      rcases List.mem_append.mp z with q | q
      · exact .inr q
      · exact .inl q
  have ho := hi (M.os.map oRow) 1
  have hin := hi ((M.ss.map Step.row ++ M.cs.map cRow) ++ M.bs.map bRow) M.at_
  simp only [List.mem_append, List.mem_map] at ho hin ⊢
  constructor
  · rintro ((⟨x, hx, rfl⟩ | ⟨e, he, rfl⟩) | (((z | z) | z) | z))
    · exact .inl ⟨x, hx, rfl⟩
    · exact .inr (.inl ⟨e, he, rfl⟩)
    · rcases hin.mp (.inl z) with (⟨s, hs, rfl⟩ | ⟨x, hx, rfl⟩) | ⟨b, hb, rfl⟩
      · exact .inr (.inr (.inl ⟨s, hs, rfl⟩))
      · exact .inr (.inr (.inr (.inl ⟨x, hx, rfl⟩)))
      · exact .inr (.inr (.inr (.inr (.inl ⟨b, hb, rfl⟩))))
    · obtain ⟨o, h1, rfl⟩ := ho.mp (.inr z)
      exact .inr (.inr (.inr (.inr (.inr ⟨o, h1, rfl⟩))))
    · rcases hin.mp (.inr z) with (⟨s, hs, rfl⟩ | ⟨x, hx, rfl⟩) | ⟨b, hb, rfl⟩
      · exact .inr (.inr (.inl ⟨s, hs, rfl⟩))
      · exact .inr (.inr (.inr (.inl ⟨x, hx, rfl⟩)))
      · exact .inr (.inr (.inr (.inr (.inl ⟨b, hb, rfl⟩))))
    · obtain ⟨o, h1, rfl⟩ := ho.mp (.inl z)
      exact .inr (.inr (.inr (.inr (.inr ⟨o, h1, rfl⟩))))
  · rintro (⟨x, hx, rfl⟩ | ⟨e, he, rfl⟩ | ⟨s, hs, rfl⟩ | ⟨x, hx, rfl⟩ | ⟨b, hb, rfl⟩ | ⟨o, h1, rfl⟩)
    · exact .inl (.inl ⟨x, hx, rfl⟩)
    · exact .inl (.inr ⟨e, he, rfl⟩)
    · rcases hin.mpr (.inl (.inl ⟨s, hs, rfl⟩)) with z | z
      · exact .inr (.inl (.inl (.inl z)))
      · exact .inr (.inl (.inr z))
    · rcases hin.mpr (.inl (.inr ⟨x, hx, rfl⟩)) with z | z
      · exact .inr (.inl (.inl (.inl z)))
      · exact .inr (.inl (.inr z))
    · rcases hin.mpr (.inr ⟨b, hb, rfl⟩) with z | z
      · exact .inr (.inl (.inl (.inl z)))
      · exact .inr (.inl (.inr z))
    · rcases ho.mpr ⟨o, h1, rfl⟩ with z | z
      · exact .inr (.inr z)
      · exact .inr (.inl (.inl (.inr z)))
theorem clocksOf_none {l : List MRow} (h : ∀ r ∈ l, ∀ x, r ≠ .clock x) : clocksOf l = [] := by
  unfold clocksOf
  rw [List.filterMap_eq_nil_iff]
  intro r hr
  cases r with
  | clock x => exact absurd rfl (h _ hr x)
  | _ => rfl
theorem insOf_none {l : List MRow} (h : ∀ r ∈ l, ∀ x w c, r ≠ .inr x w c) : insOf l = [] := by
  unfold insOf
  rw [List.filterMap_eq_nil_iff]
  intro r hr
  cases r with
  | inr x w c => exact absurd rfl (h _ hr x w c)
  | _ => rfl
theorem Mod.tail_mem {r : MRow} (hr : r ∈ (M.inner.drop M.at_ ++ (M.os.map oRow).take 1 ++ M.inner.take M.at_ ++ (M.os.map oRow).drop 1)) : r ∈ M.inner ∨ r ∈ M.os.map oRow := by
  simp only [List.mem_append] at hr
  rcases hr with ((z | z) | z) | z
  · exact .inl (List.mem_of_mem_drop z)
  · exact .inr (List.mem_of_mem_take z)
  · exact .inl (List.mem_of_mem_take z)
  · exact .inr (List.mem_of_mem_drop z)
theorem Mod.tail_kind {r : MRow} (hr : r ∈ (M.inner.drop M.at_ ++ (M.os.map oRow).take 1 ++ M.inner.take M.at_ ++ (M.os.map oRow).drop 1)) : (∀ x, r ≠ .clock x) ∧ ∀ x w c, r ≠ .inr x w c := by
  rcases Mod.tail_mem hr with z | z
  · unfold Mod.inner at z
    simp only [List.mem_append, List.mem_map] at z
    rcases z with (⟨s, _, rfl⟩ | ⟨x, _, rfl⟩) | ⟨b, _, rfl⟩
    · cases s <;> exact ⟨fun _ e => (by cases e), fun _ _ _ e => (by cases e)⟩
    · exact ⟨fun _ e => (by cases e), fun _ _ _ e => (by cases e)⟩
    · exact ⟨fun _ e => (by cases e), fun _ _ _ e => (by cases e)⟩
  · obtain ⟨o, _, rfl⟩ := List.mem_map.mp z
    exact ⟨fun _ e => (by cases e), fun _ _ _ e => (by cases e)⟩
theorem Mod.clocks : clocksOf M.rows = M.a.ticks := by
  have h1 : clocksOf (M.a.ticks.map MRow.clock) = M.a.ticks := by
    unfold clocksOf
    rw [List.filterMap_map]
    exact List.filterMap_some
  have h2 : clocksOf (M.ins.map fun e => .inr e.1 e.2.1 e.2.2) = [] := clocksOf_none fun r hr x => by
    obtain ⟨e, _, rfl⟩ := List.mem_map.mp hr
    intro z
    cases z
  have h3 := clocksOf_none (l := (M.inner.drop M.at_ ++ (M.os.map oRow).take 1 ++ M.inner.take M.at_ ++ (M.os.map oRow).drop 1)) fun r hr x => (Mod.tail_kind hr).1 x
  unfold Mod.rows
  unfold clocksOf at h1 h2 h3 ⊢
  rw [List.filterMap_append, List.filterMap_append, h1, h2, h3]
  simp
theorem Mod.insn : insOf M.rows = M.ins.map (·.1) := by
  have h1 : insOf (M.a.ticks.map MRow.clock) = [] := insOf_none fun r hr x w c => by
    obtain ⟨e, _, rfl⟩ := List.mem_map.mp hr
    intro z
    cases z
  have h2 : insOf (M.ins.map fun e => .inr e.1 e.2.1 e.2.2) = M.ins.map (·.1) := by
    unfold insOf
    rw [List.filterMap_map]
    exact List.filterMap_eq_map (f := fun e : Ent => e.1) ▸ rfl
  have h3 := insOf_none (l := (M.inner.drop M.at_ ++ (M.os.map oRow).take 1 ++ M.inner.take M.at_ ++ (M.os.map oRow).drop 1)) fun r hr x w c => (Mod.tail_kind hr).2 x w c
  unfold Mod.rows
  unfold insOf at h1 h2 h3 ⊢
  rw [List.filterMap_append, List.filterMap_append, h1, h2, h3]
  simp
theorem ModOk.rlen (h : ModOk bel M) : M.rows.length ≤ 19 := by
  have := h.t3
  have := h.i3
  have := h.b3
  have := h.c2
  have := h.s6
  have := h.o2
  unfold Mod.rows Mod.inner
  simp only [List.length_append, List.length_map, List.length_drop, List.length_take]
  omega
theorem given_len {L : List Ent} {hd : List Str} : ∀ {xs : List Tri} {es : List Ex}, GivenOk L hd xs es → es.length = xs.length
  | [], [], _ => rfl
  | _ :: _, _ :: _, h => congrArg (· + 1) (given_len h.2.2)
  | [], _ :: _, h => h.elim
  | _ :: _, [], h => h.elim
theorem given_exOk {L : List Ent} {hd : List Str} (hL : EntsLe L) : ∀ {xs : List Tri} {es : List Ex}, GivenOk L hd xs es → ∀ e ∈ es, ExOk 2 e
  | [], [], _, _, h => by simp at h
  | _ :: _, e :: _, h, z, hz => by
    rcases List.mem_cons.mp hz with q | q
    · subst q
      exact exOk_of hL h.1 h.2.1
    · exact given_exOk hL h.2.2 z q
  | [], _ :: _, h, _, _ => h.elim
  | _ :: _, [], h, _, _ => h.elim
theorem EntsLe.sub {L L' : List Ent} (h : EntsLe L) (s : ∀ e ∈ L', e ∈ L) : EntsLe L' := fun e he => h e (s e he)
theorem ModOk.wfrow (h : ModOk bel M) (hb : BelPl bel) {r : MRow} (hr : r ∈ M.rows) : WfRow M.rows r := by
  obtain ⟨p1, p2, p3, p4, p5, p6⟩ := h.pn
  have hl2 := h.l2 hb
  have ck := Mod.clocks (M := M)
  rcases h.rows_mem.mp hr with ⟨x, hx, rfl⟩ | ⟨e, he, rfl⟩ | ⟨s, hs, rfl⟩ | ⟨x, hx, rfl⟩ | ⟨b, hb', rfl⟩ | ⟨o, ho, rfl⟩
  · exact plain_len (p1 x hx)
  · exact plain_len (p2 e he)
  · obtain ⟨pre, post, h1, h2⟩ := steps_at h.ssOk hs
    have hL : EntsLe (M.L1 ++ pre.flatMap Step.ents) := hl2.sub fun e he => by
      unfold Mod.L2
      rw [h1, List.flatMap_append]
      rcases List.mem_append.mp he with z | z
      · exact List.mem_append_left _ z
      · exact List.mem_append_right _ (List.mem_append_left _ z)
    have hnm := plain_len (p5 s hs)
    cases s with
    | wire x w c e => exact ⟨hnm, exOk_of hL h2.2.2.2.1 h2.2.2.2.2⟩
    | use x m F hd gv =>
      obtain ⟨⟨z, hm⟩, q1, q2, q3⟩ := h2
      refine ⟨hnm, fun t ht => by rw [ck]; exact q2 t ht, ?_, given_exOk hL q3⟩
      rw [given_len q3]
      exact (hb _ hm).1.i3
  · obtain ⟨q1, q2, d, q3, q4, q5⟩ := h.crOk x hx
    exact ⟨plain_len (p4 x hx), by rw [ck]; exact q1, h.l1 _ q5⟩
  · obtain ⟨⟨q1, q2, q3, q4⟩, q5, q6⟩ := h.bxOk b hb'
    exact ⟨plain_len (p3 b hb'), by rw [ck]; exact q3, exOk_of hl2 q5 q6⟩
  · obtain ⟨q1, q2, q3, q4, q5⟩ := h.osOk o ho
    exact ⟨plain_len (p6 o ho), exOk_of hl2 q4 q5⟩
theorem ModOk.faceOk (h : ModOk bel M) : FaceOk M.face where
  t3 := h.t3
  i3 := by show (M.ins.map _).length ≤ 3; rw [List.length_map]; exact h.i3
  o2 := by show (M.os.map _).length ≤ 2; rw [List.length_map]; exact h.o2
  ik := fun x hx => by
    obtain ⟨e, he, rfl⟩ := List.mem_map.mp hx
    obtain ⟨q1, q2, q3⟩ := h.insOk e he
    exact ⟨q1, q2, List.idxOf_lt_length_iff.mpr q3⟩
  ok := fun x hx => by
    obtain ⟨o, ho, rfl⟩ := List.mem_map.mp hx
    obtain ⟨q1, q2, q3, q4, q5⟩ := h.osOk o ho
    exact ⟨q1, q2, List.idxOf_lt_length_iff.mpr q3, h.pn.2.2.2.2.2 o ho⟩
end
/-! ### a chain of modules -/
abbrev Link : Type := Str × Mod × Int
def belOf (pre : List Link) : List Bel := pre.map fun q => (q.1, q.2.1.face, q.2.2)
/-- each module over those before it -/
def Chain : List Link → List Link → Prop
  | _, [] => True
  | pre, q :: qs => ModOk (belOf pre) q.2.1 ∧ 0 ≤ q.2.2 ∧ Chain (pre ++ [q]) qs
theorem Chain.snoc {q : Link} : ∀ {qs pre : List Link}, Chain pre qs → ModOk (belOf (pre ++ qs)) q.2.1 → 0 ≤ q.2.2 → Chain pre (qs ++ [q])
  | [], pre, _, h, z => ⟨by simpa using h, z, trivial⟩
  | r :: rs, pre, h, h1, z => ⟨h.1, h.2.1, Chain.snoc h.2.2 (by simpa using h1) z⟩
theorem Chain.bel : ∀ {qs pre : List Link}, Chain pre qs → BelPl (belOf pre) → BelPl (belOf (pre ++ qs))
  | [], pre, _, h => by simpa using h
  | q :: qs, pre, h, hb => by
    have h1 : BelPl (belOf (pre ++ [q])) := fun b hb' => by
      unfold belOf at hb'
      rw [List.map_append, List.mem_append] at hb'
      rcases hb' with z | z
      · exact hb b z
      · rw [List.mem_singleton.mp z]
        exact ⟨h.1.faceOk, h.2.1⟩
    have := Chain.bel h.2.2 h1
    simpa using this
theorem Chain.at : ∀ {qs pre : List Link} {q : Link}, Chain pre qs → q ∈ qs → ∃ p1 p2, qs = p1 ++ q :: p2 ∧ ModOk (belOf (pre ++ p1)) q.2.1
  | r :: rs, pre, q, h, hq => by
    rcases List.mem_cons.mp hq with e | e
    · subst e
      exact ⟨[], rs, rfl, by simpa using h.1⟩
    · obtain ⟨p1, p2, h1, h2⟩ := Chain.at h.2.2 e
      exact ⟨r :: p1, p2, by rw [h1]; rfl, by simpa using h2⟩
theorem chain_wf {md : Md} : ∀ (n : Nat) {pre : List Link}, pre.length ≤ n → Chain [] pre → (∀ q ∈ pre, md.lookup q.1 = some q.2.1.rows) → ∀ {nm : Str} {M : Mod} {j : Nat}, n + 1 ≤ j → ModOk (belOf pre) M → md.lookup nm = some M.rows → WfM md j nm := by
  intro n
  induction n with
  | zero =>
    intro pre hl hc hm nm M j hj hM hnm
    obtain ⟨j, rfl⟩ : ∃ k, j = k + 1 := ⟨j - 1, by omega⟩
    have hp : pre = [] := List.length_eq_zero_iff.mp (by omega)
    subst hp
    have hb : BelPl (belOf []) := fun b hb => by simp [belOf] at hb
    have hnd := hM.nd
    refine ⟨M.rows, hnm, ?_, Nat.le_trans hM.rlen (by decide), fun r hr => ⟨hM.wfrow hb hr, fun x m hd gv e => ?_⟩⟩
    · rw [Mod.clocks]
      exact (List.nodup_append.mp hnd).1
    · subst e
      rcases hM.rows_mem.mp hr with ⟨x, hx, e⟩ | ⟨e', he, e⟩ | ⟨s, hs, e⟩ | ⟨x, hx, e⟩ | ⟨b, hb', e⟩ | ⟨o, ho, e⟩ <;> try cases e
      cases s with
      | wire _ _ _ _ => cases e
      | use x' m' F hd' gv' =>
        obtain ⟨p1, p2, h1, h2⟩ := steps_at hM.ssOk hs
        obtain ⟨⟨z, hz⟩, _⟩ := h2
        simp [belOf] at hz
  | succ n ih =>
    intro pre hl hc hm nm M j hj hM hnm
    obtain ⟨j, rfl⟩ : ∃ k, j = k + 1 := ⟨j - 1, by omega⟩
    have hb : BelPl (belOf pre) := by
      have := hc.bel (fun b hb => by simp [belOf] at hb)
      simpa using this
    have hnd := hM.nd
    refine ⟨M.rows, hnm, ?_, Nat.le_trans hM.rlen (by decide), fun r hr => ⟨hM.wfrow hb hr, fun x m hd gv e => ?_⟩⟩
    · rw [Mod.clocks]
      exact (List.nodup_append.mp hnd).1
    · subst e
      rcases hM.rows_mem.mp hr with ⟨x, hx, e⟩ | ⟨e', he, e⟩ | ⟨s, hs, e⟩ | ⟨x, hx, e⟩ | ⟨b, hb', e⟩ | ⟨o, ho, e⟩ <;> try cases e
      cases s with
      | wire _ _ _ _ => cases e
      | use x' m' F hd' gv' =>
        cases e
        obtain ⟨p1, p2, h1, h2⟩ := steps_at hM.ssOk hs
        obtain ⟨⟨z, hz⟩, q1, q2, q3⟩ := h2
        obtain ⟨lk, hlk, e⟩ := List.mem_map.mp hz
        injection e with e1 e2
        injection e2 with e2 e3
        obtain ⟨a1, a2, h3, h4⟩ := hc.at hlk
        rw [List.nil_append] at h4
        have hlk' := hm lk hlk
        refine ⟨⟨lk.2.1.rows, by rw [← e1]; exact hlk', ?_, ?_⟩, ?_⟩
        · rw [q1, ← e2, Mod.clocks]
          rfl
        · rw [given_len q3, ← e2, Mod.insn, List.length_map]
          show (lk.2.1.ins.map _).length = _
          rw [List.length_map]
        · have hal : a1.length ≤ n := by
            have := congrArg List.length h3
            simp at this
            omega
          have hca : Chain [] a1 := by
            have key : ∀ (l l2 pre : List Link), Chain pre (l ++ l2) → Chain pre l := by
              intro l
              induction l with
              | nil => intro _ _ _; trivial
              | cons x l ihl => intro l2 pre h; exact ⟨h.1, h.2.1, ihl l2 _ h.2.2⟩
            exact key a1 _ [] (by rw [← h3]; exact hc)
          exact ih hal hca (fun q hq => hm q (by rw [h3]; exact List.mem_append_left _ hq)) (by omega) h4 (by rw [← e1]; exact hlk')
end WT

set_option Elab.async false
set_option linter.all false
set_option maxRecDepth 100000
set_option maxHeartbeats 8000000
/-! flat, design, deck. -/
namespace WT
open PySem PySem.Spec PyProof.Rows L2
abbrev s_flat : Stmt := topS 30
abbrev N_flat : List Str := ["_law_made", "_law_top", "_law_row", "_law_whence"]
abbrev P_flat : List Str := ["_law_made", "_law_top"]
theorem sc_flat : FnScope N_flat P_flat (defScope s_flat) := ⟨rfl, rfl, rfl, by decide +kernel, rfl, by decide +kernel, by decide +kernel⟩
abbrev flatOf (md : Md) (nm : Str) : List FRow := flatRows md 3 nm "" [] none
def spFlat : Sp := fun vs H Q _ => ∃ (pm : Addr) (nm : Str) (md : Md), vs = [.ref pm, .str nm] ∧ Made H pm md ∧ WfM md 3 nm ∧ ∀ t us H', H' t = some (.tup us) → AllV (IsFRow H') us (flatOf md nm) → Kp [] H H' → Q (.ref t) H'
abbrev s_design : Stmt := topS 26
abbrev N_design : List Str := ["_law_deck_here", "_law_bits", "_law_great", "_law_called", "_law_made", "_law_below", "_law_name", "_law_rows", "_law_face", "_law_many", "_law_flat_here", "_law_row"]
abbrev P_design : List Str := ["_law_deck_here", "_law_bits"]
theorem sc_design : FnScope N_design P_design (defScope s_design) := ⟨rfl, rfl, rfl, by decide +kernel, rfl, by decide +kernel, by decide +kernel⟩
/-- more fuel than is needed -/
theorem flatRows_up {md : Md} : ∀ {j : Nat} {nm ah : Str} {ticks : List Str} {given : Option (List Ex)}, WfM md j nm → flatRows md (j + 1) nm ah ticks given = flatRows md j nm ah ticks given
  | 0, _, _, _, _, h => h.elim
  | j + 1, nm, ah, ticks, given, ⟨rs, hrs, _, hl, hr⟩ => by
    show ((md.lookup nm).getD []).flatMap (flatRow (fun m ah' tk gv => flatRows md (j + 1) m ah' tk (some gv)) ah _ given _) = ((md.lookup nm).getD []).flatMap (flatRow (fun m ah' tk gv => flatRows md j m ah' tk (some gv)) ah _ given _)
    rw [hrs]
    simp only [Option.getD_some]
    rw [List.flatMap_def, List.flatMap_def]
    refine congrArg List.flatten (List.map_congr_left fun r hr' => ?_)
    cases r with
    | use x m hd gv => exact flatRows_up ((hr _ hr').2 x m hd gv rfl).2
    | _ => rfl
theorem flat_one {md : Md} {M : Mod} {top : Str} (h : ModOk [] M) (hl : md.lookup top = some M.rows) : (flatOf md top).length ≤ 40 := by
  have w1 : WfM md 1 top := chain_wf 0 (pre := []) (by simp) trivial (by simp) (by omega) h hl
  have w2 : WfM md 2 top := chain_wf 0 (pre := []) (by simp) trivial (by simp) (by omega) h hl
  show (flatRows md 3 top "" [] none).length ≤ 40
  rw [flatRows_up w2, flatRows_up w1]
  exact flatRows_len w1
def mdOf (pre : List Link) (top : Str) (M : Mod) : Md := (top, M.rows) :: pre.map fun q => (q.1, q.2.1.rows)
theorem mdOf_top {pre : List Link} {top : Str} {M : Mod} : (mdOf pre top M).lookup top = some M.rows := by
  unfold mdOf
  simp [List.lookup_cons]
theorem look_pre : ∀ {pre : List Link} {q : Link}, (pre.map (·.1)).Nodup → q ∈ pre → (pre.map fun q => ((q.1, q.2.1.rows) : Str × List MRow)).lookup q.1 = some q.2.1.rows
  | r :: rs, q, hn, hq => by
    rw [List.map_cons, List.lookup_cons]
    rw [List.map_cons, List.nodup_cons] at hn
    rcases List.mem_cons.mp hq with e | e
    · subst e
      simp
    · have : q.1 ≠ r.1 := fun z => hn.1 (by rw [← z]; exact List.mem_map_of_mem e)
      rw [show (q.1 == r.1) = false from by simpa using this]
      exact look_pre hn.2 e
theorem mdOf_pre {pre : List Link} {top : Str} {M : Mod} (hn : (pre.map (·.1) ++ [top]).Nodup) {q : Link} (hq : q ∈ pre) : (mdOf pre top M).lookup q.1 = some q.2.1.rows := by
  unfold mdOf
  rw [List.lookup_cons]
  obtain ⟨h1, _, h3⟩ := List.nodup_append.mp hn
  have : q.1 ≠ top := h3 _ (List.mem_map_of_mem hq) _ (List.mem_singleton.mpr rfl)
  rw [show (q.1 == top) = false from by simpa using this]
  exact look_pre h1 hq
theorem look_mem : ∀ {pre : List Link} {nm : Str} {rs : List MRow}, (pre.map fun q => ((q.1, q.2.1.rows) : Str × List MRow)).lookup nm = some rs → ∃ q ∈ pre, nm = q.1 ∧ rs = q.2.1.rows
  | r :: l, nm, rs, h => by
    rw [List.map_cons, List.lookup_cons] at h
    by_cases e : nm = r.1
    · subst e
      simp at h
      exact ⟨r, List.mem_cons_self, rfl, h.symm⟩
    · rw [show (nm == r.1) = false from by simpa using e] at h
      obtain ⟨q, h1, h2⟩ := look_mem h
      exact ⟨q, List.mem_cons_of_mem _ h1, h2⟩
theorem mdOf_look {pre : List Link} {top nm : Str} {M : Mod} {rs : List MRow} (h : (mdOf pre top M).lookup nm = some rs) : (nm = top ∧ rs = M.rows) ∨ ∃ q ∈ pre, nm = q.1 ∧ rs = q.2.1.rows := by
  unfold mdOf at h
  rw [List.lookup_cons] at h
  by_cases e : nm = top
  · subst e
    simp at h
    exact .inl ⟨rfl, h.symm⟩
  · rw [show (nm == top) = false from by simpa using e] at h
    exact .inr (look_mem h)
theorem Kp.off {l : List Addr} {H H' : Hp} {p : Addr} {o o' : HO} (a : Kp l H H') (h : H p = none) (hp : H' p = some o) : Kp l H (upd H' p o') := fun b u e n => by
  rw [upd_ne (fun z => by rw [z, h] at e; cases e)]
  exact a b u e n
/-- a drawn design: modules over modules, the top over all -/
def DesignOk (md : Md) (top : Str) : Prop := ∃ (pre : List Link) (M : Mod), (pre.map (·.1) ++ [top]).Nodup ∧ pre.length ≤ 2 ∧ Chain [] pre ∧ ModOk (belOf pre) M ∧ (∀ q ∈ pre, md.lookup q.1 = some q.2.1.rows) ∧ md.lookup top = some M.rows ∧ (flatOf md top).length ≤ 40
def spDesign : Sp := fun vs H Q _ => ∃ (d c : Addr) (n : Nat), vs = [.ref d, .int 8] ∧ Deck H d c (n + 1922) ∧ ∀ (t pm : Addr) (top : Str) (md : Md) H', H' t = some (.tup [.ref pm, .str top]) → Made H' pm md → H pm = none → DesignOk md top → Kp [d, c] H H' → Deck H' d c n → Q (.ref t) H'
/-- a def with a default -/
def CalD (P : Program) (w : World) (K : PySem.W.Frag) (mg : Str → Option Value) (base : Heap) (x : Str) (k : Nat) (ps : List Str) (dvs : List V) (sp : Sp) : Prop :=
  ∃ (f : Addr) (fd : FuncData) (ds : List Value), FnOk P w K mg base CX0 k f fd ps sp ∧ mg x = some (.ref f) ∧ PySem.W.keepIn K (.ref f) = true ∧ L2.Binds K fd ps ds ∧ Vals dvs ds
def StdD (K : PySem.W.Frag) (mg : Str → Option Value) (x : Str) (st : Stmt) (dvs : List V) : Prop := ∃ (f : Addr) (fd : FuncData), L2.FunD K x x (defArgs st) (defBody st) (defScope st) dvs [] f fd ∧ mg x = some (.ref f)
section
variable {P : Program} {w : World} {K : PySem.W.Frag} {mg : Str → Option Value} {base : Heap}
theorem cal_flat (S : Std K mg "_law_flat" s_flat) (T : Frees mg) (cfr : Cal P w K mg base "_law_flat_rows" 6 P_flat_rows (spFlatRows 3)) : Cal P w K mg base "_law_flat" 7 P_flat spFlat := by
  obtain ⟨f, fd, F, m⟩ := S
  obtain ⟨fi, di, G_flat_rows, m_flat_rows, k_flat_rows, b_flat_rows⟩ := cfr
  refine ⟨f, fd, ?_, m, F.kp, F.bindsN fun _ _ _ _ _ _ us hl => match us, hl with | [_, _], _ => rfl⟩
  have sc := sc_flat
  refine F.ok sc (fun vs H Q E h => by obtain ⟨_, _, _, rfl, _⟩ := h; rfl) fun cdv A outer s H vs Q E hr h => ⟨_, PSs.nox (pss_one (ps_ret (pe_callTy (cTup K) rfl T.tuple (by decide +kernel) (pa_cons (pe_lc (own := [("_law_row", 2), ("_law_whence", 3)]) rfl sc.nd (PI.toK (t' := iList K _) (pi_list (pe_call G_flat_rows (hr.mono (by decide)) rfl m_flat_rows k_flat_rows b_flat_rows .nil pass0 (pa_cons (pv 0) (pa_cons (pv 1) (pa_cons pe_str (pa_cons (pe_lst pa_nil) (pa_cons pe_non pa_nil)))))))) (blkOk_by (N := N_flat) (sc := defScope s_flat) (by decide +kernel)) (fun _ _ _ _ _ => (PG.toK (t' := gTup K 2 _) (pg_tup rfl (pgs_cons (pg_name (i := 2) sc.nd rfl (Or.inl rfl)) (pgs_cons (pg_name (i := 3) sc.nd rfl (Or.inl rfl)) pgs_nil))))) (fun _ _ _ _ _ => pts_nil) (fun _ _ _ _ _ => (pv 2))) pa_nil)))), ?_⟩
  obtain ⟨pm, nm, md, rfl, M, wf, hQ⟩ := h
  obtain ⟨rs, hrs, _⟩ := id wf
  refine ⟨_, rfl, _, rfl, (by show 0 ≤ sizeLine; decide), fun pe hpe => ⟨by decide, by decide, pm, pe, nm, "", .non, md, [], none, rs, rfl, M.keep (Kp.new hpe), rfl, upd_same .., wf, hrs, (fun gv e => by cases e), by decide, fun p vs' H2 h1 h2 h3 h4 => ?_⟩⟩
  have kk : Kp [] H H2 := (Kp.new hpe).trans h4
  have hlen : vs'.length ≤ 16000 := by
    rw [h2.length]
    exact Nat.le_trans (flatRows_len wf) (by decide)
  refine ⟨p, rfl, ⟨_, SqL.of h1⟩, fun D hD => ?_⟩
  refine lc_list (xs := vs') (fun i H' => ∃ acc, H' D = some (.lst acc) ∧ AllV (IsFRow H') acc ((flatOf md nm).take i) ∧ Kp [] H2 H') ⟨[], upd_same .., trivial, Kp.new hD⟩ (fun i H' _ ⟨_, _, _, k⟩ => SqL.of (k.at h1 (by simp))) ?_ ?_
  · rintro i v H' hv ⟨acc, hacc, aacc, k⟩
    obtain ⟨r, hr0, ta, fv, wv, rfl, hta, hfv⟩ := h2.get hv
    have kD : Kp [D] H' (upd H' D (.lst (acc ++ [fv]))) := Kp.put hacc (by simp)
    refine ⟨ta, _, rfl, SqT.of (k.tup hta), rfl, _, _, rfl, _, _, rfl, rfl, rfl, yesT ⟨_, rfl, acc, hacc, ?_, acc ++ [fv], upd_same .., ?_, k.fresh hD⟩⟩
    · rw [aacc.length, List.length_take]
      have := (List.getElem?_eq_some_iff.mp hv).1
      exact Nat.lt_of_le_of_lt (show _ ≤ 16000 by omega) (by decide)
    · have et : (flatOf md nm).take (i + 1) = (flatOf md nm).take i ++ [r] := by rw [List.take_succ, hr0]; rfl
      rw [et]
      exact (aacc.imp fun _ _ z => z.keep kD).snoc ((hfv.keep k).keep kD)
  · rintro H' ⟨acc, hacc, aacc, k⟩
    rw [h2.length, List.take_length] at aacc
    refine ⟨D, acc, rfl, .inl ⟨SqL.of hacc, fun t ht => ?_⟩⟩
    exact hQ t acc _ (upd_same ..) (aacc.imp fun _ _ z => z.keep (Kp.new (l := []) ht)) ((kk.trans k).step ht)
theorem cal_design (S : StdD K mg "_law_design" s_design [.int 8]) (T : Frees mg) (cdraw : Cal P w K mg base "_law_draw" 1 P_draw spDraw) (cmod : Cal P w K mg base "_law_module" 8 P_module spModule) (cflat : Cal P w K mg base "_law_flat" 7 P_flat spFlat) : CalD P w K mg base "_law_design" 9 P_design [.int 8] spDesign := by
  obtain ⟨f, fd, F, m⟩ := S
  obtain ⟨fdraw, ddraw, G_draw, m_draw, k_draw, b_draw⟩ := cdraw
  obtain ⟨fm, dm, G_module, m_module, k_module, b_module⟩ := cmod
  obtain ⟨ff, df, G_flat, m_flat, k_flat, b_flat⟩ := cflat
  have hb : ∃ ds, L2.Binds K fd P_design ds ∧ Vals [.int 8] ds := by
    obtain ⟨ds, h1, h2⟩ := F.binds1 (ps := P_design) 1 0 (by simp) rfl fun T kV doc pm an cdv ct us its hu hi => by
      match us, its, hu, hi with
      | [u], [i], _, _ => exact ⟨_, rfl, rfl⟩
    exact ⟨ds, h2, h1⟩
  obtain ⟨ds, hb1, hb2⟩ := hb
  refine ⟨f, fd, ds, ?_, m, F.kp, hb1, hb2⟩
  have sc := sc_design
  refine F.ok sc (fun vs H Q E h => by obtain ⟨_, _, _, rfl, _⟩ := h; rfl) fun cdv A outer s H vs Q E hr h => ⟨_, PSs.nox (pss_cons (ps_set (i := 2) sc.nd rfl (Or.inl rfl) (pe_call G_draw (hr.mono (by decide)) rfl m_draw k_draw b_draw .nil pass0 (pa_cons (pv 0) (pa_cons pe_int pa_nil))))
 (pss_cons (ps_set (i := 3) sc.nd rfl (Or.inl rfl) (pe_ix (ixl K) (pe_lst (pa_cons (pe_lst (pa_cons pe_str (pa_cons pe_str (pa_cons pe_str pa_nil)))) (pa_cons (pe_lst (pa_cons pe_str (pa_cons pe_str (pa_cons pe_str pa_nil)))) (pa_cons (pe_lst (pa_cons pe_str (pa_cons pe_str (pa_cons pe_str pa_nil)))) pa_nil)))) (pe_call G_draw (hr.mono (by decide)) rfl m_draw k_draw b_draw .nil pass0 (pa_cons (pv 0) (pa_cons pe_int pa_nil))) (fun _ _ => rfl)))
 (pss_cons (ps_par (i := 4) (j := 5) rfl sc.nd rfl rfl (by decide) rfl rfl (pa_cons pe_dnewK (pa_cons (pe_lst pa_nil) pa_nil)) (by rfl))
 (pss_cons (ps_for PassesOwn.never rfl (PI.toK (t' := iList K _) (pi_list (pe_slice (slL K) (pe_slice (slL K) (pv 3) (po_some pe_int) po_none) po_none (po_some (pe_op op_mod (pv 2) pe_int))))) (pg_name (i := 6) sc.nd rfl (Or.inl rfl))
 (pss_cons (ps_asg (pe_call G_module (hr.mono (by decide)) rfl m_module k_module b_module .nil pass0 (pa_cons (pv 0) (pa_cons (pv 5) (pa_cons pe_int pa_nil)))) (PG.toK (t' := gTup K 3 _) (pg_tup rfl (pgs_cons (pg_name (i := 7) sc.nd rfl (Or.inl rfl)) (pgs_cons (pg_name (i := 8) sc.nd rfl (Or.inl rfl)) (pgs_cons (pg_name (i := 9) sc.nd rfl (Or.inl rfl)) pgs_nil))))))
 (pss_cons (ps_dput (hu_of hr) (pv 4) (pv 6) (pv 7) rfl)
 (pss_one (ps_expr (PE.toK (t' := tBM K _ _ _ _) (pe_bm PySem.F.plainAttrs_list PySem.F.slot_list_append PySem.F.type_list_append mt_append (pv 5) (pa_cons (pe_tup (pa_cons (pv 6) (pa_cons (pv 8) (pa_cons (pv 9) pa_nil)))) pa_nil))))))))
 (pss_cons (ps_dput (hu_of hr) (pv 4) (pe_ix (ixl K) (pv 3) pe_int (fun _ _ => rfl)) (pe_ix (ixt K) (pe_call G_module (hr.mono (by decide)) rfl m_module k_module b_module .nil pass0 (pa_cons (pv 0) (pa_cons (pv 5) (pa_cons (pv 1) pa_nil)))) pe_int (fun _ _ => rfl)) rfl)
 (C8.pss_cut (ps_set (i := 10) sc.nd rfl (Or.inl rfl) (pe_call G_flat (hr.mono (by decide)) rfl m_flat k_flat b_flat .nil pass0 (pa_cons (pv 4) (pa_cons (pe_ix (ixl K) (pv 3) pe_int (fun _ _ => rfl)) pa_nil))))
 (pss_cons (ps_if (PW.pt (pw_or (pt_cmpR op_gt (pe_callB (cLen K) rfl T.len (by decide +kernel) (pa_cons (pv 10) pa_nil)) pe_int (nomark _)) (pw_or1 (pt_cmpR op_gt (pe_callB (cSum K rfl) rfl T.sum (by decide +kernel) (pa_cons (pe_lc (own := [("_law_row", 11)]) rfl sc.nd (PI.toK (t' := iTup K _) (pi_tup (pv 10))) (blkOk_by (N := N_design) (sc := defScope s_design) (by decide +kernel)) (fun _ _ _ _ _ => (pg_name (i := 11) sc.nd rfl (Or.inl rfl))) (fun _ _ _ _ _ => pts_nil) (fun _ _ _ _ _ => (pe_ix (ixt K) (pv 11) pe_int (fun _ _ => rfl)))) pa_nil)) pe_int (nomark _))))) (pss_one (ps_set (i := 4) sc.nd rfl (Or.inl rfl) (pe_disp (pps_cons (pe_ix (ixl K) (pv 3) pe_int (fun _ _ => rfl)) (pe_ix (ixt K) (pe_call G_module (hr.mono (by decide)) rfl m_module k_module b_module .nil pass0 (pa_cons (pv 0) (pa_cons (pe_lst pa_nil) (pa_cons (pv 1) pa_nil)))) pe_int (fun _ _ => rfl)) pps_nil) rfl rfl (by simp) (by decide)))) pss_nil)
 (pss_one (ps_ret (pe_tup (pa_cons (pv 4) (pa_cons (pe_ix (ixl K) (pv 3) pe_int (fun _ _ => rfl)) pa_nil)))))))))))), ?_⟩
  obtain ⟨d, c, n, rfl, D, hQ⟩ := h
  have hd0 : d ≠ c := by obtain ⟨_, _, _, _, _, h, _⟩ := D; exact h
  refine ⟨_, rfl, d, c, 4, n + 1921, rfl, D, by decide, by decide, fun g H1 hg k1 D1 => ?_⟩
  refine ⟨(by show 3 ≤ sizeLine; decide), fun l1 hl1 => ?_⟩
  generalize hH2 : upd H1 l1 _ = H2
  have k2 : Kp [] H1 H2 := by rw [← hH2]; exact Kp.new hl1
  have e1 : H2 l1 = some (.lst ((["top", "a", "b"] : List Str).map V.str)) := by rw [← hH2]; exact upd_same ..
  clear hH2
  refine ⟨(by show 3 ≤ sizeLine; decide), fun l2 hl2 => ?_⟩
  generalize hH3 : upd H2 l2 _ = H3
  have k3 : Kp [] H2 H3 := by rw [← hH3]; exact Kp.new hl2
  have e2 : H3 l2 = some (.lst ((["m", "ma", "top"] : List Str).map V.str)) := by rw [← hH3]; exact upd_same ..
  clear hH3
  refine ⟨(by show 3 ≤ sizeLine; decide), fun l3 hl3 => ?_⟩
  generalize hH4 : upd H3 l3 _ = H4
  have k4 : Kp [] H3 H4 := by rw [← hH4]; exact Kp.new hl3
  have e3 : H4 l3 = some (.lst ((["zz", "top", "a"] : List Str).map V.str)) := by rw [← hH4]; exact upd_same ..
  clear hH4
  refine ⟨(by show 3 ≤ sizeLine; decide), fun l4 hl4 => ?_⟩
  generalize hH5 : upd H4 l4 _ = H5
  have k5 : Kp [] H4 H5 := by rw [← hH5]; exact Kp.new hl4
  have e4 : H5 l4 = some (.lst [.ref l1, .ref l2, .ref l3]) := by rw [← hH5]; exact upd_same ..
  clear hH5
  have k15 : Kp [] H1 H5 := (k2.trans k3).trans (k4.trans k5)
  have q1 : H5 l1 = _ := (k3.trans (k4.trans k5)).at e1 (by simp)
  have q2 : H5 l2 = _ := (k4.trans k5).at e2 (by simp)
  have q3 : H5 l3 = _ := k5.at e3 (by simp)
  have D5 := D1.keep k15
  have n1 := D1.ne hl1
  have n2 := (D1.keep k2).ne hl2
  have n3 := (D1.keep (k2.trans k3)).ne hl3
  have n4 := (D1.keep ((k2.trans k3).trans k4)).ne hl4
  refine ⟨_, rfl, d, c, 3, n + 1920, rfl, D5, by decide, by decide, fun r H6 hr6 k6 D6 => ?_⟩
  obtain ⟨pc, ns, hsel, hpc, hnd, hl3n, hpd, hpcc⟩ : ∃ (pc : Addr) (ns : List Str), [V.ref l1, .ref l2, .ref l3][r]? = some (.ref pc) ∧ H6 pc = some (.lst (ns.map V.str)) ∧ ns.Nodup ∧ ns.length = 3 ∧ pc ≠ d ∧ pc ≠ c := by
    match r, hr6 with
    | 0, _ => exact ⟨l1, ["top", "a", "b"], rfl, k6.at q1 (by simp [Ne.symm n1.1, Ne.symm n1.2]), by decide, rfl, Ne.symm n1.1, Ne.symm n1.2⟩
    | 1, _ => exact ⟨l2, ["m", "ma", "top"], rfl, k6.at q2 (by simp [Ne.symm n2.1, Ne.symm n2.2]), by decide, rfl, Ne.symm n2.1, Ne.symm n2.2⟩
    | 2, _ => exact ⟨l3, ["zz", "top", "a"], rfl, k6.at q3 (by simp [Ne.symm n3.1, Ne.symm n3.2]), by decide, rfl, Ne.symm n3.1, Ne.symm n3.2⟩
  refine ⟨l4, _, _, .ref pc, rfl, rfl, SqL.of (k6.at e4 (by simp [Ne.symm n4.1, Ne.symm n4.2])), atI_nat hsel, ?_⟩
  have k06 : Kp [d, c] H H6 := (k1.trans k15.up).trans k6
  refine fun pm hpm => ⟨(by show 0 ≤ sizeLine; decide), fun pb hpb => ⟨_, _, rfl, ?_⟩⟩
  have npm := D6.ne hpm
  generalize hH7 : upd H6 pm _ = H7 at hpb
  have k7 : Kp [] H6 H7 := by rw [← hH7]; exact Kp.new hpm
  have em : H7 pm = some (.dK []) := by rw [← hH7]; exact upd_same ..
  clear hH7
  have npb := (D6.keep k7).ne hpb
  have nmb : pm ≠ pb := ne_of_none em hpb
  have hpcpm : pc ≠ pm := ne_of_none hpc hpm
  have hpcpb : pc ≠ pb := ne_of_none (k7.at hpc (by simp)) hpb
  generalize hH8 : upd H7 pb _ = H8
  have k8 : Kp [] H7 H8 := by rw [← hH8]; exact Kp.new hpb
  have eb : H8 pb = some (.lst []) := by rw [← hH8]; exact upd_same ..
  clear hH8
  have em8 := k8.at em (by simp)
  have k68 := k7.trans k8
  have D8 := D6.keep k68
  have k08 : Kp [d, c] H H8 := k06.trans k68.up
  have hpmH : H pm = none := k06.free hpm (by simp [Ne.symm npm.1, Ne.symm npm.2])
  have hpbH : H pb = none := (k06.trans k7.up).free hpb (by simp [Ne.symm npb.1, Ne.symm npb.2])
  have hpc8 := k68.at hpc (by simp)
  obtain ⟨x0, x1, x2, rfl⟩ : ∃ x0 x1 x2, ns = [x0, x1, x2] := by
    match ns, hl3n with
    | [a, b, e], _ => exact ⟨a, b, e, rfl⟩
  refine ⟨_, rfl, _, rfl, pc, _, rfl, SqL.of hpc8, fun p1 hp1 => ?_⟩
  rw [show cutV ([x0, x1, x2].map V.str) (some 1) none = ([x0, x1, x2].map V.str).drop 1 from cutV_lo (k := 1) (by simp)]
  generalize hH9 : upd H8 p1 _ = H9
  have k9 : Kp [] H8 H9 := by rw [← hH9]; exact Kp.new hp1
  have eb1 : H9 p1 = some (.lst ([x1, x2].map V.str)) := by rw [← hH9]; exact upd_same ..
  clear hH9
  refine ⟨_, rfl, (g : Int), 3, rfl, rfl, (by show (0:Int) < 3; decide), ((g : Int) % 3), rfl, p1, _, rfl, SqL.of eb1, fun p2 hp2 => ?_⟩
  rw [show ((g : Int) % 3) = ((g % 3 : Nat) : Int) from rfl, cutV_hi]
  generalize hH10 : upd H9 p2 _ = H10
  have k10 : Kp [] H9 H10 := by rw [← hH10]; exact Kp.new hp2
  have eb2 : H10 p2 = some (.lst ((([x1, x2] : List Str).take (g % 3)).map V.str)) := by rw [← hH10, upd_same, List.map_take]
  clear hH10
  have hg3 : g % 3 < 3 := Nat.mod_lt _ (by decide)
  generalize hk : g % 3 = k at hg3 eb2
  clear hk
  have k810 := k9.trans k10
  have hp1' := D8.ne hp1
  have hp2' := (D8.keep k9).ne hp2
  have np2m : pm ≠ p2 := ne_of_none (k9.at em8 (by simp)) hp2
  have np2b : pb ≠ p2 := ne_of_none (k9.at eb (by simp)) hp2
  have k010 := k08.trans k810.up
  have D10 := D8.keep k810
  refine ⟨p2, rfl, ⟨_, SqL.of eb2⟩, ?_⟩
  have hsub : (([x1, x2] : List Str).take k).length = k := by rw [List.length_take]; simp; omega
  refine for_list (xs := (([x1, x2] : List Str).take k).map V.str) (fun i σ H' => ∃ (v6 v7 v8 v9 v10 v11 : Option V) (kvs : List (Key × V)) (pre : List Link), σ = [some (.ref d), some (.int 8), some (.int (g : Int)), some (.ref pc), some (.ref pm), some (.ref pb), v6, v7, v8, v9, v10, v11] ∧ Kp [d, c] H H' ∧ H' pm = some (.dK kvs) ∧ kvs.length ≤ i ∧ BelL H' pb (belOf pre) ∧ pre.map (·.1) = ([x1, x2] : List Str).take i ∧ Chain [] pre ∧ (∀ q ∈ pre, ∃ a, valV kvs (Sum.inr q.1) = some (.ref a) ∧ Rows H' a q.2.1.rows ∧ a ∉ [d, c, pm, pb]) ∧ Deck H' d c (n + 960 + 480 * (2 - i)) ∧ H' pc = some (.lst [.str x0, .str x1, .str x2]) ∧ H' p2 = some (.lst ((([x1, x2] : List Str).take k).map V.str)))
    ⟨_, _, _, _, _, _, [], [], rfl, k010, k810.at em8 (by simp), by simp, ⟨_, k810.at eb (by simp), trivial⟩, rfl, trivial, by simp, D10.less (by omega), k810.at hpc8 (by simp), eb2⟩ (fun i σ H' _ ⟨_, _, _, _, _, _, _, _, _, _, _, _, _, _, _, _, _, _, hb⟩ => SqL.of hb) ?_ ?_
  · rintro i v σ Ha hv ⟨v6, v7, v8, v9, v10, v11, kvs, pre, rfl, ka, ema, hkv, Ba, hpre, hch, hrows, Da, hpca, hp2a⟩
    have hil : i < k := by
      have := (List.getElem?_eq_some_iff.mp hv).1
      rw [List.length_map, hsub] at this
      exact this
    obtain ⟨x, hx, rfl⟩ : ∃ x, ([x1, x2] : List Str)[i]? = some x ∧ v = .str x := by
      rw [List.getElem?_map, List.getElem?_take, if_pos hil] at hv
      obtain ⟨x, h1, h2⟩ := Option.map_eq_some_iff.mp hv
      exact ⟨x, h1, h2.symm⟩
    have hpl : pre.length = i := by
      have := congrArg List.length hpre
      rw [List.length_map, List.length_take] at this
      simp at this
      omega
    have hbel := hch.bel (fun b hb => by simp [belOf] at hb)
    rw [List.nil_append] at hbel
    refine ⟨_, rfl, _, rfl, d, c, pb, n + 960 + 480 * (2 - (i + 1)), 3, belOf pre, rfl, Da.less (by omega), Ba, Ne.symm npb.2, (by unfold belOf; rw [List.length_map]; omega), hbel, by decide, fun t pr fv z M Hb ht hr0 hpr hf hz hM kb Db => ?_⟩
    have emb := kb.at ema (by simp [Ne.symm npm.1, Ne.symm npm.2])
    have hnpr : pr ∉ [d, c, pm, pb] := by
      have h1 := Da.ne hpr
      have h2 := ne_of_none ema hpr
      have h3 : pb ≠ pr := by obtain ⟨_, h, _⟩ := Ba; exact ne_of_none h hpr
      simp [Ne.symm h1.1, Ne.symm h1.2, Ne.symm h2, Ne.symm h3]
    refine ⟨t, _, rfl, SqT.of ht, rfl, _, _, rfl, _, _, rfl, _, _, rfl, rfl, ?_⟩
    refine ⟨_, rfl, _, rfl, _, rfl, pm, _, rfl, DPut.k (k := Sum.inr x) emb (Nat.lt_of_le_of_lt (show kvs.length ≤ 3 by omega) (by decide)), ?_⟩
    generalize hHc : upd Hb pm _ = Hc
    have kbc : Kp [pm] Hb Hc := by rw [← hHc]; exact Kp.put emb (by simp)
    have emc : Hc pm = some (.dK (putK kvs (Sum.inr x) (.ref pr))) := by rw [← hHc]; exact upd_same ..
    have kac : Kp [d, c] H Hc := by rw [← hHc]; exact (ka.trans kb).fresh hpmH
    clear hHc
    have npr := hnpr
    simp only [List.mem_cons, List.mem_nil_iff, or_false, not_or] at npr
    have Bc : BelL Hc pb (belOf pre) := (Ba.keep kb (by simp [Ne.symm npb.1, Ne.symm npb.2])).keep kbc (by simp [Ne.symm nmb])
    have rc : Rows Hc pr M.rows := hr0.keep kbc (by simp [npr])
    obtain ⟨vb, hvb, avb⟩ := Bc
    have Dc := Db.kept kbc (by simp [npm]) (by simp [npm])
    refine ⟨_, rfl, .inl ⟨rfl, _, SqL.of hvb⟩, _, rfl, _, rfl, _, rfl, (by show 3 ≤ sizeLine; decide), fun tp htp => ?_⟩
    generalize hHd : upd Hc tp _ = Hd
    have kcd : Kp [] Hc Hd := by rw [← hHd]; exact Kp.new htp
    have etp : Hd tp = some (.tup [.str x, fv, .int z]) := by rw [← hHd]; exact upd_same ..
    clear hHd
    have kad := kac.trans kcd.up
    have hvb' := kcd.at hvb (by simp)
    have npb' : ∀ {o : Addr}, o ≠ pb → o ∉ [pb] := fun h => by simpa using h
    have kde : Kp [pb] Hd (upd Hd pb (.lst (vb ++ [.ref tp]))) := Kp.put hvb' (by simp)
    refine ⟨pb, vb, .ref tp, rfl, rfl, hvb', ?_, ?_⟩
    · rw [avb.length]
      unfold belOf
      rw [List.length_map]
      exact Nat.lt_of_le_of_lt (show pre.length ≤ 2 by omega) (by decide)
    · refine ⟨_, _, _, _, _, _, _, pre ++ [(x, M, z)], rfl, kad.fresh hpbH, kde.at (kcd.at emc (by simp)) (by simp [nmb]), ?_, ⟨_, upd_same .., ?_⟩, ?_, hch.snoc (by rw [List.nil_append]; exact hM) hz, ?_, (Dc.keep kcd).kept kde (by simp [npb]) (by simp [npb]), ?_, ?_⟩
      · exact Nat.le_trans (length_putK ..) (by omega)
      · unfold belOf
        rw [List.map_append]
        exact ((avb.imp fun _ _ q => q.keep kcd).imp fun _ _ q => q.keep kde).snoc (show IsBel _ (.ref tp) (x, M.face, z) from ⟨tp, fv, rfl, kde.tup etp, ((hf.keep kbc).keep kcd).keep kde⟩)
      · rw [List.map_append, hpre, List.take_succ, hx]
        rfl
      · have kbe : Kp [pm, pb] Hb (upd Hd pb (.lst (vb ++ [.ref tp]))) := (kbc.mono (by simp)).trans ((kcd.up).trans (kde.mono (by simp)))
        have kae : Kp [d, c, pm, pb] Ha (upd Hd pb (.lst (vb ++ [.ref tp]))) := (kb.mono (by simp +contextual)).trans (kbe.mono (by simp +contextual))
        intro q hq
        rcases List.mem_append.mp hq with w | w
        · obtain ⟨a, h1, h2, h3⟩ := hrows q w
          refine ⟨a, ?_, h2.keep kae h3, h3⟩
          rw [valV_put, if_neg ?_]
          · exact h1
          · intro e
            have e' : q.1 = x := Sum.inr.inj e
            have hn2 : ([x1, x2] : List Str).Nodup := (List.nodup_cons.mp hnd).2
            have hm : x ∈ ([x1, x2] : List Str).take i := by rw [← hpre, ← e']; exact List.mem_map_of_mem w
            rcases (show i = 0 ∨ i = 1 by omega) with e0 | e0 <;> rw [e0] at hm hx
            · simp at hm
            · simp at hm hx hn2
              exact hn2 (hm.symm.trans hx.symm)
        · rw [List.mem_singleton.mp w]
          exact ⟨pr, by rw [valV_put, if_pos rfl], (rc.keep kcd (by simp)).keep kde (by simp [npr]), hnpr⟩
      · exact kde.at (kcd.at (kbc.at (kb.at hpca (by simp [hpd, hpcc])) (by simp [hpcpm])) (by simp)) (by simp [hpcpb])
      · exact kde.at (kcd.at (kbc.at (kb.at hp2a (by simp [Ne.symm hp2'.1, Ne.symm hp2'.2])) (by simp [Ne.symm np2m])) (by simp)) (by simp [Ne.symm np2b])
  · rintro σ Ha ⟨v6, v7, v8, v9, v10, v11, kvs, pre, rfl, ka, ema, hkv, Ba, hpre, hch, hrows, Da, hpca, hp2a⟩
    rw [List.length_map, hsub] at hkv hpre Da
    have hpl : pre.length = k := by
      have := congrArg List.length hpre
      rw [List.length_map, hsub] at this
      exact this
    have hndp : (pre.map (·.1) ++ [x0]).Nodup := by
      rw [hpre, List.nodup_append]
      have h1 := List.nodup_cons.mp hnd
      exact ⟨h1.2.sublist (List.take_sublist ..), by simp, fun a ha b hb e => h1.1 (by rw [← List.mem_singleton.mp hb, ← e]; exact List.mem_of_mem_take ha)⟩
    have hbel := hch.bel (fun b hb => by simp [belOf] at hb)
    rw [List.nil_append] at hbel
    refine ⟨_, rfl, _, rfl, _, rfl, d, c, pb, n + 480, 8, belOf pre, rfl, Da.less (by omega), Ba, Ne.symm npb.2, (by unfold belOf; rw [List.length_map]; omega), hbel, by decide, fun t pr fv z M Hb ht hr0 hpr hf hz hM kb Db => ?_⟩
    have emb := kb.at ema (by simp [Ne.symm npm.1, Ne.symm npm.2])
    have hpcb := kb.at hpca (by simp [hpd, hpcc])
    have hnpr : pr ∉ [d, c, pm, pb] := by
      have h1 := Da.ne hpr
      have h2 := ne_of_none ema hpr
      have h3 : pb ≠ pr := by obtain ⟨_, h, _⟩ := Ba; exact ne_of_none h hpr
      simp [Ne.symm h1.1, Ne.symm h1.2, Ne.symm h2, Ne.symm h3]
    have npr := hnpr
    simp only [List.mem_cons, List.mem_nil_iff, or_false, not_or] at npr
    refine ⟨t, _, _, _, rfl, rfl, SqT.of ht, atI_nat (j := 0) rfl, _, rfl, _, rfl, pc, _, _, _, rfl, rfl, SqL.of hpcb, atI_nat (j := 0) rfl, pm, _, rfl, DPut.k (k := Sum.inr x0) emb (Nat.lt_of_le_of_lt (show kvs.length ≤ 3 by omega) (by decide)), ?_⟩
    generalize hHc : upd Hb pm _ = Hc
    have kbc : Kp [pm] Hb Hc := by rw [← hHc]; exact Kp.put emb (by simp)
    have emc : Hc pm = some (.dK (putK kvs (Sum.inr x0) (.ref pr))) := by rw [← hHc]; exact upd_same ..
    have kac : Kp [d, c] H Hc := by rw [← hHc]; exact (ka.trans kb).fresh hpmH
    clear hHc
    have Dc := Db.kept kbc (by simp [npm]) (by simp [npm])
    have hpcc' := kbc.at hpcb (by simp [hpcpm])
    have kacc : Kp [d, c, pm] Ha Hc := (kb.mono (by simp +contextual)).trans (kbc.mono (by simp))
    have made : Made Hc pm (mdOf pre x0 M) := by
      refine ⟨_, emc, fun nm rs h => ?_⟩
      rcases mdOf_look h with ⟨rfl, rfl⟩ | ⟨q, hq, rfl, rfl⟩
      · exact ⟨pr, by rw [valV_put, if_pos rfl], hr0.keep kbc (by simp [npr])⟩
      · obtain ⟨a, h1, h2, h3⟩ := hrows q hq
        refine ⟨a, ?_, h2.keep kacc (fun z => h3 (by simp at z ⊢; rcases z with z | z | z <;> simp [z]))⟩
        rw [valV_put, if_neg ?_]
        · exact h1
        · intro e
          have h4 := (List.nodup_append.mp hndp).2.2
          exact h4 _ (List.mem_map_of_mem hq) _ (List.mem_singleton.mpr rfl) (Sum.inr.inj e)
    have hlk : ∀ q ∈ pre, (mdOf pre x0 M).lookup q.1 = some q.2.1.rows := fun q hq => mdOf_pre hndp hq
    have wf : WfM (mdOf pre x0 M) 3 x0 := chain_wf 2 (by omega) hch hlk (by omega) hM mdOf_top
    refine ⟨fun σ H' => ∃ (v6 v7 v8 v9 v11 : Option V) (pf : Addr) (vf : List V), σ = [some (.ref d), some (.int 8), some (.int (g : Int)), some (.ref pc), some (.ref pm), some (.ref pb), v6, v7, v8, v9, some (.ref pf), v11] ∧ H' pf = some (.tup vf) ∧ AllV (IsFRow H') vf (flatOf (mdOf pre x0 M) x0) ∧ Kp [] Hc H', ?_, ?_⟩
    · refine ⟨_, rfl, _, rfl, pc, _, _, _, rfl, rfl, SqL.of hpcc', atI_nat (j := 0) rfl, pm, x0, mdOf pre x0 M, rfl, made, wf, fun t us H' h1 h2 h3 => ⟨_, _, _, _, _, t, us, rfl, h1, h2, h3⟩⟩
    · rintro σ Hd ⟨v6, v7, v8, v9, v11, pf, vf, rfl, hpf, avf, kcd⟩
      have hpcd := kcd.at hpcc' (by simp)
      have kad := kac.trans kcd.up
      have Dd := Dc.keep kcd
      have hwid : ∀ {v : V} {r : FRow} {Hz : Hp}, IsFRow Hz v r → ∃ a xs, v = .ref a ∧ Hz a = some (.tup xs) ∧ xs[2]? = some (.int (r.width : Int)) := fun {v r Hz} h => by
        cases r with
        | inr p w c => obtain ⟨a, h1, h2⟩ := h; exact ⟨a, _, h1, h2, rfl⟩
        | wire p w e => obtain ⟨a, u, h1, h2, _⟩ := h; exact ⟨a, _, h1, h2, rfl⟩
        | out p w e => obtain ⟨a, u, h1, h2, _⟩ := h; exact ⟨a, _, h1, h2, rfl⟩
        | box p w c k e => obtain ⟨a, u, h1, h2, _⟩ := h; exact ⟨a, _, h1, h2, rfl⟩
      have keepIt : ∀ He, (flatOf (mdOf pre x0 M) x0).length ≤ 40 → Kp [] Hd He → ∀ t, He t = none → Q (.ref t) (upd He t (.tup [.ref pm, .str x0])) := fun He hlen ke t ht => by
        have k1 := kcd.trans (ke.step (o := .tup [.ref pm, .str x0]) ht)
        exact hQ t pm x0 (mdOf pre x0 M) _ (upd_same ..) (made.keep k1) hpmH ⟨pre, M, hndp, by omega, hch, hM, hlk, mdOf_top, hlen⟩ (kac.trans k1.up) ((Dc.keep k1).less (by omega))
      have anew : ∀ He, Kp [] Hd He → (tSeq (tAsg (tDisp [(tOp (rIxL K) (tVar 3) (tC (V.int 0)), tOp (rIxT K) (tCall spModule [] E0 (tCons (tVar 0) (tCons (tLst tNil) (tCons (tVar 1) tNil)))) (tC (V.int 0)))]) (gName 4)) (tRet (tTup (tCons (tVar 4) (tCons (tOp (rIxL K) (tVar 3) (tC (V.int 0))) tNil))))) { nx := fun x H' => Q V.non H', rt := Q } [some (.ref d), some (.int 8), some (.int (g : Int)), some (.ref pc), some (.ref pm), some (.ref pb), v6, v7, v8, v9, some (.ref pf), v11] He := fun He ke => by
        intro p hp
        have De := Dd.keep ke
        have hpp := De.ne hp
        have kp0 : Kp [] He (upd He p (.dK [])) := Kp.new hp
        have hpce := ke.at hpcd (by simp)
        have npcp : pc ≠ p := ne_of_none hpce hp
        have kpe : Kp [] Hd (upd He p (.dK [])) := ke.trans kp0
        have gp : upd He p (.dK []) p = some (.dK []) := upd_same ..
        have hpH : H p = none := (kad.trans ke.up).free hp (by simp [Ne.symm hpp.1, Ne.symm hpp.2])
        generalize upd He p (.dK []) = Hf at kp0 kpe gp
        refine ⟨_, rfl, pc, _, _, _, rfl, rfl, SqL.of (kpe.at hpcd (by simp)), atI_nat (j := 0) rfl, _, rfl, (by show 0 ≤ sizeLine; decide), fun pl hpl => ?_⟩
        have Df := Dd.keep kpe
        have hpln := Df.ne hpl
        have npl : p ≠ pl := ne_of_none gp hpl
        have kl : Kp [] Hf (upd Hf pl (.lst [])) := Kp.new hpl
        have gl : upd Hf pl (.lst []) pl = some (.lst []) := upd_same ..
        generalize upd Hf pl (.lst []) = Hg at kl gl
        refine ⟨_, rfl, d, c, pl, n, 8, [], rfl, Df.keep kl, ⟨[], gl, trivial⟩, Ne.symm hpln.2, by simp, by simp, by decide, fun t2 pr2 fv2 z2 M2 Hh ht2 hr2 hpr2 hf2 hz2 hM2 kh Dh => ?_⟩
        have gp2 := kh.at (kl.at gp (by simp)) (by simp [Ne.symm hpp.1, Ne.symm hpp.2])
        refine ⟨t2, _, _, _, rfl, rfl, SqT.of ht2, atI_nat (j := 0) rfl, gp2, [(Sum.inr x0, .ref pr2)], rfl, by simp, ?_⟩
        have npr2 : p ≠ pr2 := ne_of_none (kl.at gp (by simp)) hpr2
        have kk : Kp [p] Hh (upd Hh p (.dK (mergeK [] [(Sum.inr x0, .ref pr2)]))) := Kp.put gp2 (by simp)
        have gm : upd Hh p (.dK (mergeK [] [(Sum.inr x0, .ref pr2)])) p = some (.dK [(Sum.inr x0, .ref pr2)]) := upd_same ..
        have rr := hr2.keep kk (by simp [Ne.symm npr2])
        have dd := Dh.kept kk (by simp [hpp]) (by simp [hpp])
        have hpci : upd Hh p (.dK (mergeK [] [(Sum.inr x0, .ref pr2)])) pc = _ := kk.at (kh.at ((kpe.trans kl).at hpcd (by simp)) (by simp [hpd, hpcc])) (by simp [npcp])
        have kfin : Kp [d, c] H (upd Hh p (.dK (mergeK [] [(Sum.inr x0, .ref pr2)]))) := ((kad.trans (kpe.trans kl).up).trans kh).fresh hpH
        generalize upd Hh p (.dK (mergeK [] [(Sum.inr x0, .ref pr2)])) = Hi at gm rr dd hpci kfin
        refine ⟨_, rfl, _, rfl, pc, _, _, _, rfl, rfl, SqL.of hpci, atI_nat (j := 0) rfl, (by show 2 ≤ sizeLine; decide), fun t ht => ?_⟩
        have k1 : Kp [] Hi (upd Hi t (.tup [.ref p, .str x0])) := Kp.new ht
        refine hQ t p x0 (mdOf [] x0 M2) _ (upd_same ..) ⟨_, k1.at gm (by simp), fun nm rs h => ?_⟩ hpH ⟨[], M2, by simp, by simp, trivial, hM2, by simp, mdOf_top, flat_one hM2 mdOf_top⟩ (kfin.trans k1.up) (dd.keep k1)
        rcases mdOf_look h with ⟨rfl, rfl⟩ | ⟨q, hq, _⟩
        · exact ⟨pr2, valV_pos (p := (Sum.inr nm, V.ref pr2)) rfl, rr.keep k1 (by simp)⟩
        · simp at hq
      refine ⟨_, rfl, pf, vf, rfl, .inr (SqT.of hpf), (vf.length : Int), 30, rfl, rfl, _, rfl, ?_⟩
      by_cases h30 : (30 : Int) < (vf.length : Int)
      · rw [decide_eq_true h30]
        exact iteT (iteT (anew Hd (Kp.refl _ _)))
      rw [decide_eq_false h30]
      have hlen : vf.length ≤ 30 := by omega
      refine iteF ⟨_, rfl, pf, rfl, ⟨_, SqT.of hpf⟩, fun DD hDD => ?_⟩
      refine lc_tup (xs := vf) (fun i H' => ∃ ws : List Int, H' DD = some (.lst (ws.map V.int)) ∧ ws.length = i ∧ Kp [] Hd H') ⟨[], upd_same .., rfl, Kp.new hDD⟩ (fun i H' _ ⟨_, _, _, k⟩ => SqT.of (k.at hpf (by simp))) ?_ ?_
      · rintro i v H' hv ⟨ws, hws, hwl, kw⟩
        obtain ⟨r', hr0', hrow⟩ := avf.get hv
        obtain ⟨a, xs, rfl, hxs, hx2⟩ := hwid hrow
        refine ⟨rfl, yesT ⟨_, rfl, a, _, _, _, rfl, rfl, SqT.of (kw.tup hxs), atI_nat (j := 2) hx2, _, hws, ?_, ws ++ [(r'.width : Int)], ?_, (by rw [List.length_append, hwl]; rfl), kw.fresh hDD⟩⟩
        · rw [List.length_map, hwl]
          have := (List.getElem?_eq_some_iff.mp hv).1
          exact Nat.lt_of_le_of_lt (show i ≤ 30 by omega) (by decide)
        · rw [upd_same, List.map_append]
          rfl
      · rintro He ⟨ws, hws, hwl, kw⟩
        refine ⟨DD, ws, rfl, SqL.of hws, ws.sum, 60, rfl, rfl, _, rfl, ?_⟩
        cases decide ((60 : Int) < ws.sum) with
        | true => exact iteT (anew He kw)
        | false => exact iteF ⟨_, rfl, _, rfl, pc, _, _, _, rfl, rfl, SqL.of (kw.at hpcd (by simp)), atI_nat (j := 0) rfl, (by show 2 ≤ sizeLine; decide), fun t ht => keepIt He (by rw [avf.length] at hlen; omega) kw t ht⟩
end
end WT

set_option Elab.async false
set_option linter.all false
set_option maxRecDepth 100000
set_option maxHeartbeats 8000000
/-! Expressions: widths, worths. -/
namespace WT
open PySem PySem.Spec PyProof.Rows L2
def Ex.wide (wd : Str → Nat) : Ex → Nat
  | .name x => wd x
  | .num w _ => w
  | .not a => a.wide wd
  | .bin o a b => match o with
    | .and | .or | .xor => a.wide wd
    | .same | .below => 1
    | .sum => 1 + max (a.wide wd) (b.wide wd)
    | .join => a.wide wd + b.wide wd
  | .pick _ b _ => b.wide wd
  | .cut w _ => w
  | .bit _ _ => 1
theorem wide_ty {R : Str → Nat → Prop} {wd : Str → Nat} (hR : ∀ x u, R x u → wd x = u) : ∀ {e : Ex} {w : Nat}, Ty R e w → e.wide wd = w
  | .name x, w, ⟨_, h⟩ => hR x w h
  | .num _ _, w, ⟨_, h, _⟩ => h
  | .not a, w, ⟨_, h⟩ => wide_ty (e := a) hR h
  | .bin o a b, w, ⟨_, h⟩ => by
    cases o
    · exact wide_ty (e := a) hR h.1
    · exact wide_ty (e := a) hR h.1
    · exact wide_ty (e := a) hR h.1
    · obtain ⟨u, v, h1, h2, h3⟩ := h
      show 1 + max (a.wide wd) (b.wide wd) = w
      rw [wide_ty hR h1, wide_ty hR h2, h3]
    · exact h.1.symm
    · exact h.1.symm
    · obtain ⟨u, v, h1, h2, h3⟩ := h
      show a.wide wd + b.wide wd = w
      rw [wide_ty hR h1, wide_ty hR h2, h3]
  | .pick a b c, w, ⟨_, _, h, _⟩ => wide_ty (e := b) hR h
  | .cut _ _, w, ⟨_, h, _⟩ => h
  | .bit _ _, w, ⟨_, h, _⟩ => h.symm
def Op.ev (o : Op) (wa : Nat) (i j : Int) : Int := match o with
  | .and => Builtin.bitAnd i j
  | .or => Builtin.bitOr i j
  | .xor => Builtin.bitXor i j
  | .sum => i + j
  | .same => if i = j then 1 else 0
  | .below => if i < j then 1 else 0
  | .join => i + j * 2 ^ wa
def Ex.ev (wd : Str → Nat) (V : Str → Int) : Ex → Int
  | .name x => V x
  | .num _ k => k
  | .not a => 2 ^ (a.wide wd) - 1 - a.ev wd V
  | .bin o a b => o.ev (a.wide wd) (a.ev wd V) (b.ev wd V)
  | .pick a b c => if a.ev wd V = 1 then b.ev wd V else c.ev wd V
  | .cut w a => a.ev wd V % 2 ^ w
  | .bit k a => Builtin.bitAnd (a.ev wd V / 2 ^ k) 1
theorem ev_congr {wd : Str → Nat} {V V' : Str → Int} : ∀ {e : Ex}, (∀ x ∈ e.names, V x = V' x) → e.ev wd V = e.ev wd V'
  | .name x, h => h x (by simp [Ex.names])
  | .num _ _, _ => rfl
  | .not a, h => by show _ - a.ev wd V = _ - a.ev wd V'; rw [ev_congr (e := a) h]
  | .bin o a b, h => by
    show o.ev _ _ _ = o.ev _ _ _
    rw [ev_congr (e := a) fun x hx => h x (by simp [Ex.names, hx]), ev_congr (e := b) fun x hx => h x (by simp [Ex.names, hx])]
  | .pick a b c, h => by
    show (if _ then _ else _) = (if _ then _ else _)
    rw [ev_congr (e := a) fun x hx => h x (by simp [Ex.names, hx]), ev_congr (e := b) fun x hx => h x (by simp [Ex.names, hx]), ev_congr (e := c) fun x hx => h x (by simp [Ex.names, hx])]
  | .cut _ a, h => by show a.ev wd V % _ = a.ev wd V' % _; rw [ev_congr (e := a) h]
  | .bit _ a, h => by show Builtin.bitAnd (a.ev wd V / _) 1 = Builtin.bitAnd (a.ev wd V' / _) 1; rw [ev_congr (e := a) h]
def Ex.word : Ex → Str
  | .name _ => "name" | .num _ _ => "num" | .not _ => "not" | .bin o _ _ => opN o | .pick _ _ _ => "pick" | .cut _ _ => "cut" | .bit _ _ => "bit"
def Ex.tl : Ex → List Pt
  | .name x => [.str x]
  | .num w k => [.int w, .int k]
  | .not a => [.ex a]
  | .bin _ a b => [.ex a, .ex b]
  | .pick a b c => [.ex a, .ex b, .ex c]
  | .cut w a => [.int w, .ex a]
  | .bit k a => [.int k, .ex a]
theorem parts_wt (e : Ex) : e.parts = .str e.word :: e.tl := by cases e <;> rfl
theorem isEx_wt {H : Hp} {e : Ex} {v : V} (h : IsEx H e v) : ∃ a vs, v = .ref a ∧ H a = some (.tup (.str e.word :: vs)) ∧ AllV (IsPt H) vs e.tl := by
  obtain ⟨a, vs, rfl, ha, av⟩ := isEx_parts h
  rw [parts_wt] at av
  cases vs with
  | nil => exact av.elim
  | cons x y =>
    obtain ⟨h1, h2⟩ := av
    cases h1
    exact ⟨a, y, rfl, ha, h2⟩
theorem AllV.two {α : Type} {R : V → α → Prop} {vs : List V} {a b : α} (h : AllV R vs [a, b]) : ∃ u v, vs = [u, v] ∧ R u a ∧ R v b := by
  match vs, h with
  | [u, v], ⟨h1, h2, _⟩ => exact ⟨u, v, rfl, h1, h2⟩
theorem AllV.one {α : Type} {R : V → α → Prop} {vs : List V} {a : α} (h : AllV R vs [a]) : ∃ u, vs = [u] ∧ R u a := by
  match vs, h with
  | [u], ⟨h1, _⟩ => exact ⟨u, rfl, h1⟩
theorem AllV.three {α : Type} {R : V → α → Prop} {vs : List V} {a b c : α} (h : AllV R vs [a, b, c]) : ∃ u v w, vs = [u, v, w] ∧ R u a ∧ R v b ∧ R w c := by
  match vs, h with
  | [u, v, w], ⟨h1, h2, h3, _⟩ => exact ⟨u, v, w, rfl, h1, h2, h3⟩
abbrev s_width_of : Stmt := topS 5
abbrev N_width_of : List Str := ["e", "widths", "word", "rest", "one", "other", "part"]
abbrev P_width_of : List Str := ["e", "widths"]
theorem sc_width_of : FnScope N_width_of P_width_of (defScope s_width_of) := ⟨rfl, rfl, rfl, by decide +kernel, rfl, by decide +kernel, by decide +kernel⟩
def WdR (kw : List (Key × V)) (x : Str) (u : Nat) : Prop := valV kw (Sum.inr x) = some (.int (u : Int))
def spWidth (j : Nat) : Sp := fun vs H Q _ => 1 ≤ j ∧ ∃ (v : V) (pw : Addr) (e : Ex) (w : Nat) (kw : List (Key × V)), vs = [v, .ref pw] ∧ IsEx H e v ∧ e.depth ≤ j ∧ H pw = some (.dK kw) ∧ Ty (WdR kw) e w ∧ ∀ H', Kp [] H H' → Q (.int (w : Int)) H'
section
variable {P : Program} {w : World} {K : PySem.W.Frag} {mg : Str → Option Value} {base : Heap}
theorem cal_width (S : Std K mg "width_of" s_width_of) (T : Frees mg) (j : Nat) : Cal P w K mg base "width_of" j P_width_of (spWidth j) := by
  induction j with
  | zero =>
    obtain ⟨f, fd, F, m⟩ := S
    exact ⟨f, fd, ⟨fun vs H Q E h => by have := h.1; omega, fun A outer s H args us vs Q E _ _ _ _ h => by have := h.1; omega⟩, m, F.kp, F.bindsN fun _ _ _ _ _ _ us hl => match us, hl with | [_, _], _ => rfl⟩
  | succ j ih =>
  obtain ⟨f, fd, F, m⟩ := S
  obtain ⟨fi, di, G_width_of, m_width_of, k_width_of, b_width_of⟩ := ih
  refine ⟨f, fd, ?_, m, F.kp, F.bindsN fun _ _ _ _ _ _ us hl => match us, hl with | [_, _], _ => rfl⟩
  have sc := sc_width_of
  refine F.ok (k := j) sc (fun vs H Q E h => by obtain ⟨_, _, _, _, _, _, rfl, _⟩ := h; rfl) fun cdv A outer s H vs Q E hr h => ⟨_, PSs.nox (pss_cons (ps_asg (pv 0) (PG.toK (t' := gStar K _) (pg_star rfl (pgs_cons (pg_name (i := 2) sc.nd rfl (Or.inl rfl)) (pgs_cons (pg_name (i := 3) sc.nd rfl (Or.inl rfl)) pgs_nil)))))
 (pss_cons (ps_if (pt_cmpR op_eq (pv 2) pe_str (nomark _)) (pss_one (ps_ret (pe_dget (hu_of hr) (pv 1) (pe_ix (ixl K) (pv 3) pe_int (fun _ _ => rfl)) (fun _ _ => rfl)))) pss_nil)
 (pss_cons (ps_if (pt_cmpR (oIn K) (pv 2) (pe_tup (pa_cons pe_str (pa_cons pe_str pa_nil))) (by rfl)) (pss_one (ps_ret (pe_ix (ixl K) (pv 3) pe_int (fun _ _ => rfl)))) pss_nil)
 (pss_cons (ps_if (pt_cmpR (oIn K) (pv 2) (pe_tup (pa_cons pe_str (pa_cons pe_str (pa_cons pe_str pa_nil)))) (by rfl)) (pss_one (ps_ret pe_int)) pss_nil)
 (pss_cons (ps_if (pt_cmpR (oIn K) (pv 2) (pe_tup (pa_cons pe_str (pa_cons pe_str pa_nil))) (by rfl)) (pss_cons (ps_asg (pe_lc (own := [("part", 6)]) rfl sc.nd (PI.toK (t' := iList K _) (pi_list (pv 3))) (blkOk_by (N := N_width_of) (sc := defScope s_width_of) (by decide +kernel)) (fun _ _ _ _ _ => (pg_name (i := 6) sc.nd rfl (Or.inl rfl))) (fun _ _ _ _ _ => pts_nil) (fun _ _ _ _ _ => (pe_call G_width_of (hr.mono (by omega)) rfl m_width_of k_width_of b_width_of .nil pass0 (pa_cons (pv 6) (pa_cons (pv 1) pa_nil))))) (PG.toK (t' := gUnl K 2 _) (pg_unl rfl (pgs_cons (pg_name (i := 4) sc.nd rfl (Or.inl rfl)) (pgs_cons (pg_name (i := 5) sc.nd rfl (Or.inl rfl)) pgs_nil)))))
 (pss_one (ps_ret (pe_ifExp (pt_cmpR op_eq (pv 2) pe_str (nomark _)) (pe_op op_add (pv 4) (pv 5)) (pe_op op_add pe_int (pe_callB (call_max2 rfl) rfl T.max (by decide +kernel) (pa_cons (pv 4) (pa_cons (pv 5) pa_nil)))))))) pss_nil)
 (pss_one (ps_ret (pe_call G_width_of (hr.mono (by omega)) rfl m_width_of k_width_of b_width_of .nil pass0 (pa_cons (pe_ifExp (pt_cmpR op_eq (pv 2) pe_str (nomark _)) (pe_ix (ixl K) (pv 3) pe_int (fun _ _ => rfl)) (pe_ix (ixl K) (pv 3) pe_int (fun _ _ => rfl))) (pa_cons (pv 1) pa_nil)))))))))), ?_⟩
  obtain ⟨_, v, pw, e, we, kw, rfl, he, hd, hpw, hty, hQ⟩ := h
  obtain ⟨a, vs, rfl, ha, av⟩ := isEx_wt he
  refine ⟨_, rfl, a, _, _, rfl, SqT.of ha, fun pr hpr => ⟨_, _, rfl, _, _, rfl, rfl, ?_⟩⟩
  have k1 : Kp [] H (upd H pr (.lst vs)) := Kp.new hpr
  have g1 : upd H pr (.lst vs) pr = some (.lst vs) := upd_same ..
  generalize upd H pr (.lst vs) = H1 at k1 g1
  refine ⟨_, rfl, rfl, _, rfl, ?_⟩
  by_cases hnm : ∃ x, e = .name x
  · obtain ⟨x, rfl⟩ := hnm
    obtain ⟨u, rfl, hu⟩ := av.one
    cases hu
    refine iteT ⟨_, rfl, _, rfl, pr, _, _, .str x, rfl, rfl, SqL.of g1, atI_nat (j := 0) rfl, pw, _, rfl, by exact hty.2 ▸ DGet.k (k := Sum.inr x) (k1.at hpw (by simp)), ?_⟩
    exact hQ _ k1
  have hwn : e.word ≠ ("name" : Str) := by
    cases e with
    | name x => exact absurd ⟨x, rfl⟩ hnm
    | bin o _ _ => cases o <;> (simp only [Ex.word, opN]; decide)
    | _ => simp only [Ex.word]; decide
  rw [show decide (V.str e.word = V.str "name") = false from decide_eq_false (fun z => hwn (V.str.inj z))]
  refine iteF ⟨_, rfl, (by show 2 ≤ sizeLine; decide), fun t2 ht2 => ⟨t2, _, rfl, .inr (SqT.of (upd_same ..)), rfl, rfl, _, rfl, ?_⟩⟩
  have k2 := k1.step (o := .tup [.str "num", .str "cut"]) ht2
  have g2 : upd H1 t2 (.tup [.str "num", .str "cut"]) pr = _ := (Kp.new (l := []) ht2).at g1 (by simp)
  generalize upd H1 t2 (.tup [.str "num", .str "cut"]) = H2 at k2 g2
  cases hb2 : inV (.str e.word) [.str "num", .str "cut"] with
  | true =>
    cases e with
    | num w' k =>
      obtain ⟨u, v, rfl, hu, hv⟩ := av.two
      cases hu
      exact iteT ⟨_, rfl, pr, _, _, _, rfl, rfl, SqL.of g2, atI_nat (j := 0) rfl, hty.2.1 ▸ hQ _ k2⟩
    | cut w' k =>
      obtain ⟨u, v, rfl, hu, hv⟩ := av.two
      cases hu
      exact iteT ⟨_, rfl, pr, _, _, _, rfl, rfl, SqL.of g2, atI_nat (j := 0) rfl, hty.2.1 ▸ hQ _ k2⟩
    | bin o _ _ => cases o <;> exact absurd hb2 (by simp only [Ex.word, opN]; decide)
    | name x => exact absurd ⟨x, rfl⟩ hnm
    | _ => exact absurd hb2 (by simp only [Ex.word, opN]; decide)
  | false =>
  refine iteF ⟨_, rfl, (by show 3 ≤ sizeLine; decide), fun t3 ht3 => ⟨t3, _, rfl, .inr (SqT.of (upd_same ..)), rfl, rfl, _, rfl, ?_⟩⟩
  have k3 := k2.step (o := .tup [.str "same", .str "below", .str "bit"]) ht3
  have g3 : upd H2 t3 (.tup [.str "same", .str "below", .str "bit"]) pr = _ := (Kp.new (l := []) ht3).at g2 (by simp)
  generalize upd H2 t3 (.tup [.str "same", .str "below", .str "bit"]) = H3 at k3 g3
  cases hb3 : inV (.str e.word) [.str "same", .str "below", .str "bit"] with
  | true =>
    have hw1 : we = 1 := by
      cases e with
      | bin o _ _ =>
        cases o
        case same => exact hty.2.1
        case below => exact hty.2.1
        all_goals exact absurd hb3 (by simp only [Ex.word, opN]; decide)
      | bit k _ => exact hty.2.1
      | name x => exact absurd ⟨x, rfl⟩ hnm
      | _ => exact absurd hb3 (by simp only [Ex.word, opN]; decide)
    subst hw1
    exact iteT (hQ _ k3)
  | false =>
  refine iteF ⟨_, rfl, (by show 2 ≤ sizeLine; decide), fun t4 ht4 => ⟨t4, _, rfl, .inr (SqT.of (upd_same ..)), rfl, rfl, _, rfl, ?_⟩⟩
  have k4 := k3.step (o := .tup [.str "sum", .str "join"]) ht4
  have g4 : upd H3 t4 (.tup [.str "sum", .str "join"]) pr = _ := (Kp.new (l := []) ht4).at g3 (by simp)
  generalize upd H3 t4 (.tup [.str "sum", .str "join"]) = H4 at k4 g4
  cases hb4 : inV (.str e.word) [.str "sum", .str "join"] with
  | true =>
    obtain ⟨o, p, q, u, v, rfl, ho, hu, hv⟩ : ∃ o p q u v, e = .bin o p q ∧ (o = .sum ∧ we = 1 + max u v ∨ o = .join ∧ we = u + v) ∧ Ty (WdR kw) p u ∧ Ty (WdR kw) q v := by
      cases e with
      | bin o p q =>
        cases o
        case sum => obtain ⟨_, u, v, h1, h2, h3⟩ := hty; exact ⟨_, _, _, u, v, rfl, .inl ⟨rfl, h3⟩, h1, h2⟩
        case join => obtain ⟨_, u, v, h1, h2, h3⟩ := hty; exact ⟨_, _, _, u, v, rfl, .inr ⟨rfl, h3⟩, h1, h2⟩
        all_goals exact absurd hb4 (by simp only [Ex.word, opN]; decide)
      | name x => exact absurd ⟨x, rfl⟩ hnm
      | _ => exact absurd hb4 (by simp only [Ex.word, opN]; decide)
    obtain ⟨p1, p2, rfl, hp1, hp2⟩ := av.two
    have hpd : p.depth ≤ j ∧ q.depth ≤ j := by
      have : max p.depth q.depth + 1 ≤ j + 1 := hd
      omega
    have hj : 1 ≤ j := Nat.le_trans (by cases p <;> simp [Ex.depth]) hpd.1
    refine iteT ⟨_, rfl, pr, rfl, ⟨_, SqL.of g4⟩, fun DD hDD => ?_⟩
    refine lc_list (xs := [p1, p2]) (fun i H' => H' DD = some (.lst (([V.int (u : Int), .int (v : Int)]).take i)) ∧ Kp [] H4 H') ⟨upd_same .., Kp.new hDD⟩ (fun i H' _ h => SqL.of (h.2.at g4 (by simp))) ?_ ?_
    · rintro i x H' hx ⟨hl, kk⟩
      have hcase : ∃ f uu, [p, q][i]? = some f ∧ IsEx H f x ∧ Ty (WdR kw) f uu ∧ f.depth ≤ j ∧ ([V.int (u : Int), .int (v : Int)]).take (i + 1) = ([V.int (u : Int), .int (v : Int)]).take i ++ [.int (uu : Int)] ∧ i < 2 := by
        match i, hx with
        | 0, hx => cases hx; exact ⟨p, u, rfl, hp1, hu, hpd.1, rfl, by decide⟩
        | 1, hx => cases hx; exact ⟨q, v, rfl, hp2, hv, hpd.2, rfl, by decide⟩
        | i + 2, hx => simp at hx
      obtain ⟨f, uu, _, hf, hfu, hfd, htk, hi2⟩ := hcase
      have kx := k4.trans kk
      refine ⟨rfl, yesT ⟨_, rfl, _, rfl, hj, _, pw, f, uu, kw, rfl, hf.keep kx, hfd, kx.at hpw (by simp), hfu, fun Hz kz => ⟨_, kz.at hl (by simp), ?_, ?_, ?_⟩⟩⟩
      · rw [List.length_take]
        exact Nat.lt_of_le_of_lt (show min i 2 ≤ 2 by omega) (by decide)
      · rw [upd_same, htk]
      · exact (kk.trans kz).fresh hDD
    · rintro H' ⟨hl, kk⟩
      refine ⟨DD, _, rfl, SqL.of hl, rfl, _, _, rfl, _, _, rfl, rfl, _, rfl, rfl, _, rfl, ?_⟩
      have kx := k4.trans kk
      rcases ho with ⟨rfl, hw⟩ | ⟨rfl, hw⟩
      · refine iteF ⟨_, rfl, _, rfl, u, v, rfl, 1, _, rfl, rfl, ?_⟩
        show Q (.int (1 + (if (v : Int) > (u : Int) then (v : Int) else (u : Int)))) H'
        rw [show (1 + (if (v : Int) > (u : Int) then (v : Int) else (u : Int))) = (we : Int) from by rw [hw]; split <;> omega]
        exact hQ _ kx
      · refine iteT ⟨_, rfl, _, rfl, u, v, rfl, rfl, ?_⟩
        have := hQ _ kx
        rw [hw] at this
        exact this
  | false =>
  refine iteF ?_
  have hfin : ∃ f x, IsEx H f x ∧ Ty (WdR kw) f we ∧ f.depth ≤ j ∧ (vs[if e.word = "pick" then 1 else 0]? = some x) := by
    cases e with
    | name x => exact absurd ⟨x, rfl⟩ hnm
    | num _ _ => exact absurd hb2 (by simp only [Ex.word, opN]; decide)
    | cut _ _ => exact absurd hb2 (by simp only [Ex.word, opN]; decide)
    | bit _ _ => exact absurd hb3 (by simp only [Ex.word, opN]; decide)
    | not p =>
      obtain ⟨u, rfl, hu⟩ := av.one
      exact ⟨p, u, hu, hty.2, Nat.le_of_succ_le_succ hd, rfl⟩
    | pick p q r =>
      obtain ⟨u, v, x, rfl, hu, hv, hx⟩ := av.three
      have : max (max p.depth q.depth) r.depth + 1 ≤ j + 1 := hd
      exact ⟨q, v, hv, hty.2.2.1, by omega, rfl⟩
    | bin o p q =>
      obtain ⟨u, v, rfl, hu, hv⟩ := av.two
      have : max p.depth q.depth + 1 ≤ j + 1 := hd
      cases o
      case sum => exact absurd hb4 (by simp only [Ex.word, opN]; decide)
      case join => exact absurd hb4 (by simp only [Ex.word, opN]; decide)
      case same => exact absurd hb3 (by simp only [Ex.word, opN]; decide)
      case below => exact absurd hb3 (by simp only [Ex.word, opN]; decide)
      all_goals exact ⟨p, u, hu, hty.2.1, by omega, rfl⟩
  obtain ⟨f, x, hf, hfw, hfd, hx⟩ := hfin
  have hj : 1 ≤ j := Nat.le_trans (by cases f <;> simp [Ex.depth]) hfd
  have fin : 1 ≤ j ∧ ∃ (v : V) (p : Addr) (e : Ex) (w : Nat) (kv : List (Key × V)), [x, V.ref pw] = [v, .ref p] ∧ IsEx H4 e v ∧ e.depth ≤ j ∧ H4 p = some (.dK kv) ∧ Ty (WdR kv) e w ∧ ∀ H', Kp [] H4 H' → Q (.int (w : Int)) H' :=
    ⟨hj, x, pw, f, we, kw, rfl, hf.keep k4, hfd, k4.at hpw (by simp), hfw, fun Hz kz => hQ Hz (k4.trans kz)⟩
  refine ⟨_, rfl, rfl, _, rfl, ?_⟩
  by_cases hp : e.word = ("pick" : Str)
  · rw [if_pos hp] at hx
    rw [show decide (V.str e.word = V.str "pick") = true from decide_eq_true (congrArg V.str hp)]
    exact iteT ⟨_, rfl, pr, _, _, _, rfl, rfl, SqL.of g4, atI_nat (j := 1) hx, _, rfl, fin⟩
  · rw [if_neg hp] at hx
    rw [show decide (V.str e.word = V.str "pick") = false from decide_eq_false (fun z => hp (V.str.inj z))]
    exact iteF ⟨_, rfl, pr, _, _, _, rfl, rfl, SqL.of g4, atI_nat (j := 0) hx, _, rfl, fin⟩
end
end WT

set_option Elab.async false
set_option linter.all false
set_option maxRecDepth 100000
set_option maxHeartbeats 2000000
/-! The worth of a typed expression lies within its width. -/
namespace WT
open PySem PySem.Spec PyProof.Rows L2
def Within (i : Int) (u : Nat) : Prop := 0 ≤ i ∧ i < 2 ^ u
theorem pow_pos' (u : Nat) : (0 : Int) < 2 ^ u := Int.pow_pos (by decide)
theorem pow_mono' {u v : Nat} (h : u ≤ v) : (2 : Int) ^ u ≤ 2 ^ v := by
  obtain ⟨k, rfl⟩ := Nat.exists_eq_add_of_le h
  rw [Int.pow_add]
  have h1 := pow_pos' u
  have h2 : (1 : Int) ≤ 2 ^ k := pow_pos' k
  have h3 := Int.mul_le_mul_of_nonneg_left h2 (Int.le_of_lt h1)
  rw [Int.mul_one] at h3
  exact h3
theorem within_nat {i : Int} {u : Nat} (h : Within i u) : ∃ n : Nat, i = n ∧ n < 2 ^ u := by
  obtain ⟨n, rfl⟩ := Int.eq_ofNat_of_zero_le h.1
  refine ⟨n, rfl, ?_⟩
  have := h.2
  exact_mod_cast this
theorem within_of {n u : Nat} (h : n < 2 ^ u) : Within (n : Int) u := ⟨Int.natCast_nonneg n, by exact_mod_cast h⟩
theorem or_nat (a b : Nat) : Builtin.bitOr (a : Int) (b : Int) = ((a ||| b : Nat) : Int) := by
  unfold Builtin.bitOr Builtin.bitNot
  have h1 : ∀ n : Nat, (-(n : Int) - 1) < 0 := fun n => by omega
  unfold Builtin.bitAnd Builtin.bitNot
  rw [show decide (0 ≤ (-(a : Int) - 1)) = false from decide_eq_false (by omega), show decide (0 ≤ (-(b : Int) - 1)) = false from decide_eq_false (by omega)]
  simp only
  rw [show (-(-(a : Int) - 1) - 1).toNat = a from by omega, show (-(-(b : Int) - 1) - 1).toNat = b from by omega]
  omega
theorem and_nat (a b : Nat) : Builtin.bitAnd (a : Int) (b : Int) = ((a &&& b : Nat) : Int) := by
  unfold Builtin.bitAnd
  rw [show decide (0 ≤ (a : Int)) = true from decide_eq_true (Int.natCast_nonneg a), show decide (0 ≤ (b : Int)) = true from decide_eq_true (Int.natCast_nonneg b)]
  rfl
theorem within_and {i j : Int} {u : Nat} (h : Within i u) (g : Within j u) : Within (Builtin.bitAnd i j) u := by
  obtain ⟨a, rfl, ha⟩ := within_nat h
  obtain ⟨b, rfl, hb⟩ := within_nat g
  rw [and_nat]
  exact within_of (Nat.lt_of_le_of_lt Nat.and_le_left ha)
theorem within_or {i j : Int} {u : Nat} (h : Within i u) (g : Within j u) : Within (Builtin.bitOr i j) u := by
  obtain ⟨a, rfl, ha⟩ := within_nat h
  obtain ⟨b, rfl, hb⟩ := within_nat g
  rw [or_nat]
  exact within_of (Nat.or_lt_two_pow ha hb)
theorem within_xor {i j : Int} {u : Nat} (h : Within i u) (g : Within j u) : Within (Builtin.bitXor i j) u := by
  obtain ⟨a, rfl, ha⟩ := within_nat h
  obtain ⟨b, rfl, hb⟩ := within_nat g
  unfold Builtin.bitXor
  rw [or_nat, and_nat]
  have h1 : a &&& b ≤ a ||| b := Nat.le_trans Nat.and_le_left Nat.left_le_or
  have h2 := within_of (Nat.or_lt_two_pow ha hb)
  exact ⟨by omega, by have := h2.2; omega⟩
theorem ev_bd {R : Str → Nat → Prop} {wd : Str → Nat} {V : Str → Int} (hR : ∀ x u, R x u → wd x = u) (hV : ∀ x u, R x u → Within (V x) u) : ∀ {e : Ex} {u : Nat}, Ty R e u → Within (e.ev wd V) u
  | .name x, u, ⟨_, h⟩ => hV x u h
  | .num w k, u, ⟨_, _, h⟩ => within_of h
  | .not a, u, ⟨_, h⟩ => by
    have := ev_bd hR hV (e := a) h
    show Within (2 ^ (a.wide wd) - 1 - a.ev wd V) u
    rw [wide_ty hR h]
    have h2 := this.2
    have h1 := this.1
    exact ⟨by omega, by omega⟩
  | .bin o a b, u, ⟨_, h⟩ => by
    cases o
    · exact within_and (ev_bd hR hV (e := a) h.1) (ev_bd hR hV (e := b) h.2)
    · exact within_or (ev_bd hR hV (e := a) h.1) (ev_bd hR hV (e := b) h.2)
    · exact within_xor (ev_bd hR hV (e := a) h.1) (ev_bd hR hV (e := b) h.2)
    · obtain ⟨p, q, h1, h2, rfl⟩ := h
      have i1 := ev_bd hR hV h1
      have i2 := ev_bd hR hV h2
      show Within (a.ev wd V + b.ev wd V) _
      have m1 := pow_mono' (Nat.le_max_left p q)
      have m2 := pow_mono' (Nat.le_max_right p q)
      have e : (2 : Int) ^ (1 + max p q) = 2 * 2 ^ max p q := by rw [Int.pow_add]; rfl
      obtain ⟨a1, a2⟩ := i1
      obtain ⟨b1, b2⟩ := i2
      exact ⟨by omega, by rw [e]; omega⟩
    · obtain ⟨rfl, _⟩ := h
      show Within (if _ then 1 else 0) 1
      split <;> exact ⟨by decide, by decide⟩
    · obtain ⟨rfl, _⟩ := h
      show Within (if _ then 1 else 0) 1
      split <;> exact ⟨by decide, by decide⟩
    · obtain ⟨p, q, h1, h2, rfl⟩ := h
      have i1 := ev_bd hR hV h1
      have i2 := ev_bd hR hV h2
      show Within (a.ev wd V + b.ev wd V * 2 ^ (a.wide wd)) _
      rw [wide_ty hR h1]
      obtain ⟨a1, a2⟩ := i1
      obtain ⟨b1, b2⟩ := i2
      have hp := pow_pos' p
      refine ⟨Int.add_nonneg a1 (Int.mul_nonneg b1 (Int.le_of_lt hp)), ?_⟩
      have h3 : b.ev wd V ≤ 2 ^ q - 1 := by omega
      have h4 := Int.mul_le_mul_of_nonneg_right h3 (Int.le_of_lt hp)
      rw [Int.sub_mul, Int.one_mul] at h4
      have e : (2 : Int) ^ (p + q) = 2 ^ q * 2 ^ p := by rw [Int.pow_add, Int.mul_comm]
      rw [e]
      omega
  | .pick a b c, u, ⟨_, _, h2, h3⟩ => by
    show Within (if _ then b.ev wd V else c.ev wd V) u
    split
    · exact ev_bd hR hV h2
    · exact ev_bd hR hV h3
  | .cut w a, u, ⟨_, h, _⟩ => by
    subst h
    exact ⟨Int.emod_nonneg _ (Int.ne_of_gt (pow_pos' _)), Int.emod_lt_of_pos _ (pow_pos' _)⟩
  | .bit k a, u, ⟨_, h, _⟩ => by
    subst h
    show Within (Builtin.bitAnd _ 1) 1
    rw [bitAnd_m1]
    exact ⟨by omega, by show _ < (2:Int) ^ 1; omega⟩
end WT

set_option Elab.async false
set_option linter.all false
set_option maxRecDepth 100000
set_option maxHeartbeats 8000000
/-! two_told, worth_of. -/
namespace WT
open PySem PySem.Spec PyProof.Rows L2
abbrev s_two_told : Stmt := topS 6
abbrev N_two_told : List Str := ["word", "one", "other"]
abbrev P_two_told : List Str := ["word", "one", "other"]
theorem sc_two_told : FnScope N_two_told P_two_told (defScope s_two_told) := ⟨rfl, rfl, rfl, by decide +kernel, rfl, by decide +kernel, by decide +kernel⟩
abbrev s_worth_of : Stmt := topS 7
abbrev N_worth_of : List Str := ["e", "widths", "value", "word", "rest", "some", "part"]
abbrev P_worth_of : List Str := ["e", "widths", "value"]
theorem sc_worth_of : FnScope N_worth_of P_worth_of (defScope s_worth_of) := ⟨rfl, rfl, rfl, by decide +kernel, rfl, by decide +kernel, by decide +kernel⟩
section
variable {P : Program} {w : World} {K : PySem.W.Frag} {mg : Str → Option Value} {base : Heap}
def spTwo : Sp := fun vs H Q _ => ∃ (o : Op) (i j : Int), vs = [.str (opN o), .int i, .int j] ∧ o ≠ .join ∧ Q (.int (o.ev 0 i j)) H
theorem cal_two (S : Std K mg "two_told" s_two_told) (T : Frees mg) : Cal P w K mg base "two_told" 1 P_two_told spTwo := by
  obtain ⟨f, fd, F, m⟩ := S
  refine ⟨f, fd, ?_, m, F.kp, F.bindsN fun _ _ _ _ _ _ us hl => match us, hl with | [_, _, _], _ => rfl⟩
  have sc := sc_two_told
  refine F.ok sc (fun vs H Q E h => by obtain ⟨_, _, _, rfl, _⟩ := h; rfl) fun cdv A outer s H vs Q E hr h => ⟨_, PSs.nox (pss_cons (ps_if (pt_cmpR op_eq (pv 0) pe_str (nomark _)) (pss_one (ps_ret (pe_op op_and (pv 1) (pv 2)))) pss_nil)
 (pss_cons (ps_if (pt_cmpR op_eq (pv 0) pe_str (nomark _)) (pss_one (ps_ret (pe_op op_or (pv 1) (pv 2)))) pss_nil)
 (pss_cons (ps_if (pt_cmpR op_eq (pv 0) pe_str (nomark _)) (pss_one (ps_ret (pe_op op_xor (pv 1) (pv 2)))) pss_nil)
 (pss_cons (ps_if (pt_cmpR op_eq (pv 0) pe_str (nomark _)) (pss_one (ps_ret (pe_op op_add (pv 1) (pv 2)))) pss_nil)
 (pss_cons (ps_if (pt_cmpR op_eq (pv 0) pe_str (nomark _)) (pss_one (ps_ret (pe_callTy call_int1 rfl T.int (by decide +kernel) (pa_cons (pe_cmpR op_eq (pv 1) (pv 2) (nomark _)) pa_nil)))) pss_nil)
 (pss_one (ps_ret (pe_callTy call_int1 rfl T.int (by decide +kernel) (pa_cons (pe_cmpR op_lt (pv 1) (pv 2) (nomark _)) pa_nil))))))))), ?_⟩
  obtain ⟨o, i, j, rfl, ho, hQ⟩ := h
  cases o
  case join => exact absurd rfl ho
  case and => exact ⟨_, rfl, rfl, _, rfl, iteT ⟨_, rfl, _, rfl, i, j, rfl, rfl, hQ⟩⟩
  case or => exact ⟨_, rfl, rfl, _, rfl, iteF ⟨_, rfl, rfl, _, rfl, iteT ⟨_, rfl, _, rfl, i, j, rfl, rfl, hQ⟩⟩⟩
  case xor => exact ⟨_, rfl, rfl, _, rfl, iteF ⟨_, rfl, rfl, _, rfl, iteF ⟨_, rfl, rfl, _, rfl, iteT ⟨_, rfl, _, rfl, i, j, rfl, rfl, hQ⟩⟩⟩⟩
  case sum => exact ⟨_, rfl, rfl, _, rfl, iteF ⟨_, rfl, rfl, _, rfl, iteF ⟨_, rfl, rfl, _, rfl, iteF ⟨_, rfl, rfl, _, rfl, iteT ⟨_, rfl, _, rfl, i, j, rfl, rfl, hQ⟩⟩⟩⟩⟩
  case same =>
    refine ⟨_, rfl, rfl, _, rfl, iteF ⟨_, rfl, rfl, _, rfl, iteF ⟨_, rfl, rfl, _, rfl, iteF ⟨_, rfl, rfl, _, rfl, iteF ⟨_, rfl, rfl, _, rfl, iteT ⟨_, rfl, _, rfl, rfl, .inr ⟨_, rfl, ?_⟩⟩⟩⟩⟩⟩⟩
    rw [dec_int]
    have h2 : Q (.int (if i = j then 1 else 0)) H := hQ
    by_cases e : i = j
    · rw [if_pos e] at h2
      rw [show (i == j) = true from by simpa using e]
      exact h2
    · rw [if_neg e] at h2
      rw [show (i == j) = false from by simpa using e]
      exact h2
  case below =>
    refine ⟨_, rfl, rfl, _, rfl, iteF ⟨_, rfl, rfl, _, rfl, iteF ⟨_, rfl, rfl, _, rfl, iteF ⟨_, rfl, rfl, _, rfl, iteF ⟨_, rfl, rfl, _, rfl, iteF ⟨_, rfl, _, rfl, i, j, rfl, rfl, .inr ⟨_, rfl, ?_⟩⟩⟩⟩⟩⟩⟩
    have h2 : Q (.int (if i < j then 1 else 0)) H := hQ
    by_cases e : i < j
    · rw [if_pos e] at h2
      rw [decide_eq_true e]
      exact h2
    · rw [if_neg e] at h2
      rw [decide_eq_false e]
      exact h2
/-! ### the lambda's body, in the eyes of worth_of -/
structure Vl (t : TE) (z c : Addr) (o : Obj) (L : List Addr) (N : Str → Prop) (V : Str → Int) (J : Hp → Prop) : Prop where
  keeps : ∀ l H0 H H', J H0 → J H → (∀ p ∈ l, H0 p = none) → (∀ p ∈ l, ∀ x, H p ≠ some (.ext x)) → Kp l H H' → J H'
  live : ∀ H, J H → ∀ b ∈ L, ∃ o', H b = some o' ∧ ∀ x, o' ≠ .ext x
  call : ∀ H x, J H → H c = some (ObO c o) → N x → ∀ Q : VK, (∀ H', J H' → Kp L H H' → Q (.int (V x)) H') → t [some (.str x), some (.ref z)] (unt H c) fun v H2 => H2 c = none → Q v (upd H2 c (ObO c o))
theorem Vl.keep {t : TE} {z c : Addr} {o : Obj} {L : List Addr} {N : Str → Prop} {V : Str → Int} {J : Hp → Prop} (h : Vl t z c o L N V J) : ∀ H H', J H → Kp [] H H' → J H' := fun H H' j k => h.keeps [] H H H' j j (by simp) (by simp) k
theorem Vl.ext {t : TE} {z c : Addr} {o : Obj} {L : List Addr} {N : Str → Prop} {V : Str → Int} {J : Hp → Prop} (h : Vl t z c o L N V J) : ∀ H, J H → ∀ b ∈ L, ∀ x, H b ≠ some (.ext x) := fun H j b hb x e => by
  obtain ⟨o', h1, h2⟩ := h.live H j b hb
  rw [h1] at e
  exact h2 x (Option.some.inj e)
theorem Vl.new {t : TE} {z c : Addr} {o : Obj} {L : List Addr} {N : Str → Prop} {V : Str → Int} {J : Hp → Prop} (h : Vl t z c o L N V J) {H : Hp} (j : J H) {p : Addr} (hp : H p = none) : p ∉ L := fun hb => by
  obtain ⟨o', h1, _⟩ := h.live H j p hb
  rw [h1] at hp
  cases hp
theorem AllV.ofMap {α β : Type} {R : V → β → Prop} {g : α → β} : ∀ {vs : List V} {as : List α}, AllV R vs (as.map g) → AllV (fun v a => R v (g a)) vs as
  | [], [], _ => trivial
  | _ :: _, _ :: _, h => ⟨h.1, AllV.ofMap h.2⟩
  | [], _ :: _, h => h.elim
  | _ :: _, [], h => h.elim
theorem LamAt.keep {L : List Addr} {H H' : Hp} {params : Arguments} {body : Expr} {scope : Scope} {q y : Str} {f c z : Addr} {o : Obj} (h : LamAt H params body scope q y f c z o) (k : Kp L H H') (hx : ∀ b ∈ L, ∀ x, H b ≠ some (.ext x)) : LamAt H' params body scope q y f c z o := by
  obtain ⟨⟨pm, ctv, c', h1, h2⟩, h3, h4⟩ := h
  have n : ∀ {b : Addr} {x}, H b = some (.ext x) → b ∉ L := fun e hb => hx _ hb _ e
  exact ⟨⟨pm, ctv, c', k.at h1 (n h1), k.at h2 (n h2)⟩, k.at h3 (n h3), h4⟩
def WR (kw : List (Key × V)) (wd : Str → Nat) (V : Str → Int) (x : Str) (u : Nat) : Prop := WdR kw x u ∧ wd x = u ∧ Within (V x) u
theorem WR.ty {kw : List (Key × V)} {wd : Str → Nat} {V : Str → Int} {e : Ex} {u : Nat} (h : Ty (WR kw wd V) e u) : Ty (WdR kw) e u := h.imp fun _ _ _ q => q.1
theorem WR.wide {kw : List (Key × V)} {wd : Str → Nat} {V : Str → Int} {e : Ex} {u : Nat} (h : Ty (WR kw wd V) e u) : e.wide wd = u := wide_ty (fun _ _ q => q.2.1) h
theorem WR.bd {kw : List (Key × V)} {wd : Str → Nat} {V : Str → Int} {e : Ex} {u : Nat} (h : Ty (WR kw wd V) e u) : Within (e.ev wd V) u := ev_bd (fun _ _ q => q.2.1) (fun _ _ q => q.2.2) h
def spWorth (params : Arguments) (body : Expr) (scope : Scope) (q : Str) (t : TE) (j : Nat) : Sp := fun vs H Q _ => 1 ≤ j ∧ ∃ (v : V) (pw f c z : Addr) (o : Obj) (e : Ex) (u : Nat) (kw : List (Key × V)) (L : List Addr) (N : Str → Prop) (V' : Str → Int) (J : Hp → Prop) (wd : Str → Nat),
  vs = [v, .ref pw, .ref f] ∧ IsEx H e v ∧ e.depth ≤ j ∧ H pw = some (.dK kw) ∧ pw ∉ L ∧ LamAt H params body scope q "self" f c z o ∧ Vl t z c o L N V' J ∧ J H ∧ (∀ x ∈ e.names, N x) ∧ Ty (WR kw wd V') e u ∧ ∀ H', J H' → Kp L H H' → Q (.int (e.ev wd V')) H'
variable {params : Arguments} {body : Expr} {scope : Scope} {q : Str} {t : TE} {b : Nat}
theorem cal_worth (S : Std K mg "worth_of" s_worth_of) (T : Frees mg) (cw : ∀ j, Cal P w K mg base "width_of" j P_width_of (spWidth j)) (ct : Cal P w K mg base "two_told" 1 P_two_told spTwo)
    (L : Lam1 scope "path" "self") (hbind : ∀ (c : Addr) (u pm cv ctv : Value), bindArgs (PySem.W.kla_fn "<lambda>" q params body scope [(("self" : Str), c)] pm cv ctv) ⟨[u], []⟩ = pure [(("path" : Str), u)])
    (hbody : ∀ (A : Around) (outer : List Env) (f c c' : Addr) (s : Shared) (H : Hp), Room b (A.deeper (PySem.W.envX q scope s.heap.objs.size f (.ref c') [("self", c)])) → PE (lamX P w K mg base "path" "self" q scope f c c' A outer s H) body t) (j : Nat) :
    Cal P w K mg base "worth_of" (b + 1 + j) P_worth_of (spWorth params body scope q t j) := by
  induction j with
  | zero =>
    obtain ⟨f, fd, F, m⟩ := S
    exact ⟨f, fd, ⟨fun vs H Q E h => by have := h.1; omega, fun A outer s H args us vs Q E _ _ _ _ h => by have := h.1; omega⟩, m, F.kp, F.bindsN fun _ _ _ _ _ _ us hl => match us, hl with | [_, _, _], _ => rfl⟩
  | succ j ih =>
  obtain ⟨f, fd, F, m⟩ := S
  obtain ⟨fi, di, G_worth_of, m_worth_of, k_worth_of, b_worth_of⟩ := ih
  obtain ⟨fw, dw, G_width_of, m_width_of, k_width_of, b_width_of⟩ := cw j
  obtain ⟨ft, dt, G_two_told, m_two_told, k_two_told, b_two_told⟩ := ct
  refine ⟨f, fd, ?_, m, F.kp, F.bindsN fun _ _ _ _ _ _ us hl => match us, hl with | [_, _, _], _ => rfl⟩
  have sc := sc_worth_of
  refine F.ok (k := b + 1 + j) sc (fun vs H Q E h => by obtain ⟨_, _, _, _, _, _, _, _, _, _, _, _, _, _, _, rfl, _⟩ := h; rfl) fun cdv A outer s H vs Q E hr h => ⟨_, PSs.nox (pss_cons (ps_asg (pv 0) (PG.toK (t' := gStar K _) (pg_star rfl (pgs_cons (pg_name (i := 3) sc.nd rfl (Or.inl rfl)) (pgs_cons (pg_name (i := 4) sc.nd rfl (Or.inl rfl)) pgs_nil)))))
 (pss_cons (ps_if (pt_cmpR op_eq (pv 3) pe_str (nomark _)) (pss_one (ps_ret (pe_lamUse (n := "value") (i := 2) L (hr.mono (by omega)) rfl (Or.inr (Or.inl rfl)) (pe_ix (ixl K) (pv 4) pe_int (fun _ _ => rfl)) hbind (fun f c c1 s H hr2 => hbody _ _ f c c1 s H hr2)))) pss_nil)
 (pss_cons (ps_if (pt_cmpR op_eq (pv 3) pe_str (nomark _)) (pss_one (ps_ret (pe_ix (ixl K) (pv 4) pe_int (fun _ _ => rfl)))) pss_nil)
 (pss_cons (ps_if (pt_cmpR op_eq (pv 3) pe_str (nomark _)) (pss_one (ps_ret (pe_op op_mod (pe_call G_worth_of (hr.mono (by omega)) rfl m_worth_of k_worth_of b_worth_of .nil pass0 (pa_cons (pe_ix (ixl K) (pv 4) pe_int (fun _ _ => rfl)) (pa_cons (pv 1) (pa_cons (pv 2) pa_nil)))) (pe_op op_oneShl pe_int (pe_ix (ixl K) (pv 4) pe_int (fun _ _ => rfl)))))) pss_nil)
 (pss_cons (ps_if (pt_cmpR op_eq (pv 3) pe_str (nomark _)) (pss_one (ps_ret (pe_op op_and (pe_op op_shr (pe_call G_worth_of (hr.mono (by omega)) rfl m_worth_of k_worth_of b_worth_of .nil pass0 (pa_cons (pe_ix (ixl K) (pv 4) pe_int (fun _ _ => rfl)) (pa_cons (pv 1) (pa_cons (pv 2) pa_nil)))) (pe_ix (ixl K) (pv 4) pe_int (fun _ _ => rfl))) pe_int))) pss_nil)
 (pss_cons (ps_setLc (i := 5) (own := [("part", 6)]) rfl sc.nd rfl rfl (sw_true rfl rfl rfl (by decide +kernel)) (PI.toK (t' := iList K _) (pi_list (pv 4))) (blkOk_by (N := N_worth_of) (sc := defScope s_worth_of) (by decide +kernel)) (fun _ _ _ _ _ => (pg_name (i := 6) sc.nd rfl (Or.inl rfl))) (fun _ _ _ _ _ => pts_nil) (fun _ _ _ _ _ => (pe_call G_worth_of (hr.mono (by omega)) rfl m_worth_of k_worth_of b_worth_of .nil pass0 (pa_cons (pv 6) (pa_cons (pv 1) (pa_cons (pv 2) pa_nil))))))
 (pss_cons (ps_if (pt_cmpR op_eq (pv 3) pe_str (nomark _)) (pss_one (ps_ret (pe_ifExp (pt_cmpR op_eq (pe_ix (ixl K) (pv 5) pe_int (fun _ _ => rfl)) pe_int (nomark _)) (pe_ix (ixl K) (pv 5) pe_int (fun _ _ => rfl)) (pe_ix (ixl K) (pv 5) pe_int (fun _ _ => rfl))))) pss_nil)
 (pss_cons (ps_if (pt_cmpR op_eq (pv 3) pe_str (nomark _)) (pss_one (ps_ret (pe_op op_sub (pe_op op_sub (pe_op op_oneShl pe_int (pe_call G_width_of (hr.mono (by omega)) rfl m_width_of k_width_of b_width_of .nil pass0 (pa_cons (pe_ix (ixl K) (pv 4) pe_int (fun _ _ => rfl)) (pa_cons (pv 1) pa_nil)))) pe_int) (pe_ix (ixl K) (pv 5) pe_int (fun _ _ => rfl))))) pss_nil)
 (pss_cons (ps_if (pt_cmpR op_eq (pv 3) pe_str (nomark _)) (pss_one (ps_ret (pe_op op_add (pe_ix (ixl K) (pv 5) pe_int (fun _ _ => rfl)) (pe_op op_shl (pe_ix (ixl K) (pv 5) pe_int (fun _ _ => rfl)) (pe_call G_width_of (hr.mono (by omega)) rfl m_width_of k_width_of b_width_of .nil pass0 (pa_cons (pe_ix (ixl K) (pv 4) pe_int (fun _ _ => rfl)) (pa_cons (pv 1) pa_nil))))))) pss_nil)
 (pss_one (ps_ret (pe_call G_two_told (hr.mono (by omega)) rfl m_two_told k_two_told b_two_told .nil pass0 (pa_cons (pv 3) (pa_cons (pe_ix (ixl K) (pv 5) pe_int (fun _ _ => rfl)) (pa_cons (pe_ix (ixl K) (pv 5) pe_int (fun _ _ => rfl)) pa_nil))))))))))))))), ?_⟩
  obtain ⟨_, v, pw, fl, cl, z, o, e, ue, kw, Ll, N, V', J, wd, rfl, he, hd, hpw, hpl, hlam, hvl, hJ, hnm, hty, hQ⟩ := h
  obtain ⟨a, vs, rfl, ha, av⟩ := isEx_wt he
  refine ⟨_, rfl, a, _, _, rfl, SqT.of ha, fun pr hpr => ⟨_, _, rfl, _, _, rfl, rfl, ?_⟩⟩
  have k1 : Kp [] H (upd H pr (.lst vs)) := Kp.new hpr
  have g1 : upd H pr (.lst vs) pr = some (.lst vs) := upd_same ..
  have hprl := hvl.new hJ hpr
  generalize upd H pr (.lst vs) = H1 at k1 g1
  have J1 := hvl.keep _ _ hJ k1
  have lam1 := hlam.keep k1 (by simp)
  have hx1 := hvl.ext _ J1
  have fin : ∀ H' i, e.ev wd V' = i → J H' → Kp Ll H1 H' → Q (.int i) H' := fun H' i e1 j1 k => by rw [← e1]; exact hQ H' j1 (k1.up.trans k)
  refine ⟨_, rfl, rfl, _, rfl, ?_⟩
  by_cases hnm' : ∃ x, e = .name x
  · obtain ⟨x, rfl⟩ := hnm'
    obtain ⟨u, rfl, hu⟩ := av.one
    cases hu
    refine iteT ⟨fl, rfl, ⟨cl, z, o, lam1⟩, _, rfl, pr, _, _, .str x, rfl, rfl, SqL.of g1, atI_nat (j := 0) rfl, cl, z, o, lam1, ?_⟩
    exact hvl.call H1 x J1 lam1.cell (hnm x (by simp [Ex.names])) Q fun H' j1 k => hQ H' j1 (k1.up.trans k)
  have hwn : e.word ≠ ("name" : Str) := by
    cases e with
    | name x => exact absurd ⟨x, rfl⟩ hnm'
    | bin o _ _ => cases o <;> (simp only [Ex.word, opN]; decide)
    | _ => simp only [Ex.word]; decide
  rw [show decide (V.str e.word = V.str "name") = false from decide_eq_false (fun z => hwn (V.str.inj z))]
  refine iteF ⟨_, rfl, rfl, _, rfl, ?_⟩
  by_cases hnum : ∃ w' k, e = .num w' k
  · obtain ⟨w', k, rfl⟩ := hnum
    obtain ⟨u, v, rfl, hu, hv⟩ := av.two
    cases hu
    cases hv
    exact iteT ⟨_, rfl, pr, _, _, _, rfl, rfl, SqL.of g1, atI_nat (j := 1) rfl, fin _ _ rfl J1 (Kp.refl _ _)⟩
  have hwn2 : e.word ≠ ("num" : Str) := by
    cases e with
    | num w' k => exact absurd ⟨w', k, rfl⟩ hnum
    | bin o _ _ => cases o <;> (simp only [Ex.word, opN]; decide)
    | _ => simp only [Ex.word]; decide
  rw [show decide (V.str e.word = V.str "num") = false from decide_eq_false (fun z => hwn2 (V.str.inj z))]
  refine iteF ⟨_, rfl, rfl, _, rfl, ?_⟩
  by_cases hcut : ∃ w' k, e = .cut w' k
  · obtain ⟨w', p, rfl⟩ := hcut
    obtain ⟨u, v, rfl, hu, hv⟩ := av.two
    cases hu
    obtain ⟨hw64, rfl, uu, huu⟩ := hty
    refine iteT ⟨_, rfl, pr, _, _, _, rfl, rfl, SqL.of g1, atI_nat (j := 1) rfl, _, rfl, _, rfl, ?_⟩
    have hpd := Nat.le_of_succ_le_succ hd
    refine ⟨Nat.le_trans (by cases p <;> simp [Ex.depth]) hpd, v, pw, fl, cl, z, o, p, uu, kw, Ll, N, V', J, wd, rfl, IsEx.keep k1 (show IsEx H p v from hv), hpd, k1.at hpw (by simp), hpl, lam1, hvl, J1, hnm, huu, fun H2 J2 k2 => ⟨_, rfl, pr, _, _, _, rfl, rfl, SqL.of (k2.at g1 hprl), atI_nat (j := 0) rfl, _, rfl, rfl, (by omega), _, _, rfl, rfl, pow_pos' _, ?_⟩⟩
    exact fin _ _ rfl J2 k2
  have hwn3 : e.word ≠ ("cut" : Str) := by
    cases e with
    | cut w' k => exact absurd ⟨w', k, rfl⟩ hcut
    | bin o _ _ => cases o <;> (simp only [Ex.word, opN]; decide)
    | _ => simp only [Ex.word]; decide
  rw [show decide (V.str e.word = V.str "cut") = false from decide_eq_false (fun z => hwn3 (V.str.inj z))]
  refine iteF ⟨_, rfl, rfl, _, rfl, ?_⟩
  by_cases hbit : ∃ w' k, e = .bit w' k
  · obtain ⟨n, p, rfl⟩ := hbit
    obtain ⟨u, v, rfl, hu, hv⟩ := av.two
    cases hu
    obtain ⟨hw64, rfl, uu, huu⟩ := hty
    refine iteT ⟨_, rfl, pr, _, _, _, rfl, rfl, SqL.of g1, atI_nat (j := 1) rfl, _, rfl, _, rfl, ?_⟩
    have hpd := Nat.le_of_succ_le_succ hd
    refine ⟨Nat.le_trans (by cases p <;> simp [Ex.depth]) hpd, v, pw, fl, cl, z, o, p, uu, kw, Ll, N, V', J, wd, rfl, IsEx.keep k1 (show IsEx H p v from hv), hpd, k1.at hpw (by simp), hpl, lam1, hvl, J1, hnm, huu, fun H2 J2 k2 => ⟨_, rfl, pr, _, _, _, rfl, rfl, SqL.of (k2.at g1 hprl), atI_nat (j := 0) rfl, _, _, rfl, rfl, Int.natCast_nonneg _, _, _, rfl, rfl, ?_⟩⟩
    exact fin _ _ rfl J2 k2
  have hwn4 : e.word ≠ ("bit" : Str) := by
    cases e with
    | bit w' k => exact absurd ⟨w', k, rfl⟩ hbit
    | bin o _ _ => cases o <;> (simp only [Ex.word, opN]; decide)
    | _ => simp only [Ex.word]; decide
  rw [show decide (V.str e.word = V.str "bit") = false from decide_eq_false (fun z => hwn4 (V.str.inj z))]
  refine iteF ?_
  obtain ⟨fs, hfs, hfl, hf⟩ : ∃ fs : List Ex, e.tl = fs.map Pt.ex ∧ fs.length ≤ 3 ∧ ∀ f ∈ fs, f.depth ≤ j ∧ (∀ y ∈ f.names, y ∈ e.names) ∧ ∃ uf, Ty (WR kw wd V') f uf := by
    cases e with
    | name x => exact absurd ⟨_, rfl⟩ hnm'
    | num _ _ => exact absurd ⟨_, _, rfl⟩ hnum
    | cut _ _ => exact absurd ⟨_, _, rfl⟩ hcut
    | bit _ _ => exact absurd ⟨_, _, rfl⟩ hbit
    | not p =>
      refine ⟨[p], rfl, by simp, fun f hf => ?_⟩
      rw [List.mem_singleton.mp hf]
      exact ⟨Nat.le_of_succ_le_succ hd, fun y hy => hy, _, hty.2⟩
    | pick p q r =>
      refine ⟨[p, q, r], rfl, by simp, fun f hf => ?_⟩
      have : max (max p.depth q.depth) r.depth + 1 ≤ j + 1 := hd
      simp only [List.mem_cons, List.not_mem_nil, or_false] at hf
      rcases hf with rfl | rfl | rfl
      · exact ⟨by omega, fun y hy => by simp [Ex.names, hy], _, hty.2.1⟩
      · exact ⟨by omega, fun y hy => by simp [Ex.names, hy], _, hty.2.2.1⟩
      · exact ⟨by omega, fun y hy => by simp [Ex.names, hy], _, hty.2.2.2⟩
    | bin o p q =>
      refine ⟨[p, q], rfl, by simp, fun f hf => ?_⟩
      have : max p.depth q.depth + 1 ≤ j + 1 := hd
      have hpq : (∃ u, Ty (WR kw wd V') p u) ∧ ∃ u, Ty (WR kw wd V') q u := by
        obtain ⟨_, h⟩ := hty
        cases o
        · exact ⟨⟨_, h.1⟩, _, h.2⟩
        · exact ⟨⟨_, h.1⟩, _, h.2⟩
        · exact ⟨⟨_, h.1⟩, _, h.2⟩
        · obtain ⟨u, v, h1, h2, _⟩ := h; exact ⟨⟨_, h1⟩, _, h2⟩
        · obtain ⟨_, u, h1, h2⟩ := h; exact ⟨⟨_, h1⟩, _, h2⟩
        · obtain ⟨_, u, h1, h2⟩ := h; exact ⟨⟨_, h1⟩, _, h2⟩
        · obtain ⟨u, v, h1, h2, _⟩ := h; exact ⟨⟨_, h1⟩, _, h2⟩
      simp only [List.mem_cons, List.not_mem_nil, or_false] at hf
      rcases hf with rfl | rfl
      · exact ⟨by omega, fun y hy => by simp [Ex.names, hy], hpq.1⟩
      · exact ⟨by omega, fun y hy => by simp [Ex.names, hy], hpq.2⟩
  rw [hfs] at av
  have av' := av.ofMap
  refine ⟨_, rfl, pr, rfl, ⟨_, SqL.of g1⟩, fun DD hDD => ?_⟩
  have hDl := hvl.new J1 hDD
  refine lc_list (xs := vs) (fun i H' => H' DD = some (.lst ((fs.take i).map fun f => V.int (f.ev wd V'))) ∧ J H' ∧ Kp Ll H1 H') ⟨upd_same .., hvl.keep _ _ J1 (Kp.new hDD), Kp.new hDD⟩ (fun i H' _ h => SqL.of (h.2.2.at g1 hprl)) ?_ ?_
  · rintro i x H' hx ⟨hl, J', kk⟩
    obtain ⟨f, hfi, hfx⟩ := av'.get hx
    obtain ⟨hfd, hfn, uf, hfu⟩ := hf f (List.mem_of_getElem? hfi)
    have hfx' : IsEx H f x := hfx
    refine ⟨rfl, yesT ⟨_, rfl, _, rfl, _, rfl, Nat.le_trans (by cases f <;> simp [Ex.depth]) hfd, x, pw, fl, cl, z, o, f, uf, kw, Ll, N, V', J, wd, rfl, (hfx'.keep k1).keep kk, hfd, kk.at (k1.at hpw (by simp)) hpl, hpl, lam1.keep kk hx1, hvl, J', fun y hy => hnm y (hfn y hy), hfu, fun H'' J'' k'' => ⟨_, k''.at hl hDl, ?_, ?_, hvl.keeps [DD] H1 _ _ J1 J'' (by simpa using hDD) (fun p hp x e => by rw [List.mem_singleton.mp hp, k''.at hl hDl] at e; cases e) (Kp.put (k''.at hl hDl) (by simp)), ?_⟩⟩⟩
    · rw [List.length_map, List.length_take]
      exact Nat.lt_of_le_of_lt (show min i fs.length ≤ 3 by omega) (by decide)
    · rw [upd_same, List.take_succ, hfi, List.map_append]
      rfl
    · exact (kk.trans k'').fresh hDD
  rintro H2 ⟨hl2, J2, k2⟩
  rw [av'.length, List.take_length] at hl2
  refine ⟨_, rfl, rfl, _, rfl, ?_⟩
  have g2 := k2.at g1 hprl
  cases e with
  | name x => exact absurd ⟨_, rfl⟩ hnm'
  | num _ _ => exact absurd ⟨_, _, rfl⟩ hnum
  | cut _ _ => exact absurd ⟨_, _, rfl⟩ hcut
  | bit _ _ => exact absurd ⟨_, _, rfl⟩ hbit
  | pick p q r =>
    obtain rfl : fs = [p, q, r] := by
      match fs, hfs with
      | [_, _, _], h => cases h; rfl
    refine iteT ⟨_, rfl, DD, _, _, _, rfl, rfl, SqL.of hl2, atI_nat (j := 0) rfl, rfl, _, rfl, ?_⟩
    by_cases h1 : p.ev wd V' = 1
    · rw [show decide (V.int (p.ev wd V') = V.int 1) = true from decide_eq_true (congrArg V.int h1)]
      exact iteT ⟨_, rfl, DD, _, _, _, rfl, rfl, SqL.of hl2, atI_nat (j := 1) rfl, fin _ _ (by show (if _ then _ else _) = _; rw [if_pos h1]) J2 k2⟩
    · rw [show decide (V.int (p.ev wd V') = V.int 1) = false from decide_eq_false (fun z => h1 (V.int.inj z))]
      exact iteF ⟨_, rfl, DD, _, _, _, rfl, rfl, SqL.of hl2, atI_nat (j := 2) rfl, fin _ _ (by show (if _ then _ else _) = _; rw [if_neg h1]) J2 k2⟩
  | not p =>
    obtain rfl : fs = [p] := by
      match fs, hfs with
      | [_], h => cases h; rfl
    obtain ⟨x, rfl, hx⟩ := av'.one
    obtain ⟨hfd, hfn, uf, hfu⟩ := hf p (by simp)
    have hx' : IsEx H p x := hx
    refine iteF ⟨_, rfl, rfl, _, rfl, iteT ⟨_, rfl, pr, _, _, _, rfl, rfl, SqL.of g2, atI_nat (j := 0) rfl, _, rfl, Nat.le_trans (by cases p <;> simp [Ex.depth]) hfd, x, pw, p, uf, kw, rfl, (hx'.keep k1).keep k2, hfd, k2.at (k1.at hpw (by simp)) hpl, WR.ty hfu, fun H3 k3 => ?_⟩⟩
    refine ⟨uf, rfl, rfl, Nat.le_trans hfu.le (by decide), _, _, rfl, rfl, _, rfl, DD, _, _, _, rfl, rfl, SqL.of (k3.at hl2 (by simp)), atI_nat (j := 0) rfl, _, _, rfl, rfl, fin _ _ ?_ (hvl.keep _ _ J2 k3) (k2.trans k3.up)⟩
    show 2 ^ (p.wide wd) - 1 - p.ev wd V' = _
    rw [WR.wide hfu]
  | bin o p q =>
    obtain rfl : fs = [p, q] := by
      match fs, hfs with
      | [_, _], h => cases h; rfl
    obtain ⟨x, y, rfl, hx, hy⟩ := av'.two
    obtain ⟨hfd, hfn, uf, hfu⟩ := hf p (by simp)
    obtain ⟨hgd, hgn, ug, hgu⟩ := hf q (by simp)
    have hx' : IsEx H p x := hx
    have hop : opN o ≠ ("pick" : Str) ∧ opN o ≠ ("not" : Str) := by cases o <;> exact ⟨by decide, by decide⟩
    rw [show decide (V.str (Ex.bin o p q).word = V.str "pick") = false from decide_eq_false (fun z => hop.1 (V.str.inj z))]
    refine iteF ⟨_, rfl, rfl, _, rfl, ?_⟩
    rw [show decide (V.str (Ex.bin o p q).word = V.str "not") = false from decide_eq_false (fun z => hop.2 (V.str.inj z))]
    refine iteF ⟨_, rfl, rfl, _, rfl, ?_⟩
    by_cases hj : o = .join
    · subst hj
      refine iteT ⟨_, rfl, DD, _, _, _, rfl, rfl, SqL.of hl2, atI_nat (j := 0) rfl, _, rfl, DD, _, _, _, rfl, rfl, SqL.of hl2, atI_nat (j := 1) rfl, _, rfl, pr, _, _, _, rfl, rfl, SqL.of g2, atI_nat (j := 0) rfl, _, rfl, Nat.le_trans (by cases p <;> simp [Ex.depth]) hfd, x, pw, p, uf, kw, rfl, (hx'.keep k1).keep k2, hfd, k2.at (k1.at hpw (by simp)) hpl, WR.ty hfu, fun H3 k3 => ?_⟩
      have hb := WR.bd hgu
      have hg64 := hgu.le
      have hf64 := hfu.le
      have m := pow_mono' hg64
      refine ⟨_, _, rfl, rfl, ⟨Int.natCast_nonneg _, by omega, ?_⟩, _, _, rfl, rfl, fin _ _ ?_ (hvl.keep _ _ J2 k3) (k2.trans k3.up)⟩
      · obtain ⟨b1, b2⟩ := hb
        have : q.ev wd V' < 2 ^ 64 := by omega
        omega
      · show p.ev wd V' + q.ev wd V' * 2 ^ (p.wide wd) = _
        rw [WR.wide hfu]
        rfl
    · have hjn : opN o ≠ ("join" : Str) := by cases o <;> first | exact absurd rfl hj | decide
      rw [show decide (V.str (Ex.bin o p q).word = V.str "join") = false from decide_eq_false (fun z => hjn (V.str.inj z))]
      refine iteF ⟨_, rfl, _, rfl, DD, _, _, _, rfl, rfl, SqL.of hl2, atI_nat (j := 0) rfl, _, rfl, DD, _, _, _, rfl, rfl, SqL.of hl2, atI_nat (j := 1) rfl, o, _, _, rfl, hj, fin _ _ ?_ J2 k2⟩
      show o.ev (p.wide wd) _ _ = o.ev 0 _ _
      cases o <;> first | exact absurd rfl hj | rfl
end
end WT

set_option Elab.async false
set_option linter.all false
set_option maxRecDepth 200000
set_option maxHeartbeats 2000000
/-! Plain: the waiting list of Beat.value runs out. -/
namespace WT
open PySem PySem.Spec PyProof.Rows L2
section
variable (nm : Str → List Str) (U B : List Str) (path : Str)
def lack (k : List Str) (z : Str) : List Str := (nm z).filter fun x => decide (x ∉ k)
inductive Run : Nat → List Str → List Str → Prop
  | done {k : List Str} : path ∈ k → Run 0 [] k
  | known {m : Nat} {s k : List Str} {z : Str} : z ∈ k → s.length ≤ 20000 → Run m s k → Run (m + 1) (s ++ [z]) k
  | make {m : Nat} {s k : List Str} {z : Str} : z ∉ k → z ∈ U → lack nm k z = [] → s.length ≤ 20000 → k.length ≤ 20000 → Run m s (z :: k) → Run (m + 1) (s ++ [z]) k
  | more {m : Nat} {s k : List Str} {z : Str} : z ∉ k → z ∈ U → lack nm k z ≠ [] → s.length + 1 + (lack nm k z).length ≤ 20000 → Run m (s ++ z :: lack nm k z) k → Run (m + 1) (s ++ [z]) k
def Ik (k : List Str) : Prop := (∀ z ∈ B, z ∈ k) ∧ k.length + (U.filter fun x => decide (x ∉ k)).length ≤ 20000
variable {nm U B path}
theorem filter_cut (k : List Str) (z : Str) (hk : z ∉ k) : ∀ U : List Str, z ∈ U → (U.filter fun x => decide (x ∉ z :: k)).length + 1 ≤ (U.filter fun x => decide (x ∉ k)).length
  | x :: U, h => by
    have mono : ∀ U : List Str, (U.filter fun x => decide (x ∉ z :: k)).length ≤ (U.filter fun x => decide (x ∉ k)).length := by
      intro U
      induction U with
      | nil => simp
      | cons y U ih =>
        rw [List.filter_cons, List.filter_cons]
        by_cases h1 : y ∈ k
        · have h2 : y ∈ z :: k := List.mem_cons_of_mem _ h1
          simp only [h1, h2, not_true_eq_false, decide_false]
          exact ih
        · by_cases h2 : y ∈ z :: k
          · simp only [h1, h2, not_true_eq_false, not_false_eq_true, decide_false, decide_true, if_true]
            rw [List.length_cons]
            exact Nat.le_succ_of_le ih
          · simp only [h1, h2, not_false_eq_true, decide_true, if_true]
            rw [List.length_cons, List.length_cons]
            omega
    rw [List.filter_cons, List.filter_cons]
    rcases List.mem_cons.mp h with e | e
    · subst e
      have h2 : z ∈ z :: k := List.mem_cons_self
      simp only [hk, h2, not_true_eq_false, not_false_eq_true, decide_false, decide_true, if_true]
      rw [List.length_cons]
      have := mono U
      exact Nat.succ_le_succ this
    · have ih := filter_cut k z hk U e
      by_cases h1 : x ∈ k
      · have h2 : x ∈ z :: k := List.mem_cons_of_mem _ h1
        simp only [h1, h2, not_true_eq_false, decide_false]
        exact ih
      · by_cases h2 : x ∈ z :: k
        · simp only [h1, h2, not_true_eq_false, not_false_eq_true, decide_false, decide_true, if_true]
          rw [List.length_cons]
          exact Nat.le_succ_of_le ih
        · simp only [h1, h2, not_false_eq_true, decide_true, if_true]
          rw [List.length_cons, List.length_cons]
          omega
theorem Ik.add {k : List Str} {z : Str} (h : Ik U B k) (hk : z ∉ k) (hz : z ∈ U) : Ik U B (z :: k) := ⟨fun x hx => List.mem_cons_of_mem _ (h.1 x hx), by
  have h1 := filter_cut k z hk U hz
  have h2 := h.2
  rw [List.length_cons]
  omega⟩
theorem Run.inv {n : Nat} {s k : List Str} (h : Run nm U path n s k) : (n = 0 ∧ s = [] ∧ path ∈ k) ∨ ∃ m s' z, n = m + 1 ∧ s = s' ++ [z] ∧ ((z ∈ k ∧ Run nm U path m s' k) ∨
    (z ∉ k ∧ z ∈ U ∧ lack nm k z = [] ∧ s'.length ≤ 20000 ∧ k.length ≤ 20000 ∧ Run nm U path m s' (z :: k)) ∨ (z ∉ k ∧ z ∈ U ∧ lack nm k z ≠ [] ∧ s'.length + 1 + (lack nm k z).length ≤ 20000 ∧ Run nm U path m (s' ++ z :: lack nm k z) k)) := by
  cases h with
  | done h => exact .inl ⟨rfl, rfl, h⟩
  | known a b c => exact .inr ⟨_, _, _, rfl, rfl, .inl ⟨a, c⟩⟩
  | make a b c d e f => exact .inr ⟨_, _, _, rfl, rfl, .inr (.inl ⟨a, b, c, d, e, f⟩)⟩
  | more a b c d e => exact .inr ⟨_, _, _, rfl, rfl, .inr (.inr ⟨a, b, c, d, e⟩)⟩
theorem run_z {rk : Str → Nat} (hU : ∀ z ∈ U, (nm z).length ≤ 30 ∧ ∀ x ∈ nm z, (x ∈ U ∧ rk x < rk z) ∨ x ∈ B) : ∀ (r : Nat) (z : Str) (s k : List Str), (z ∈ B ∨ z ∈ U ∧ rk z < r) → s.length + 40 * r ≤ 20000 → Ik U B k →
    (∀ k', Ik U B k' → (∀ x ∈ k, x ∈ k') → z ∈ k' → ∃ m, Run nm U path m s k') → ∃ m, Run nm U path m (s ++ [z]) k := by
  intro r
  induction r with
  | zero =>
    intro z s k hz hl hI hc
    rcases hz with hz | hz
    · obtain ⟨m, h⟩ := hc k hI (fun _ h => h) (hI.1 z hz)
      exact ⟨m + 1, .known (hI.1 z hz) (by omega) h⟩
    · omega
  | succ r ih =>
    intro z s k hz hl hI hc
    by_cases hk : z ∈ k
    · obtain ⟨m, h⟩ := hc k hI (fun _ h => h) hk
      exact ⟨m + 1, .known hk (by omega) h⟩
    have hzU : z ∈ U ∧ rk z < r + 1 := by
      rcases hz with h | h
      · exact absurd (hI.1 z h) hk
      · exact h
    obtain ⟨hn, hx⟩ := hU z hzU.1
    have make : ∀ k', Ik U B k' → (∀ x ∈ k, x ∈ k') → lack nm k' z = [] → ∃ m, Run nm U path m (s ++ [z]) k' := fun k' hI' hs hla => by
      by_cases hk' : z ∈ k'
      · obtain ⟨m, h⟩ := hc k' hI' hs hk'
        exact ⟨m + 1, .known hk' (by omega) h⟩
      · obtain ⟨m, h⟩ := hc (z :: k') (hI'.add hk' hzU.1) (fun x h => List.mem_cons_of_mem _ (hs x h)) List.mem_cons_self
        exact ⟨m + 1, .make hk' hzU.1 hla (by omega) (by have := hI'.2; omega) h⟩
    by_cases hla : lack nm k z = []
    · exact make k hI (fun _ h => h) hla
    have hll : (lack nm k z).length ≤ 30 := Nat.le_trans (List.length_filter_le _ _) hn
    have inner : ∀ (l : List Str) (k : List Str), (∀ x ∈ l, x ∈ nm z) → l.length ≤ 30 → Ik U B k → (∀ k', Ik U B k' → (∀ x ∈ k, x ∈ k') → (∀ x ∈ l, x ∈ k') → ∃ m, Run nm U path m (s ++ [z]) k') → ∃ m, Run nm U path m (s ++ [z] ++ l) k := by
      intro l
      induction h : l.length generalizing l with
      | zero =>
        intro k _ _ hI hc
        rw [List.length_eq_zero_iff.mp h] at hc ⊢
        simpa using hc k hI (fun _ h => h) (by simp)
      | succ n ihn =>
        intro k hm hl20 hI hc
        obtain ⟨l', y, rfl⟩ : ∃ l' y, l = l' ++ [y] := by
          have hne : l ≠ [] := by intro e; rw [e] at h; cases h
          exact ⟨l.dropLast, l.getLast hne, (List.dropLast_concat_getLast hne).symm⟩
        have hl' : l'.length = n := by simpa using h
        rw [← List.append_assoc]
        have hy : y ∈ B ∨ y ∈ U ∧ rk y < r := by
          rcases hx y (hm y (by simp)) with ⟨a, b⟩ | a
          · exact .inr ⟨a, by omega⟩
          · exact .inl a
        refine ih y (s ++ [z] ++ l') k hy (by simp only [List.length_append, List.length_cons, List.length_nil]; omega) hI fun k' hI' hs hyk => ?_
        refine ihn l' hl' k' (fun x hx' => hm x (by simp [hx'])) (by omega) hI' fun k2 hI2 hs2 hl2 => ?_
        refine hc k2 hI2 (fun x hx' => hs2 x (hs x hx')) fun x hx' => ?_
        rcases List.mem_append.mp hx' with e | e
        · exact hl2 x e
        · rw [List.mem_singleton.mp e]
          exact hs2 y hyk
    obtain ⟨m, hm⟩ := inner (lack nm k z) k (fun x h => (List.mem_filter.mp h).1) hll hI fun k' hI' hs hall => by
      refine make k' hI' hs ?_
      unfold lack
      rw [List.filter_eq_nil_iff]
      intro x hx' hd
      have hxk' : x ∉ k' := of_decide_eq_true hd
      have : x ∉ k := fun e => hxk' (hs x e)
      exact hxk' (hall x (List.mem_filter.mpr ⟨hx', decide_eq_true this⟩))
    refine ⟨m + 1, .more hk hzU.1 hla (by omega) ?_⟩
    rw [List.append_assoc] at hm
    exact hm
theorem run_one {rk : Str → Nat} (hU : ∀ z ∈ U, (nm z).length ≤ 30 ∧ ∀ x ∈ nm z, (x ∈ U ∧ rk x < rk z) ∨ x ∈ B) (hr : ∀ z ∈ U, rk z < 300) (hp : path ∈ B ∨ path ∈ U) {k : List Str} (hI : Ik U B k) : ∃ m, Run nm U path m [path] k := by
  refine run_z hU 300 path [] k ?_ (by simp) hI fun k' _ _ hk => ⟨0, .done hk⟩
  rcases hp with h | h
  · exact .inl h
  · exact .inr ⟨h, hr _ h⟩
end
end WT

set_option Elab.async false
set_option linter.all false
set_option maxRecDepth 100000
set_option maxHeartbeats 8000000
/-! Beat.value, Beat.worth. -/
namespace WT
open PySem PySem.Spec PyProof.Rows L2
/-- a method of the class at C -/
def StdM (K : PySem.W.Frag) (C : Addr) (m q : Str) (st : Stmt) : Prop := ∃ (f : Addr) (fd : FuncData), L2.FunD K m q (defArgs st) (defBody st) (defScope st) [] [] f fd ∧ Meth K C m f
/-- .. whose code object lies at c -/
def StdMC (K : PySem.W.Frag) (C c : Addr) (m q : Str) (st : Stmt) : Prop := ∃ (f : Addr) (fd : FuncData), L2.FunD K m q (defArgs st) (defBody st) (defScope st) [] [] f fd ∧ Meth K C m f ∧ fd.code = .ref c
def CalM (P : Program) (w : World) (K : PySem.W.Frag) (mg : Str → Option Value) (base : Heap) (C : Addr) (m : Str) (k : Nat) (ps : List Str) (sp : Sp) : Prop :=
  ∃ (f : Addr) (fd : FuncData), FnOk P w K mg base CX0 k f fd ps sp ∧ Meth K C m f ∧ L2.Binds K fd ps []
theorem FunD.okC {P : Program} {w : World} {K : PySem.W.Frag} {mg : Str → Option Value} {base : Heap} {x qual : Str} {params : Arguments} {body : List Stmt} {scope : Scope} {dvs : List V} {kws : List (Str × V)} {f c : Addr} {fd : FuncData}
    {CX : CXT} {N ps : List Str} {k : Nat} {sp : Sp} (F : FunD K x qual params body scope dvs kws f fd) (hc : fd.code = .ref c) (S : FnScope N ps scope) (len : ∀ vs H Q E, sp vs H Q E → vs.length = ps.length)
    (hbody : ∀ (A : Around) (outer : List Env) (s : Shared) (H : Hp) (vs : List V) (Q : VK) (E : XK), Room k (A.deeper (envOfC qual scope s.heap.objs.size f (.ref c))) → sp vs H Q E →
      ∃ t, PSs (cxOf CX P w K mg base N qual scope f (.ref c) A outer s H E) body t ∧ t { nx := fun _ H' => Q .non H', rt := Q } (start N vs) H) : FnOk P w K mg base CX (k + 1) f fd ps sp := by
  obtain ⟨oc, od, dV, kV, doc, pm, an, cdv, ct, osl, rfl, lk, hcd, _, _⟩ := F.ex
  obtain rfl : cdv = .ref c := hc
  exact fn_of lk hcd S len fun A outer s H vs Q E hr hsp => hbody A outer s H vs Q E hr hsp
abbrev s_beat_value : Stmt := inClass (topS 8) 1
abbrev N_beat_value : List Str := ["self", "path", "waiting", "here", "lacking", "name"]
abbrev P_beat_value : List Str := ["self", "path"]
theorem sc_beat_value : FnScope N_beat_value P_beat_value (defScope s_beat_value) := ⟨rfl, rfl, rfl, by decide +kernel, rfl, by decide +kernel, by decide +kernel⟩
abbrev s_beat_worth : Stmt := inClass (topS 8) 2
abbrev N_beat_worth : List Str := ["self", "e"]
abbrev P_beat_worth : List Str := ["self", "e"]
theorem sc_beat_worth : FnScope N_beat_worth P_beat_worth (defScope s_beat_worth) := ⟨rfl, rfl, rfl, by decide +kernel, rfl, by decide +kernel, by decide +kernel⟩
section
variable {P : Program} {w : World} {K : PySem.W.Frag} {mg : Str → Option Value} {base : Heap} {C : Addr}
/-- a path that is known already -/
def spValK (C : Addr) : Sp := fun vs H Q _ => ∃ (z dx pk : Addr) (x : Str) (u : V) (fs : List (Str × V)) (kk : List (Key × V)), vs = [.ref z, .str x] ∧ H z = some (.ins C dx fs) ∧ fs.lookup ("known" : Str) = some (.ref pk) ∧ H pk = some (.dK kk) ∧ valV kk (Sum.inr x) = some u ∧ ∀ H', Kp [] H H' → Q u H'
def spNo : Sp := fun _ _ _ _ => False
theorem fn_no {f : Addr} {fd : FuncData} {ps : List Str} : FnOk P w K mg base CX0 0 f fd ps spNo := ⟨fun _ _ _ _ h => h.elim, fun _ _ _ _ _ _ _ _ _ _ _ _ _ h => h.elim⟩
theorem cal_valK (S : StdM K C "value" "Beat.value" s_beat_value) (Sw : StdM K C "worth" "Beat.worth" s_beat_worth) (Sp : Std K mg "paths_in" s_paths_in) (T : Frees mg) (cBeat : Cls K C) (nk : NoAttr K C "known") (nr : NoAttr K C "rules") :
    CalM P w K mg base C "value" 1 P_beat_value (spValK C) := by
  obtain ⟨f, fd, F, m⟩ := S
  obtain ⟨fw, dw, Fw, m_worth⟩ := Sw
  obtain ⟨fp, dp, Fp, m_paths_in⟩ := Sp
  have k_paths_in := Fp.kp
  have G_worth : FnOk P w K mg base CX0 0 fw dw P_beat_worth spNo := fn_no
  have b_worth : L2.Binds K dw P_beat_worth [] := Fw.bindsN fun _ _ _ _ _ _ us hl => match us, hl with | [_, _], _ => rfl
  have G_paths_in : FnOk P w K mg base CX0 0 fp dp P_paths_in spNo := fn_no
  have b_paths_in : L2.Binds K dp P_paths_in [] := Fp.bindsN fun _ _ _ _ _ _ us hl => match us, hl with | [_], _ => rfl
  refine ⟨f, fd, ?_, m, F.bindsN fun _ _ _ _ _ _ us hl => match us, hl with | [_, _], _ => rfl⟩
  have sc := sc_beat_value
  refine F.ok sc (fun vs H Q E h => by obtain ⟨_, _, _, _, _, _, _, rfl, _⟩ := h; rfl) fun cdv A outer s H vs Q E hr h => ⟨_, PSs.nox (pss_cons (ps_set (i := 2) sc.nd rfl (Or.inl rfl) (pe_lst (pa_cons (pv 1) pa_nil)))
 (pss_cons (ps_while PassesOwn.never (pt_cmpR (op_neNil (Nat.lt_of_succ_lt (hu_of hr))) (pv 2) (pe_lst pa_nil) (nomark _))
 (pss_cons (ps_set (i := 3) sc.nd rfl (Or.inl rfl) (PE.toK (t' := tBM0 K _ _ _) (pe_bm0 PySem.F.plainAttrs_list PySem.F.slot_list_pop PySem.F.type_list_pop mt_pop (pv 2))))
 (pss_cons (ps_if (pt_cmp (pc_din (hu_of hr) (pv 3) (PE.toK (t' := tFld K _ _) (pe_fld (pv 0) rfl)))) (pss_one ps_continue) pss_nil)
 (pss_cons (ps_setLc (i := 4) (own := [("name", 5)]) rfl sc.nd rfl rfl (sw_true rfl rfl rfl (by decide +kernel)) (PI.toK (t' := iList K _) (pi_list (pe_call G_paths_in (hr.mono (by decide)) rfl m_paths_in k_paths_in b_paths_in .nil pass0 (pa_cons (pe_dget (hu_of hr) (PE.toK (t' := tFld K _ _) (pe_fld (pv 0) rfl)) (pv 3) (fun _ _ => rfl)) pa_nil)))) (blkOk_by (N := N_beat_value) (sc := defScope s_beat_value) (by decide +kernel)) (fun _ _ _ _ _ => (pg_name (i := 5) sc.nd rfl (Or.inl rfl))) (fun _ _ _ _ _ => pts_one (pt_cmp (pc_dnotin (hu_of hr) (pv 5) (PE.toK (t' := tFld K _ _) (pe_fld (pv 0) rfl))))) (fun _ _ _ _ _ => (pv 5)))
 (pss_one (ps_if (pt_cmpR (op_eqNil (Nat.lt_of_succ_lt (hu_of hr))) (pv 4) (pe_lst pa_nil) (nomark _)) (pss_one (ps_dput (hu_of hr) (PE.toK (t' := tFld K _ _) (pe_fld (pv 0) rfl)) (pv 3) (pe_meth (pv 0) cBeat (m_worth) G_worth (hr.mono (by decide)) b_worth .nil pass0 (pa_cons (pe_dget (hu_of hr) (PE.toK (t' := tFld K _ _) (pe_fld (pv 0) rfl)) (pv 3) (fun _ _ => rfl)) pa_nil)) rfl)) (pss_one (ps_expr (PE.toK (t' := tBM K _ _ _ _) (pe_bm PySem.F.plainAttrs_list PySem.F.slot_list_extend PySem.F.type_list_extend mt_extend (pv 2) (pa_cons (pe_op (catA K) (pe_lst (pa_cons (pv 3) pa_nil)) (pv 4)) pa_nil)))))))))))
 (pss_one (ps_ret (pe_dget (hu_of hr) (PE.toK (t' := tFld K _ _) (pe_fld (pv 0) rfl)) (pv 1) (fun _ _ => rfl)))))), ?_⟩
  obtain ⟨z, dx, pk, x, u, fs, kk, rfl, hz, hfs, hpk, hu, hQ⟩ := h
  refine ⟨_, rfl, (by show 1 ≤ sizeLine; decide), fun pw hpw => ?_⟩
  refine ⟨fun n σ H' => ∃ (v3 v4 v5 : Option V), σ = [some (.ref z), some (.str x), some (.ref pw), v3, v4, v5] ∧ Kp [] H H' ∧ H' pw = some (.lst ((List.replicate n x).map V.str)) ∧ n ≤ 1, ⟨1, _, _, _, rfl, Kp.new hpw, upd_same .., by omega⟩, ?_⟩
  rintro n σ H' ⟨v3, v4, v5, rfl, kk', hw, hn⟩
  refine ⟨_, rfl, (by show 0 ≤ sizeLine; decide), fun pn hpn => ⟨pw, pn, _, rfl, rfl, SqL.of ((Kp.new (l := []) hpn).at hw (by simp)), SqL.of (upd_same ..), _, rfl, ?_⟩⟩
  have k2 := kk'.step (o := .lst []) hpn
  have hw2 : upd H' pn (.lst []) pw = _ := (Kp.new (l := []) hpn).at hw (by simp)
  generalize upd H' pn (.lst []) = H2 at k2 hw2
  have hz2 := k2.at hz (by simp)
  match n, hn, hw2 with
  | 0, _, hw2 =>
    refine iteF ⟨_, rfl, z, C, dx, fs, _, rfl, hz2, cBeat, nk, hfs, _, rfl, pk, u, rfl, by exact hu ▸ DGet.k (k := Sum.inr x) (k2.at hpk (by simp)), hQ _ k2⟩
  | 1, _, hw2 =>
    refine iteT ⟨fun σ' H' => ∃ (v3 v4 v5 : Option V), σ' = [some (.ref z), some (.str x), some (.ref pw), v3, v4, v5] ∧ Kp [] H H' ∧ H' pw = some (.lst []), fun σ' H' ⟨v3, v4, v5, h1, h2, h3⟩ => ⟨0, by omega, v3, v4, v5, h1, h2, h3, by omega⟩, ?_⟩
    refine ⟨_, rfl, .inl ⟨rfl, _, SqL.of hw2⟩, pw, _, .str x, rfl, rfl, hw2, rfl, ?_⟩
    have k3 : Kp [] H (upd H2 pw (.lst [])) := k2.fresh hpw
    refine ⟨_, rfl, _, rfl, z, C, dx, fs, _, rfl, k3.at hz (by simp), cBeat, nk, hfs, pk, some u, rfl, by exact hu ▸ DGet.k (k := Sum.inr x) (k3.at hpk (by simp)), _, rfl, ?_⟩
    exact iteT ⟨_, _, _, rfl, k3, upd_same ..⟩
end
/-! ### the state of a beat -/
theorem obO_ne {c : Addr} {o : Obj} {q : Str} {v : Option Value} (hd : o.data = .cell v) : ObO c o ≠ LamX.CodeO c q := fun e => by
  obtain ⟨o1, o2, o3, o4⟩ := o
  obtain rfl : o3 = .cell v := hd
  generalize ho : (⟨o1, o2, .cell v, o4⟩ : Obj) = o at e
  have e2 : (fun h : Heap => h.get? c = some o) = _ := HO.ext.inj e
  have e3 := congrFun e2 { objs := Array.replicate (c + 1) o }
  have h1 : ({ objs := Array.replicate (c + 1) o } : Heap).get? c = some o := by
    unfold Heap.get?
    simp [← ho]
  obtain ⟨oc, vs, t, g1, g2, _⟩ := e3.mp h1
  rw [h1] at g1
  cases g1
  rw [← ho] at g2
  cases g2
def isU : FRow → Bool
  | .wire .. => true | .out .. => true | _ => false
def upaths (F : List FRow) : List Str := (F.filter isU).map FRow.path
def bpaths (F : List FRow) : List Str := (F.filter fun r => !isU r).map FRow.path
/-- the rule of a path -/
def Rule (F : List FRow) (p : Str) (e : Ex) : Prop := ∃ w, FRow.wire p w e ∈ F ∨ FRow.out p w e ∈ F
abbrev beatFs (pw pu pk : Addr) : List (Str × V) := [("widths", .ref pw), ("rules", .ref pu), ("known", .ref pk)]
structure Kn (F : List FRow) (V' : Str → Int) (kk : List (Key × V)) (k : List Str) : Prop where
  len : kk.length ≤ k.length
  mem : ∀ x, x ∈ k ↔ (valV kk (Sum.inr x)).isSome = true
  val : ∀ x u, valV kk (Sum.inr x) = some u → u = .int (V' x)
  ik : Ik (upaths F) (bpaths F) k
structure BeatSt (C Pt : Addr) (ql : Str) (F : List FRow) (V' : Str → Int) (z dx pw pu pk : Addr) (kw ku kk : List (Key × V)) (k : List Str) (H : Hp) : Prop where
  obj : H z = some (.ins C dx (beatFs pw pu pk))
  hw : H pw = some (.dK kw)
  hu : H pu = some (.dK ku)
  ex : ∀ p e, Rule F p e → ∃ v, valV ku (Sum.inr p) = some v ∧ IsEx H e v
  hk : H pk = some (.dK kk)
  kn : Kn F V' kk k
  tab : LamX.TabS H Pt ql
section
variable {C Pt : Addr} {ql : Str} {F : List FRow} {V' : Str → Int} {z dx pw pu pk : Addr} {kw ku kk : List (Key × V)} {k : List Str} {H H' : Hp}
theorem BeatSt.kp {l : List Addr} (b : BeatSt C Pt ql F V' z dx pw pu pk kw ku kk k H) (kp : Kp l H H') (h1 : z ∉ l) (h2 : pw ∉ l) (h3 : pu ∉ l) (h4 : pk ∉ l) (ht : LamX.TabS H' Pt ql) : BeatSt C Pt ql F V' z dx pw pu pk kw ku kk k H' where
  obj := kp.at b.obj h1
  hw := kp.at b.hw h2
  hu := kp.at b.hu h3
  ex := fun p e r => let ⟨v, a, c⟩ := b.ex p e r; ⟨v, a, c.keep kp⟩
  hk := kp.at b.hk h4
  kn := b.kn
  tab := ht
theorem tabS_kp {l : List Addr} (t : LamX.TabS H Pt ql) (kp : Kp l H H') (h1 : Pt ∉ l) (h2 : ∀ c, H c = some (LamX.CodeO c ql) → c ∉ l) : LamX.TabS H' Pt ql := by
  obtain ⟨ps, a, b, c⟩ := t
  exact ⟨ps, kp.at a h1, b, fun pos cv e => let ⟨d, g1, g2⟩ := c pos cv e; ⟨d, g1, kp.at g2 (h2 d g2)⟩⟩
/-- what value does, in the eyes of worth -/
structure VC (C Pt : Addr) (ql : Str) (spv : Sp) (z : Addr) (L : List Addr) (N : Str → Prop) (V' : Str → Int) (J : Hp → Prop) : Prop where
  keeps : ∀ l H0 H H', J H0 → J H → (∀ p ∈ l, H0 p = none) → (∀ p ∈ l, ∀ x, H p ≠ some (.ext x)) → Kp l H H' → J H'
  live : ∀ H, J H → ∀ b ∈ L, ∃ o', H b = some o' ∧ ∀ x, o' ≠ .ext x
  obj : ∀ H, J H → ∃ dx fs, H z = some (.ins C dx fs) ∧ fs.lookup ("value" : Str) = none
  tab : ∀ H, J H → LamX.TabS H Pt ql
  retab : ∀ H H3, J H → Kp [Pt] H H3 → LamX.TabS H3 Pt ql → J H3
  hide : ∀ H c x, J H → H c = some (.ext x) → (∀ b q', H b = some (LamX.CodeO b q') → b ≠ c) → J (unt H c)
  call : ∀ H x, J H → N x → ∀ (Q : VK) (E : XK), (∀ H', J H' → Kp L H H' → Q (.int (V' x)) H') → spv [.ref z, .str x] H Q E
theorem kp_unt {c : Addr} {x} (h : H c = some (.ext x)) : Kp [c] H (unt H c) := fun b o e n => by
  by_cases hb : b = c
  · subst hb
    obtain ⟨xs, rfl⟩ := n (by simp)
    rw [h] at e
    cases e
  · rw [unt_ne hb]; exact e
theorem code_ne {c : Addr} {o : Obj} {v : Option Value} (h : H c = some (ObO c o)) (hd : o.data = .cell v) : ∀ b q', H b = some (LamX.CodeO b q') → b ≠ c := fun b q' e z => by
  subst z
  rw [h] at e
  exact obO_ne hd (Option.some.inj e)
abbrev tVal (C : Addr) (spv : Sp) : TE := tMeth C "value" spv [] E0 (tVar 1) (tCons (tVar 0) tNil)
theorem VC.vl {spv : Sp} {L : List Addr} {N : Str → Prop} {J : Hp → Prop} {c : Addr} {o : Obj} {v : Option Value} (h : VC C Pt ql spv z L N V' J) (hd : o.data = .cell v) : Vl (tVal C spv) z c o L N V' J where
  keeps := h.keeps
  live := h.live
  call := fun H x j hc hn Q hQ => by
    have ju := h.hide H c _ j hc (code_ne hc hd)
    obtain ⟨dx, fs, h1, h2⟩ := h.obj _ ju
    refine ⟨_, rfl, z, dx, fs, rfl, h1, h2, _, rfl, ?_⟩
    refine h.call (unt H c) x ju hn _ _ fun H2 j2 k2 n2 => hQ _ (h.keeps [] H2 H2 _ j2 j2 (by simp) (by simp) (Kp.new n2)) ?_
    intro b o' e n
    by_cases hb : b = c
    · subst hb
      rw [upd_same, ← e, hc]
    · rw [upd_ne hb]
      exact k2 b o' (by rw [unt_ne hb]; exact e) n
end
end WT

set_option Elab.async false
set_option linter.all false
set_option maxRecDepth 100000
set_option maxHeartbeats 8000000
/-! Beat.worth, Beat.value in full. -/
namespace WT
open PySem PySem.Spec PyProof.Rows L2
def lamOf : List Stmt → Option (Arguments × Expr × Scope)
  | [.Return (some (.Call _ [_, _, .Lambda a b s _] _ _)) _] => some (a, b, s)
  | _ => none
abbrev lamA : Arguments := match lamOf (defBody s_beat_worth) with | some (a, _, _) => a | none => defArgs s_beat_worth
abbrev lamB : Expr := match lamOf (defBody s_beat_worth) with | some (_, b, _) => b | none => .Name "x" ⟨0, 0, 0, 0⟩
abbrev lamS : Scope := match lamOf (defBody s_beat_worth) with | some (_, _, s) => s | none => defScope s_beat_worth
abbrev qlB : Str := "Beat.worth.<locals>.<lambda>"
theorem qlB_eq : qlB = (("Beat.worth" : Str) ++ ".<locals>.") ++ "<lambda>" := by decide +kernel
theorem lam1 : Lam1 lamS "path" "self" := ⟨rfl, rfl, rfl, rfl, by decide⟩
def spBW (C Pt : Addr) (spv : Sp) : Sp := fun vs H Q _ => ∃ (z : Addr) (v : V) (e : Ex) (u : Nat) (kw : List (Key × V)) (pw dx : Addr) (fs : List (Str × V)) (L : List Addr) (N : Str → Prop) (V' : Str → Int) (J : Hp → Prop) (wd : Str → Nat),
  vs = [.ref z, v] ∧ IsEx H e v ∧ e.depth ≤ 3 ∧ H z = some (.ins C dx fs) ∧ fs.lookup ("widths" : Str) = some (.ref pw) ∧ H pw = some (.dK kw) ∧ pw ∉ L ∧ VC C Pt qlB spv z L N V' J ∧ J H ∧ (∀ x ∈ e.names, N x) ∧ Ty (WR kw wd V') e u ∧
  ∀ H', J H' → Kp (Pt :: L) H H' → Q (.int (e.ev wd V')) H'
section
variable {P : Program} {w : World} {K : PySem.W.Frag} {mg : Str → Option Value} {base : Heap} {C Pt c : Addr} {spv : Sp} {b : Nat}
theorem cal_bworth (Sw : StdMC K C c "worth" "Beat.worth" s_beat_worth) (TB : LamX.TabB base mg c Pt) (cval : CalM P w K mg base C "value" b P_beat_value spv) (S : Std K mg "worth_of" s_worth_of) (T : Frees mg) (cw : ∀ j, Cal P w K mg base "width_of" j P_width_of (spWidth j)) (ct : Cal P w K mg base "two_told" 1 P_two_told spTwo)
    (cBeat : Cls K C) (nw : NoAttr K C "widths") : CalM P w K mg base C "worth" (b + 5) P_beat_worth (spBW C Pt spv) := by
  obtain ⟨fv, dv, G_value, m_value, b_value⟩ := cval
  have hbody : ∀ (A : Around) (outer : List Env) (f c c' : Addr) (s : Shared) (H : Hp), Room b (A.deeper (PySem.W.envX qlB lamS s.heap.objs.size f (.ref c') [("self", c)])) → PE (lamX P w K mg base "path" "self" qlB lamS f c c' A outer s H) lamB (tVal C spv) := fun A outer f c c' s H hr => by
    exact pe_meth (pv 1) cBeat m_value G_value hr b_value .nil pass0 (pa_cons (pv 0) pa_nil)
  obtain ⟨fo, dO, G_worth_of, m_worth_of, k_worth_of, b_worth_of⟩ := cal_worth (params := lamA) (body := lamB) (scope := lamS) (q := qlB) (t := tVal C spv) (b := b) S T cw ct lam1 (fun c u pm cv ctv => rfl) hbody 3
  obtain ⟨f, fd, F, m, hcode⟩ := Sw
  refine ⟨f, fd, ?_, m, F.bindsN fun _ _ _ _ _ _ us hl => match us, hl with | [_, _], _ => rfl⟩
  have sc := sc_beat_worth
  refine FunD.okC (k := b + 4) F hcode sc (fun vs H Q E h => by obtain ⟨_, _, _, _, _, _, _, _, _, _, _, _, _, rfl, _⟩ := h; rfl) fun A outer s H vs Q E hr h => ⟨_, PSs.nox (pss_one (ps_ret (pe_lamCall (i := 0) (ql := qlB) G_worth_of (hr.mono (by omega)) rfl m_worth_of k_worth_of b_worth_of lam1 TB rfl qlB_eq rfl rfl rfl rfl (pv 1) (PE.toK (t' := tFld K _ _) (pe_fld (pv 0) rfl))))), ?_⟩
  obtain ⟨z, v, e, u, kw, pw, dx, fs, L, N, V', J, wd, rfl, he, hd, hz, hfs, hpw, hpl, vc, hJ, hnm, hty, hQ⟩ := h
  have hT := vc.tab H hJ
  refine ⟨_, rfl, _, rfl, z, C, dx, fs, _, rfl, hz, cBeat, nw, hfs, z, rfl, hT, fun fl cl ofl oc H3 kp T3 nf nc nfc la => ?_⟩
  obtain ⟨tps, htb, _⟩ := id hT
  have k3 : Kp [Pt] H H3 := fun b o e n => by
    by_cases hb : b = Pt
    · subst hb
      obtain ⟨xs, rfl⟩ := n (by simp)
      rw [htb] at e
      cases e
    · exact kp b o e hb
  have J3 := vc.retab H H3 hJ k3 T3
  have nc' : upd H3 fl (ObO fl ofl) cl = none := by rw [upd_ne (Ne.symm nfc)]; exact nc
  have k4 : Kp [] H3 (upd (upd H3 fl (ObO fl ofl)) cl (ObO cl oc)) := (Kp.new nf).step nc'
  have J4 := vc.keeps [] H3 H3 _ J3 J3 (by simp) (by simp) k4
  have npt : pw ≠ Pt := fun e => by rw [e, htb] at hpw; cases hpw
  refine ⟨by decide, v, pw, fl, cl, z, oc, e, u, kw, L, N, V', J, wd, rfl, (he.keep k3).keep k4, hd, k4.at (k3.at hpw (by simp [npt])) (by simp), hpl, la, vc.vl la.data, J4, hnm, hty, fun H5 J5 k5 => ?_⟩
  have lv := vc.live _ J4
  have f5 : H5 fl = some (ObO fl ofl) := k5.at (by rw [upd_ne nfc, upd_same]) fun hb => by
    obtain ⟨o', h1, h2⟩ := lv fl hb
    rw [upd_ne nfc, upd_same] at h1
    exact h2 _ (Option.some.inj h1).symm
  have c5 : H5 cl = some (ObO cl oc) := k5.at (upd_same ..) fun hb => by
    obtain ⟨o', h1, h2⟩ := lv cl hb
    rw [upd_same] at h1
    exact h2 _ (Option.some.inj h1).symm
  refine ⟨f5, c5, fun hne => ?_⟩
  have J6 := vc.hide H5 cl _ J5 c5 fun b q' e => (hne b q' e).1
  have f6 : unt H5 cl fl = some (ObO fl ofl) := by rw [unt_ne nfc]; exact f5
  have J7 := vc.hide _ fl _ J6 f6 fun b q' e => (hne b q' (unt_some e).2).2
  refine hQ _ J7 ?_
  intro b o e1 n
  have hbc : b ≠ cl := fun z1 => by
    have z2 : H3 cl ≠ none := by
      by_cases hb : b = Pt
      · obtain ⟨ps3, h3, _⟩ := T3
        rw [← z1, hb, h3]
        exact fun e => by cases e
      · rw [← z1, kp b o e1 hb]; exact fun e => by cases e
    exact z2 nc
  have hbf : b ≠ fl := fun z1 => by
    have z2 : H3 fl ≠ none := by
      by_cases hb : b = Pt
      · obtain ⟨ps3, h3, _⟩ := T3
        rw [← z1, hb, h3]
        exact fun e => by cases e
      · rw [← z1, kp b o e1 hb]; exact fun e => by cases e
    exact z2 nf
  rw [unt_ne hbf, unt_ne hbc]
  refine k5 b o (k4 b o (k3 b o e1 fun hm => n (by simp at hm; simp [hm])) (by simp)) fun hm => n (by simp [hm])
end
end WT

set_option Elab.async false
set_option linter.all false
set_option maxRecDepth 100000
set_option maxHeartbeats 8000000
/-! Beat.value in full. -/
namespace WT
open PySem PySem.Spec PyProof.Rows L2
section
variable {C Pt : Addr} {F : List FRow} {V' : Str → Int} {z dx pw pu pk : Addr} {kw ku : List (Key × V)} {H H' : Hp}
theorem BeatSt.addr {ql : Str} {kk : List (Key × V)} {k : List Str} (b : BeatSt C Pt ql F V' z dx pw pu pk kw ku kk k H) {l : List Addr} (hl : ∀ p ∈ l, H p = none ∨ (∃ x, H p = some (.ext x)) ∨ ∃ x, H p = some (.lst x)) : z ∉ l ∧ pw ∉ l ∧ pu ∉ l ∧ pk ∉ l ∧ Pt ∉ l := by
  obtain ⟨ps, ht, _⟩ := b.tab
  refine ⟨fun h => ?_, fun h => ?_, fun h => ?_, fun h => ?_, fun h => ?_⟩ <;> rcases hl _ h with e | ⟨x, e⟩ | ⟨x, e⟩
  · rw [b.obj] at e; cases e
  · rw [b.obj] at e; cases e
  · rw [b.obj] at e; cases e
  · rw [b.hw] at e; cases e
  · rw [b.hw] at e; cases e
  · rw [b.hw] at e; cases e
  · rw [b.hu] at e; cases e
  · rw [b.hu] at e; cases e
  · rw [b.hu] at e; cases e
  · rw [b.hk] at e; cases e
  · rw [b.hk] at e; cases e
  · rw [b.hk] at e; cases e
  · rw [ht] at e; cases e
  · rw [ht] at e; cases e
  · rw [ht] at e; cases e
/-- new things, and changes to new lists -/
theorem BeatSt.keeps {ql : Str} {kk kk0 : List (Key × V)} {k k0 : List Str} {l : List Addr} {H0 : Hp} (b0 : BeatSt C Pt ql F V' z dx pw pu pk kw ku kk0 k0 H0) (b : BeatSt C Pt ql F V' z dx pw pu pk kw ku kk k H) (h0 : ∀ p ∈ l, H0 p = none) (h1 : ∀ p ∈ l, ∀ x, H p ≠ some (.ext x)) (kp : Kp l H H') :
    BeatSt C Pt ql F V' z dx pw pu pk kw ku kk k H' := by
  obtain ⟨a1, a2, a3, a4, a5⟩ := b0.addr (l := l) fun p hp => .inl (h0 p hp)
  exact b.kp kp a1 a2 a3 a4 (tabS_kp b.tab kp a5 fun c e hc => h1 c hc _ e)
theorem BeatSt.keep {ql : Str} {kk : List (Key × V)} {k : List Str} (b : BeatSt C Pt ql F V' z dx pw pu pk kw ku kk k H) (kp : Kp [] H H') : BeatSt C Pt ql F V' z dx pw pu pk kw ku kk k H' := b.keeps b (by simp) (by simp) kp
/-- a list of one's own changes -/
theorem BeatSt.own {ql : Str} {kk : List (Key × V)} {k : List Str} (b : BeatSt C Pt ql F V' z dx pw pu pk kw ku kk k H) {p : Addr} {xs ys : List V} (hp : H p = some (.lst xs)) : BeatSt C Pt ql F V' z dx pw pu pk kw ku kk k (upd H p (.lst ys)) := by
  obtain ⟨a1, a2, a3, a4, a5⟩ := b.addr (l := [p]) fun q hq => by rw [List.mem_singleton.mp hq]; exact .inr (.inr ⟨_, hp⟩)
  exact b.kp (Kp.put hp (by simp)) a1 a2 a3 a4 (tabS_kp b.tab (Kp.put hp (by simp)) a5 fun c e hc => by rw [List.mem_singleton.mp hc, hp] at e; cases e)
theorem BeatSt.retab {ql : Str} {kk : List (Key × V)} {k : List Str} (b : BeatSt C Pt ql F V' z dx pw pu pk kw ku kk k H) (kp : Kp [Pt] H H') (t : LamX.TabS H' Pt ql) : BeatSt C Pt ql F V' z dx pw pu pk kw ku kk k H' := by
  obtain ⟨ps, ht, _⟩ := b.tab
  have ne : ∀ {a : Addr} {o : HO}, H a = some o → (∀ ps, o ≠ .tbl ps) → a ∉ [Pt] := fun e n h => by
    rw [List.mem_singleton.mp h, ht] at e
    exact n ps (Option.some.inj e).symm
  exact b.kp kp (ne b.obj fun _ e => by cases e) (ne b.hw fun _ e => by cases e) (ne b.hu fun _ e => by cases e) (ne b.hk fun _ e => by cases e) t
theorem BeatSt.hide {ql : Str} {kk : List (Key × V)} {k : List Str} (b : BeatSt C Pt ql F V' z dx pw pu pk kw ku kk k H) {c : Addr} {x} (hc : H c = some (.ext x)) (hn : ∀ b q', H b = some (LamX.CodeO b q') → b ≠ c) : BeatSt C Pt ql F V' z dx pw pu pk kw ku kk k (unt H c) := by
  obtain ⟨a1, a2, a3, a4, a5⟩ := b.addr (l := [c]) fun q hq => by rw [List.mem_singleton.mp hq]; exact .inr (.inl ⟨_, hc⟩)
  exact b.kp (kp_unt hc) a1 a2 a3 a4 (tabS_kp b.tab (kp_unt hc) a5 fun d e hd => hn d _ e (List.mem_singleton.mp hd))
theorem vcK {kk : List (Key × V)} {k : List Str} : VC C Pt qlB (spValK C) z [] (fun x => x ∈ k) V' (BeatSt C Pt qlB F V' z dx pw pu pk kw ku kk k) where
  keeps := fun l H0 H H' j0 j h0 h1 kp => BeatSt.keeps j0 j h0 h1 kp
  live := fun H j b hb => by simp at hb
  obj := fun H j => ⟨dx, _, j.obj, rfl⟩
  tab := fun H j => j.tab
  retab := fun H H3 j kp t => j.retab kp t
  hide := fun H c x j hc hn => j.hide hc hn
  call := fun H x j hx Q E hQ => by
    obtain ⟨u, hu⟩ := Option.isSome_iff_exists.mp ((j.kn.mem x).mp hx)
    refine ⟨z, dx, pk, x, u, _, kk, rfl, j.obj, rfl, j.hk, hu, fun H' kp => ?_⟩
    rw [j.kn.val x u hu]
    exact hQ H' (j.keep kp) kp
end
/-- what the flat rows are like -/
def FR (F : List FRow) (wd : Str → Nat) (x : Str) (u : Nat) : Prop := x ∈ F.map FRow.path ∧ wd x = u
structure FlatOk (F : List FRow) (wd rk : Str → Nat) : Prop where
  nd : (F.map FRow.path).Nodup
  len : F.length ≤ 40
  wdr : ∀ r ∈ F, wd r.path = r.width ∧ r.width ≤ 64
  plen : ∀ r ∈ F, r.path.length ≤ 1000
  rule : ∀ p e, Rule F p e → e.depth ≤ 3 ∧ (∀ x ∈ e.names, x ∈ upaths F ∧ rk x < rk p ∨ x ∈ bpaths F) ∧ Ty (FR F wd) e (wd p)
  rkb : ∀ p ∈ upaths F, rk p < 300
  box : ∀ p w c k e, FRow.box p w c k e ∈ F → e.depth ≤ 3 ∧ Ty (FR F wd) e w ∧ k < 2 ^ w
structure Sol (F : List FRow) (wd : Str → Nat) (V' : Str → Int) : Prop where
  rule : ∀ p e, Rule F p e → V' p = e.ev wd V'
  bd : ∀ r ∈ F, Within (V' r.path) (wd r.path)
def WdOk (F : List FRow) (wd : Str → Nat) (kw : List (Key × V)) : Prop := ∀ r ∈ F, WdR kw r.path (wd r.path)
theorem fr_wr {F : List FRow} {wd : Str → Nat} {V' : Str → Int} {kw : List (Key × V)} {e : Ex} {u : Nat} (s : Sol F wd V') (h : WdOk F wd kw) (t : Ty (FR F wd) e u) : Ty (WR kw wd V') e u := t.imp fun x _ w hx => by
  obtain ⟨h1, h2⟩ := hx
  obtain ⟨r, hr, rfl⟩ := List.mem_map.mp h1
  exact ⟨h2 ▸ h r hr, h2, h2 ▸ s.bd r hr⟩
theorem nodup_eq {F : List FRow} (nd : (F.map FRow.path).Nodup) : ∀ {r s : FRow}, r ∈ F → s ∈ F → r.path = s.path → r = s := by
  induction F with
  | nil => intro r s h; simp at h
  | cons a F ih =>
    intro r s hr hs e
    rw [List.map_cons, List.nodup_cons] at nd
    rcases List.mem_cons.mp hr with h1 | h1 <;> rcases List.mem_cons.mp hs with h2 | h2
    · rw [h1, h2]
    · subst h1; exact absurd (e ▸ List.mem_map_of_mem h2) nd.1
    · subst h2; exact absurd (e ▸ List.mem_map_of_mem h1) nd.1
    · exact ih nd.2 h1 h2 e
def FRow.ex? : FRow → Option Ex
  | .wire _ _ e => some e | .out _ _ e => some e | _ => none
def nmOf (F : List FRow) (p : Str) : List Str := match F.find? (fun r => isU r && decide (r.path = p)) with
  | some r => (r.ex?.map Ex.names).getD []
  | none => []
theorem mem_upaths {F : List FRow} {p : Str} : p ∈ upaths F ↔ ∃ e, Rule F p e := by
  unfold upaths
  rw [List.mem_map]
  constructor
  · rintro ⟨r, hr, rfl⟩
    obtain ⟨h1, h2⟩ := List.mem_filter.mp hr
    cases r with
    | wire p w e => exact ⟨e, w, .inl h1⟩
    | out p w e => exact ⟨e, w, .inr h1⟩
    | inr p w c => cases h2
    | box p w c k e => cases h2
  · rintro ⟨e, w, h | h⟩
    · exact ⟨_, List.mem_filter.mpr ⟨h, rfl⟩, rfl⟩
    · exact ⟨_, List.mem_filter.mpr ⟨h, rfl⟩, rfl⟩
theorem nmOf_rule {F : List FRow} (nd : (F.map FRow.path).Nodup) {p : Str} {e : Ex} (h : Rule F p e) : nmOf F p = e.names := by
  obtain ⟨r, hr, hu, hp, he⟩ : ∃ r ∈ F, isU r = true ∧ r.path = p ∧ r.ex? = some e := by
    obtain ⟨w, h | h⟩ := h
    · exact ⟨_, h, rfl, rfl, rfl⟩
    · exact ⟨_, h, rfl, rfl, rfl⟩
  unfold nmOf
  cases hf : F.find? (fun r => isU r && decide (r.path = p)) with
  | none =>
    have := List.find?_eq_none.mp hf r hr
    simp [hu, hp] at this
  | some s =>
    have h1 := List.mem_of_find?_eq_some hf
    have h2 := List.find?_some hf
    have h3 := (Bool.and_eq_true_iff.mp h2).2
    have : s = r := nodup_eq nd h1 hr ((of_decide_eq_true h3).trans hp.symm)
    subst this
    simp [he]
def spVal (C Pt : Addr) : Sp := fun vs H Q _ => ∃ (F : List FRow) (wd rk : Str → Nat) (V' : Str → Int) (z dx pw pu pk : Addr) (kw ku kk : List (Key × V)) (k : List Str) (x : Str), vs = [.ref z, .str x] ∧ FlatOk F wd rk ∧ Sol F wd V' ∧ WdOk F wd kw ∧ (x ∈ bpaths F ∨ x ∈ upaths F) ∧ pw ≠ pk ∧ pu ≠ pk ∧
  BeatSt C Pt qlB F V' z dx pw pu pk kw ku kk k H ∧ ∀ H' kk' k', BeatSt C Pt qlB F V' z dx pw pu pk kw ku kk' k' H' → Kp [Pt, pk] H H' → Q (.int (V' x)) H'
section
variable {P : Program} {w : World} {K : PySem.W.Frag} {mg : Str → Option Value} {base : Heap} {C Pt : Addr}
theorem cal_val (S : StdM K C "value" "Beat.value" s_beat_value) (T : Frees mg) (cw : CalM P w K mg base C "worth" 6 P_beat_worth (spBW C Pt (spValK C))) (cp : Cal P w K mg base "paths_in" 3 P_paths_in (spNamesIn 3)) (cBeat : Cls K C) (nk : NoAttr K C "known") (nr : NoAttr K C "rules") :
    CalM P w K mg base C "value" 7 P_beat_value (spVal C Pt) := by
  obtain ⟨f, fd, F, m⟩ := S
  obtain ⟨fw, dw, G_worth, m_worth, b_worth⟩ := cw
  obtain ⟨fp, dp, G_paths_in, m_paths_in, k_paths_in, b_paths_in⟩ := cp
  refine ⟨f, fd, ?_, m, F.bindsN fun _ _ _ _ _ _ us hl => match us, hl with | [_, _], _ => rfl⟩
  have sc := sc_beat_value
  refine F.ok sc (fun vs H Q E h => by obtain ⟨_, _, _, _, _, _, _, _, _, _, _, _, _, _, rfl, _⟩ := h; rfl) fun cdv A outer s H vs Q E hr h => ⟨_, PSs.nox (pss_cons (ps_set (i := 2) sc.nd rfl (Or.inl rfl) (pe_lst (pa_cons (pv 1) pa_nil)))
 (pss_cons (ps_while PassesOwn.never (pt_cmpR (op_neNil (Nat.lt_of_succ_lt (hu_of hr))) (pv 2) (pe_lst pa_nil) (nomark _))
 (pss_cons (ps_set (i := 3) sc.nd rfl (Or.inl rfl) (PE.toK (t' := tBM0 K _ _ _) (pe_bm0 PySem.F.plainAttrs_list PySem.F.slot_list_pop PySem.F.type_list_pop mt_pop (pv 2))))
 (pss_cons (ps_if (pt_cmp (pc_din (hu_of hr) (pv 3) (PE.toK (t' := tFld K _ _) (pe_fld (pv 0) rfl)))) (pss_one ps_continue) pss_nil)
 (pss_cons (ps_setLc (i := 4) (own := [("name", 5)]) rfl sc.nd rfl rfl (sw_true rfl rfl rfl (by decide +kernel)) (PI.toK (t' := iList K _) (pi_list (pe_call G_paths_in (hr.mono (by decide)) rfl m_paths_in k_paths_in b_paths_in .nil pass0 (pa_cons (pe_dget (hu_of hr) (PE.toK (t' := tFld K _ _) (pe_fld (pv 0) rfl)) (pv 3) (fun _ _ => rfl)) pa_nil)))) (blkOk_by (N := N_beat_value) (sc := defScope s_beat_value) (by decide +kernel)) (fun _ _ _ _ _ => (pg_name (i := 5) sc.nd rfl (Or.inl rfl))) (fun _ _ _ _ _ => pts_one (pt_cmp (pc_dnotin (hu_of hr) (pv 5) (PE.toK (t' := tFld K _ _) (pe_fld (pv 0) rfl))))) (fun _ _ _ _ _ => (pv 5)))
 (pss_one (ps_if (pt_cmpR (op_eqNil (Nat.lt_of_succ_lt (hu_of hr))) (pv 4) (pe_lst pa_nil) (nomark _)) (pss_one (ps_dput (hu_of hr) (PE.toK (t' := tFld K _ _) (pe_fld (pv 0) rfl)) (pv 3) (pe_meth (pv 0) cBeat (m_worth) G_worth (hr.mono (by decide)) b_worth .nil pass0 (pa_cons (pe_dget (hu_of hr) (PE.toK (t' := tFld K _ _) (pe_fld (pv 0) rfl)) (pv 3) (fun _ _ => rfl)) pa_nil)) rfl)) (pss_one (ps_expr (PE.toK (t' := tBM K _ _ _ _) (pe_bm PySem.F.plainAttrs_list PySem.F.slot_list_extend PySem.F.type_list_extend mt_extend (pv 2) (pa_cons (pe_op op_cat (pe_lst (pa_cons (pv 3) pa_nil)) (pv 4)) pa_nil)))))))))))
 (pss_one (ps_ret (pe_dget (hu_of hr) (PE.toK (t' := tFld K _ _) (pe_fld (pv 0) rfl)) (pv 1) (fun _ _ => rfl)))))), ?_⟩
  obtain ⟨Fl, wd, rk, V', z, dx, pw, pu, pk, kw, ku, kk, k, x, rfl, fo, so, wo, hx, npw, npu, bs, hQ⟩ := h
  have hU : ∀ z ∈ upaths Fl, (nmOf Fl z).length ≤ 30 ∧ ∀ x ∈ nmOf Fl z, (x ∈ upaths Fl ∧ rk x < rk z) ∨ x ∈ bpaths Fl := fun p hp => by
    obtain ⟨e, he⟩ := mem_upaths.mp hp
    obtain ⟨h1, h2, _⟩ := fo.rule p e he
    rw [nmOf_rule fo.nd he]
    exact ⟨Nat.le_trans (names_len h1) (by decide), h2⟩
  obtain ⟨n0, hrun0⟩ := run_one hU fo.rkb hx bs.kn.ik
  refine ⟨_, rfl, (by show 1 ≤ sizeLine; decide), fun pl hpl => ?_⟩
  have hpla := bs.addr (l := [pl]) fun p hp => by rw [List.mem_singleton.mp hp]; exact .inl hpl
  refine ⟨fun n σ H' => ∃ (v3 v4 v5 : Option V) (s k : List Str) (kk : List (Key × V)), σ = [some (.ref z), some (.str x), some (.ref pl), v3, v4, v5] ∧ BeatSt C Pt qlB Fl V' z dx pw pu pk kw ku kk k H' ∧ Kp [Pt, pk] H H' ∧ H' pl = some (.lst (s.map V.str)) ∧ Run (nmOf Fl) (upaths Fl) x n s k, ⟨n0, _, _, _, [x], k, kk, rfl, bs.keep (Kp.new hpl), Kp.new hpl, upd_same .., hrun0⟩, ?_⟩
  rintro n σ H1 ⟨v3, v4, v5, s, k, kk, rfl, b1, kp1, hs1, run1⟩
  refine ⟨_, rfl, (by show 0 ≤ sizeLine; decide), fun pn hpn => ⟨pl, pn, _, rfl, rfl, SqL.of ((Kp.new (l := []) hpn).at hs1 (by simp)), SqL.of (upd_same ..), _, rfl, ?_⟩⟩
  have k2 := Kp.new (l := []) (o := .lst []) hpn
  have b2 := b1.keep k2
  have hs2 : upd H1 pn (.lst []) pl = _ := k2.at hs1 (by simp)
  have kp2 := kp1.trans k2.up
  clear k2 hpn
  generalize upd H1 pn (.lst []) = H2 at b2 hs2 kp2
  rcases run1.inv with ⟨rfl, rfl, hxk⟩ | ⟨m, s, y, rfl, rfl, hcase⟩
  · obtain ⟨u, hu⟩ := Option.isSome_iff_exists.mp ((b2.kn.mem x).mp hxk)
    refine iteF ⟨_, rfl, z, C, dx, _, _, rfl, b2.obj, cBeat, nk, rfl, _, rfl, pk, u, rfl, by exact hu ▸ DGet.k (k := Sum.inr x) b2.hk, ?_⟩
    rw [b2.kn.val x u hu]
    exact hQ _ _ _ b2 kp2
  rw [show (!((s ++ [y]).map V.str).isEmpty) = true from by simp]
  refine iteT ⟨fun σ' H' => ∃ (v3 v4 v5 : Option V) (s k : List Str) (kk : List (Key × V)), σ' = [some (.ref z), some (.str x), some (.ref pl), v3, v4, v5] ∧ BeatSt C Pt qlB Fl V' z dx pw pu pk kw ku kk k H' ∧ Kp [Pt, pk] H H' ∧ H' pl = some (.lst (s.map V.str)) ∧ Run (nmOf Fl) (upaths Fl) x m s k, fun σ' H' ⟨v3, v4, v5, s, k, kk, h⟩ => ⟨m, by omega, v3, v4, v5, s, k, kk, h⟩, ?_⟩
  refine ⟨_, rfl, .inl ⟨rfl, _, SqL.of hs2⟩, pl, _, .str y, rfl, rfl, hs2, by simp, ?_⟩
  rw [show ((s ++ [y]).map V.str).dropLast = s.map V.str from by simp]
  have b3 := b2.own (ys := s.map V.str) hs2
  have kp3 : Kp [Pt, pk] H (upd H2 pl (.lst (s.map V.str))) := kp2.fresh hpl
  have hs3 : upd H2 pl (.lst (s.map V.str)) pl = some (.lst (s.map V.str)) := upd_same ..
  generalize upd H2 pl (.lst (s.map V.str)) = H3 at b3 kp3 hs3
  refine ⟨_, rfl, _, rfl, z, C, dx, _, _, rfl, b3.obj, cBeat, nk, rfl, pk, valV kk (Sum.inr y), rfl, DGet.k (k := Sum.inr y) b3.hk, _, rfl, ?_⟩
  rcases hcase with ⟨hyk, hrun⟩ | hcase
  · rw [(b3.kn.mem y).mp hyk]
    exact iteT ⟨_, _, _, s, k, kk, rfl, b3, kp3, hs3, hrun⟩
  have hyk : y ∉ k ∧ y ∈ upaths Fl := by
    rcases hcase with ⟨h1, h2, _⟩ | ⟨h1, h2, _⟩ <;> exact ⟨h1, h2⟩
  have hnone : valV kk (Sum.inr y) = none := by
    cases e : valV kk (Sum.inr y) with
    | none => rfl
    | some u => exact absurd ((b3.kn.mem y).mpr (by rw [e]; rfl)) hyk.1
  rw [hnone]
  obtain ⟨e, hrule⟩ := mem_upaths.mp hyk.2
  obtain ⟨hed, hen, hety⟩ := fo.rule y e hrule
  obtain ⟨v, hv, hev⟩ := b3.ex y e hrule
  refine iteF ⟨_, rfl, z, C, dx, _, _, rfl, b3.obj, cBeat, nr, rfl, _, rfl, pu, v, rfl, by exact hv ▸ DGet.k (k := Sum.inr y) b3.hu, by decide, by decide, v, e, rfl, hev, hed, fun pp H4 hpp npp k4 => ?_⟩
  have b4 := b3.keep k4
  have kp4 := kp3.trans k4.up
  have hs4 := k4.at hs3 (by simp)
  have hnl : e.names.length ≤ 27 := Nat.le_trans (names_len hed) (by decide)
  have hla : lack (nmOf Fl) k y = e.names.filter fun x => decide (x ∉ k) := by unfold lack; rw [nmOf_rule fo.nd hrule]
  refine ⟨pp, rfl, ⟨_, SqL.of hpp⟩, fun DD hDD => ?_⟩
  have hDp : ∀ {q : Addr} {o : HO}, H4 q = some o → q ≠ DD := fun h => ne_of_none h hDD
  refine lc_list (xs := e.names.map V.str) (fun i H' => H' DD = some (.lst ((((e.names.take i).filter fun x => decide (x ∉ k))).map V.str)) ∧ Kp [] H4 H') ⟨upd_same .., Kp.new hDD⟩ (fun i H' _ h => SqL.of (h.2.at hpp (by simp))) ?_ ?_
  · rintro i u H' hu ⟨hl, kk4⟩
    obtain ⟨x', hx', rfl⟩ : ∃ x', e.names[i]? = some x' ∧ u = .str x' := by
      rw [List.getElem?_map] at hu
      obtain ⟨x', h1, h2⟩ := Option.map_eq_some_iff.mp hu
      exact ⟨x', h1, h2.symm⟩
    have b5 := b4.keep kk4
    refine ⟨rfl, _, rfl, _, rfl, z, C, dx, _, _, rfl, b5.obj, cBeat, nk, rfl, pk, valV kk (Sum.inr x'), rfl, DGet.k (k := Sum.inr x') b5.hk, _, rfl, ?_⟩
    have et : e.names.take (i + 1) = e.names.take i ++ [x'] := by rw [List.take_succ, hx']; rfl
    by_cases hk' : x' ∈ k
    · rw [(b5.kn.mem x').mp hk']
      refine iteF ⟨?_, kk4⟩
      rw [et, List.filter_append]
      simpa [hk'] using hl
    · have : valV kk (Sum.inr x') = none := by
        cases q : valV kk (Sum.inr x') with
        | none => rfl
        | some u => exact absurd ((b5.kn.mem x').mpr (by rw [q]; rfl)) hk'
      rw [this]
      refine iteT ⟨_, rfl, _, hl, ?_, ?_, kk4.fresh hDD⟩
      · rw [List.length_map]
        have h1 := List.length_filter_le (fun x => decide (x ∉ k)) (e.names.take i)
        rw [List.length_take] at h1
        exact Nat.lt_of_le_of_lt (show _ ≤ 27 by omega) (by decide)
      · rw [upd_same, et, List.filter_append, List.map_append]
        simp [hk']
  rintro H5 ⟨hl5, k5⟩
  have hlen : (e.names.map V.str).length = e.names.length := by simp
  rw [hlen, List.take_length, ← hla] at hl5
  have b5 := b4.keep k5
  have kp5 := kp4.trans k5.up
  have hs5 := k5.at hs4 (by simp)
  refine ⟨_, rfl, (by show 0 ≤ sizeLine; decide), fun pn hpn => ⟨DD, pn, _, rfl, rfl, SqL.of ((Kp.new (l := []) hpn).at hl5 (by simp)), SqL.of (upd_same ..), _, rfl, ?_⟩⟩
  have k6 := Kp.new (l := []) (o := .lst []) hpn
  have b6 := b5.keep k6
  have kp6 := kp5.trans k6.up
  have hs6 : upd H5 pn (.lst []) pl = _ := k6.at hs5 (by simp)
  have hl6 : upd H5 pn (.lst []) DD = _ := k6.at hl5 (by simp)
  clear k6 hpn
  generalize upd H5 pn (.lst []) = H6 at b6 kp6 hs6 hl6
  obtain ⟨v', hv', hev'⟩ := b6.ex y e hrule
  rcases hcase with ⟨_, _, hnil, hsl, hkl, hrun⟩ | ⟨_, _, hnil, hsl, hrun⟩
  · rw [hnil]
    have hin : ∀ x ∈ e.names, x ∈ k := fun x hx => by
      rw [hla, List.filter_eq_nil_iff] at hnil
      by_cases h : x ∈ k
      · exact h
      · exact absurd (decide_eq_true h) (hnil x hx)
    refine iteT ⟨_, rfl, z, dx, _, rfl, b6.obj, rfl, _, rfl, z, C, dx, _, _, rfl, b6.obj, cBeat, nr, rfl, _, rfl, pu, v', rfl, by exact hv' ▸ DGet.k (k := Sum.inr y) b6.hu, ?_⟩
    refine ⟨z, v', e, wd y, kw, pw, dx, _, [], fun x => x ∈ k, V', BeatSt C Pt qlB Fl V' z dx pw pu pk kw ku kk k, wd, rfl, hev', hed, b6.obj, rfl, b6.hw, by simp, vcK, b6, hin, fr_wr so wo hety, fun H7 b7 k7 => ?_⟩
    rw [← so.rule y e hrule]
    have hpt : ∀ {q : Addr} {xs : List V}, H6 q = some (.lst xs) → q ∉ [Pt] := fun h hm => by
      obtain ⟨ps, ht, _⟩ := b6.tab
      rw [List.mem_singleton.mp hm, ht] at h
      cases h
    have hs7 := k7.at hs6 (hpt hs6)
    have kp7 := kp6.trans (k7.mono (by simp))
    have kn := b7.kn
    refine ⟨_, rfl, z, C, dx, _, _, rfl, b7.obj, cBeat, nk, rfl, _, rfl, pk, _, rfl, DPut.k (k := Sum.inr y) b7.hk (Nat.lt_of_le_of_lt (Nat.le_trans kn.len hkl) (by decide)), ?_⟩
    have kpk : Kp [pk] H7 (upd H7 pk (.dK (putK kk (Sum.inr y) (.int (V' y))))) := Kp.put b7.hk (by simp)
    have nz : z ∉ [pk] := fun h => by have := b7.obj; rw [List.mem_singleton.mp h, b7.hk] at this; cases this
    have npt : Pt ∉ [pk] := fun h => by obtain ⟨ps, ht, _⟩ := b7.tab; rw [List.mem_singleton.mp h, b7.hk] at ht; cases ht
    have npl : pl ≠ pk := fun h => by rw [h, b7.hk] at hs7; cases hs7
    refine ⟨_, _, _, s, y :: k, putK kk (Sum.inr y) (.int (V' y)), rfl, ?_, kp7.trans (kpk.mono (by simp)), by rw [upd_ne npl]; exact hs7, hrun⟩
    exact {
      obj := kpk.at b7.obj nz
      hw := kpk.at b7.hw (by simpa using npw)
      hu := kpk.at b7.hu (by simpa using npu)
      ex := fun p e r => let ⟨v, a, c⟩ := b7.ex p e r; ⟨v, a, c.keep kpk⟩
      hk := upd_same ..
      tab := tabS_kp b7.tab kpk npt fun c e hc => by rw [List.mem_singleton.mp hc, b7.hk] at e; cases e
      kn := {
        len := Nat.le_trans (length_putK ..) (Nat.succ_le_succ kn.len)
        mem := fun x => by
          rw [valV_put, List.mem_cons]
          by_cases h : x = y
          · rw [if_pos (congrArg Sum.inr h)]
            simp [h]
          · rw [if_neg (fun z => h (Sum.inr.inj z)), ← kn.mem x]
            simp [h]
        val := fun x u h => by
          rw [valV_put] at h
          by_cases hxy : x = y
          · rw [if_pos (congrArg Sum.inr hxy)] at h
            rw [hxy]
            exact (Option.some.inj h).symm
          · rw [if_neg (fun z => hxy (Sum.inr.inj z))] at h
            exact kn.val x u h
        ik := kn.ik.add hyk.1 hyk.2 } }
  · rw [show ((lack (nmOf Fl) k y).map V.str).isEmpty = false from by
      cases q : lack (nmOf Fl) k y with
      | nil => exact absurd q hnil
      | cons a b => rfl]
    refine iteF ⟨_, rfl, .inl ⟨rfl, _, SqL.of hs6⟩, _, rfl, (by show 1 ≤ sizeLine; decide), fun p1 hp1 => ?_⟩
    have k7 := Kp.new (l := []) (o := .lst [.str y]) hp1
    have b7 := b6.keep k7
    have kp7 := kp6.trans k7.up
    have hs7 : upd H6 p1 (.lst [.str y]) pl = _ := k7.at hs6 (by simp)
    have hl7 : upd H6 p1 (.lst [.str y]) DD = _ := k7.at hl6 (by simp)
    have hp7 : upd H6 p1 (.lst [.str y]) p1 = some (.lst [.str y]) := upd_same ..
    clear k7 hp1
    generalize upd H6 p1 (.lst [.str y]) = H7 at b7 kp7 hs7 hl7 hp7
    have hll : (lack (nmOf Fl) k y).length ≤ 27 := by rw [hla]; exact Nat.le_trans (List.length_filter_le _ _) hnl
    refine ⟨_, rfl, p1, DD, _, _, rfl, rfl, hp7, hl7, ?_, fun p2 hp2 => ?_⟩
    · rw [List.length_map]
      exact Nat.le_trans (show 1 + _ ≤ 28 by omega) (by decide)
    have k8 := Kp.new (l := []) (o := .lst ([.str y] ++ (lack (nmOf Fl) k y).map V.str)) hp2
    have b8 := b7.keep k8
    have kp8 := kp7.trans k8.up
    have hs8 : upd H7 p2 (.lst ([.str y] ++ (lack (nmOf Fl) k y).map V.str)) pl = _ := k8.at hs7 (by simp)
    have hp8 : upd H7 p2 (.lst ([.str y] ++ (lack (nmOf Fl) k y).map V.str)) p2 = some (.lst ([.str y] ++ (lack (nmOf Fl) k y).map V.str)) := upd_same ..
    clear k8 hp2
    generalize upd H7 p2 (.lst ([.str y] ++ (lack (nmOf Fl) k y).map V.str)) = H8 at b8 kp8 hs8 hp8
    refine ⟨pl, p2, _, _, rfl, rfl, hs8, hp8, ?_, ?_⟩
    · rw [List.length_map, List.length_append, List.length_map]
      exact Nat.le_trans (show s.length + ([V.str y].length + _) ≤ 20000 by show s.length + (1 + _) ≤ _; omega) (by decide)
    · refine ⟨_, _, _, s ++ y :: lack (nmOf Fl) k y, k, kk, rfl, b8.own hs8, kp8.fresh hpl, ?_, hrun⟩
      rw [upd_same, List.map_append]
      rfl
end
end WT

set_option Elab.async false
set_option linter.all false
set_option maxRecDepth 100000
set_option maxHeartbeats 4000000
/-! The waves, plainly. -/
namespace WT
open PySem PySem.Spec PyProof.Rows L2
abbrev InP : Type := Str × Nat × Str
abbrev BoxR : Type := Str × Nat × Str × Nat × Ex
def FRow.in? : FRow → Option InP
  | .inr p w c => some (p, w, c) | _ => none
def FRow.box? : FRow → Option BoxR
  | .box p w c k e => some (p, w, c, k, e) | _ => none
def FRow.out? : FRow → Option Str
  | .out p _ _ => some p | _ => none
def FRow.word : FRow → Str
  | .inr .. => "in" | .wire .. => "wire" | .out .. => "out" | .box .. => "box"
def insP (F : List FRow) : List InP := F.filterMap FRow.in?
def boxR (F : List FRow) : List BoxR := F.filterMap FRow.box?
def outsP (F : List FRow) : List Str := F.filterMap FRow.out?
def pathsW (F : List FRow) (x : Str) : List Str := (F.filter fun r => decide (r.word = x)).map FRow.path
theorem pathsW_in (F : List FRow) : pathsW F "in" = (insP F).map (·.1) := by
  unfold pathsW insP
  induction F with
  | nil => rfl
  | cons r F ih =>
    cases r with
    | inr p w c => rw [List.filter_cons_of_pos (by show (decide (("in" : Str) = "in") = true); decide), List.map_cons, ih]; rfl
    | wire p w e => rw [List.filter_cons_of_neg (by show ¬ (decide (("wire" : Str) = "in") = true); decide), ih]; rfl
    | out p w e => rw [List.filter_cons_of_neg (by show ¬ (decide (("out" : Str) = "in") = true); decide), ih]; rfl
    | box p w c k e => rw [List.filter_cons_of_neg (by show ¬ (decide (("box" : Str) = "in") = true); decide), ih]; rfl
theorem pathsW_box (F : List FRow) : pathsW F "box" = (boxR F).map (·.1) := by
  unfold pathsW boxR
  induction F with
  | nil => rfl
  | cons r F ih =>
    cases r with
    | inr p w c => rw [List.filter_cons_of_neg (by show ¬ (decide (("in" : Str) = "box") = true); decide), ih]; rfl
    | wire p w e => rw [List.filter_cons_of_neg (by show ¬ (decide (("wire" : Str) = "box") = true); decide), ih]; rfl
    | out p w e => rw [List.filter_cons_of_neg (by show ¬ (decide (("out" : Str) = "box") = true); decide), ih]; rfl
    | box p w c k e => rw [List.filter_cons_of_pos (by show (decide (("box" : Str) = "box") = true); decide), List.map_cons, ih]; rfl
theorem pathsW_out (F : List FRow) : pathsW F "out" = outsP F := by
  unfold pathsW outsP
  induction F with
  | nil => rfl
  | cons r F ih =>
    cases r with
    | inr p w c => rw [List.filter_cons_of_neg (by show ¬ (decide (("in" : Str) = "out") = true); decide), ih]; rfl
    | wire p w e => rw [List.filter_cons_of_neg (by show ¬ (decide (("wire" : Str) = "out") = true); decide), ih]; rfl
    | out p w e => rw [List.filter_cons_of_pos (by show (decide (("out" : Str) = "out") = true); decide), List.map_cons, ih]; rfl
    | box p w c k e => rw [List.filter_cons_of_neg (by show ¬ (decide (("box" : Str) = "out") = true); decide), ih]; rfl
theorem mem_insP {F : List FRow} {q : InP} : q ∈ insP F ↔ FRow.inr q.1 q.2.1 q.2.2 ∈ F := by
  unfold insP
  rw [List.mem_filterMap]
  constructor
  · rintro ⟨r, hr, e⟩
    cases r <;> cases e
    exact hr
  · intro h
    exact ⟨_, h, rfl⟩
theorem mem_boxR {F : List FRow} {q : BoxR} : q ∈ boxR F ↔ FRow.box q.1 q.2.1 q.2.2.1 q.2.2.2.1 q.2.2.2.2 ∈ F := by
  unfold boxR
  rw [List.mem_filterMap]
  constructor
  · rintro ⟨r, hr, e⟩
    cases r <;> cases e
    exact hr
  · intro h
    exact ⟨_, h, rfl⟩
theorem mem_outsP {F : List FRow} {x : Str} (h : x ∈ outsP F) : ∃ w e, FRow.out x w e ∈ F := by
  unfold outsP at h
  obtain ⟨r, hr, e⟩ := List.mem_filterMap.mp h
  cases r <;> cases e
  exact ⟨_, _, hr⟩
theorem mem_bpaths {F : List FRow} {x : Str} : x ∈ bpaths F ↔ x ∈ (insP F).map (·.1) ∨ x ∈ (boxR F).map (·.1) := by
  unfold bpaths
  rw [List.mem_map, List.mem_map, List.mem_map]
  constructor
  · rintro ⟨r, hr, rfl⟩
    obtain ⟨h1, h2⟩ := List.mem_filter.mp hr
    cases r with
    | inr p w c => exact .inl ⟨(p, w, c), mem_insP.mpr h1, rfl⟩
    | box p w c k e => exact .inr ⟨(p, w, c, k, e), mem_boxR.mpr h1, rfl⟩
    | wire => cases h2
    | out => cases h2
  · rintro (⟨q, hq, rfl⟩ | ⟨q, hq, rfl⟩)
    · exact ⟨_, List.mem_filter.mpr ⟨mem_insP.mp hq, rfl⟩, rfl⟩
    · exact ⟨_, List.mem_filter.mpr ⟨mem_boxR.mp hq, rfl⟩, rfl⟩
theorem mem_bu {F : List FRow} {x : Str} (h : x ∈ F.map FRow.path) : x ∈ bpaths F ∨ x ∈ upaths F := by
  obtain ⟨r, hr, rfl⟩ := List.mem_map.mp h
  unfold bpaths upaths
  cases hu : isU r with
  | true => exact .inr (List.mem_map.mpr ⟨r, List.mem_filter.mpr ⟨hr, hu⟩, rfl⟩)
  | false => exact .inl (List.mem_map.mpr ⟨r, List.mem_filter.mpr ⟨hr, by rw [hu]; rfl⟩, rfl⟩)
/-- what boxes and ins are -/
def bs0 (F : List FRow) (S I : List Int) : List (Str × Int) := ((insP F).map (·.1)).zip I ++ ((boxR F).map (·.1)).zip S
def look0 (l : List (Str × Int)) (x : Str) : Int := (l.lookup x).getD 0
def ruleOf (F : List FRow) (p : Str) : Option Ex := (F.find? (fun r => isU r && decide (r.path = p))).bind FRow.ex?
def solN (F : List FRow) (wd : Str → Nat) (S I : List Int) : Nat → Str → Int
  | 0, x => look0 (bs0 F S I) x
  | n + 1, x => match ruleOf F x with
    | some e => e.ev wd (solN F wd S I n)
    | none => look0 (bs0 F S I) x
def solV (F : List FRow) (wd : Str → Nat) (S I : List Int) : Str → Int := solN F wd S I 300
def InsOk (F : List FRow) (I : List Int) : Prop := I.length = (insP F).length ∧ ∀ q ∈ (insP F).zip I, Within q.2 q.1.2.1
def StOk (F : List FRow) (S : List Int) : Prop := S.length = (boxR F).length ∧ ∀ q ∈ (boxR F).zip S, Within q.2 q.1.2.1
def nextS (F : List FRow) (wd : Str → Nat) (V : Str → Int) (S : List Int) (cl : List Str) : List Int := ((boxR F).zip S).map fun q => if q.1.2.2.1 ∈ cl then q.1.2.2.2.2.ev wd V else q.2
def init0 (F : List FRow) : List Int := (boxR F).map fun q => (q.2.2.2.1 : Int)
abbrev Beats : Type := List (List Str × List Int)
def stands (F : List FRow) (wd : Str → Nat) : List Int → Beats → List (List Int × List Int)
  | _, [] => []
  | S, b :: bs => (S, b.2) :: stands F wd (nextS F wd (solV F wd S b.2) S b.1) bs
def Vs (F : List FRow) (wd : Str → Nat) (bs : Beats) : List (Str → Int) := (stands F wd (init0 F) bs).map fun q => solV F wd q.1 q.2
theorem look_zip {x : Str} {v : Int} : ∀ {l : List (Str × Int)}, (l.map (·.1)).Nodup → (x, v) ∈ l → look0 l x = v
  | q :: l, hn, h => by
    unfold look0
    rw [List.map_cons, List.nodup_cons] at hn
    obtain ⟨y, u⟩ := q
    rw [List.lookup_cons]
    rcases List.mem_cons.mp h with e | e
    · cases e
      simp
    · have : x ≠ y := fun z => hn.1 (by show y ∈ _; rw [← z]; exact List.mem_map_of_mem (f := fun q : Str × Int => q.1) e)
      rw [show (x == y) = false from by simpa using this]
      exact look_zip hn.2 e
theorem zip_fst {α β : Type} : ∀ {l : List α} {m : List β}, l.length = m.length → (l.zip m).map (·.1) = l
  | [], [], _ => rfl
  | a :: l, b :: m, h => congrArg (a :: ·) (zip_fst (by simpa using h))
  | [], _ :: _, h => by simp at h
  | _ :: _, [], h => by simp at h
section
variable {F : List FRow} {wd rk : Str → Nat} {S I : List Int}
theorem FlatOk.ru (h : FlatOk F wd rk) {p : Str} {e : Ex} (r : Rule F p e) : ruleOf F p = some e := by
  obtain ⟨r', hr, hu, hp, he⟩ : ∃ r ∈ F, isU r = true ∧ r.path = p ∧ r.ex? = some e := by
    obtain ⟨w, q | q⟩ := r
    · exact ⟨_, q, rfl, rfl, rfl⟩
    · exact ⟨_, q, rfl, rfl, rfl⟩
  unfold ruleOf
  cases hf : F.find? (fun r => isU r && decide (r.path = p)) with
  | none =>
    have := List.find?_eq_none.mp hf r' hr
    simp [hu, hp] at this
  | some s =>
    have h1 := List.mem_of_find?_eq_some hf
    have h2 := List.find?_some hf
    have h3 := (Bool.and_eq_true_iff.mp h2).2
    have : s = r' := nodup_eq h.nd h1 hr ((of_decide_eq_true h3).trans hp.symm)
    subst this
    exact he
theorem FlatOk.bno (h : FlatOk F wd rk) {p : Str} (hp : p ∈ bpaths F) : ruleOf F p = none := by
  unfold ruleOf
  cases hf : F.find? (fun r => isU r && decide (r.path = p)) with
  | none => rfl
  | some s =>
    have h1 := List.mem_of_find?_eq_some hf
    have h2' := List.find?_some hf
    have h2 := Bool.and_eq_true_iff.mp h2'
    obtain ⟨r, hr, e⟩ := List.mem_map.mp hp
    obtain ⟨h4, h5⟩ := List.mem_filter.mp hr
    have : s = r := nodup_eq h.nd h1 h4 ((of_decide_eq_true h2.2).trans e.symm)
    subst this
    rw [h2.1] at h5
    cases h5
theorem FlatOk.bnu (h : FlatOk F wd rk) {p : Str} (hp : p ∈ bpaths F) (hu : p ∈ upaths F) : False := by
  obtain ⟨e, he⟩ := mem_upaths.mp hu
  have := h.ru he
  rw [h.bno hp] at this
  cases this
theorem FlatOk.base (h : FlatOk F wd rk) {p : Str} (hp : p ∈ bpaths F) : ∀ n, solN F wd S I n p = look0 (bs0 F S I) p
  | 0 => rfl
  | n + 1 => by
    show (match ruleOf F p with | some e => e.ev wd (solN F wd S I n) | none => look0 (bs0 F S I) p) = _
    rw [h.bno hp]
theorem FlatOk.step (h : FlatOk F wd rk) {p : Str} {e : Ex} (r : Rule F p e) (n : Nat) : solN F wd S I (n + 1) p = e.ev wd (solN F wd S I n) := by
  show (match ruleOf F p with | some e => e.ev wd (solN F wd S I n) | none => look0 (bs0 F S I) p) = _
  rw [h.ru r]
theorem FlatOk.stable (h : FlatOk F wd rk) : ∀ (n : Nat) (p : Str), p ∈ upaths F → rk p < n → ∀ m, n ≤ m → solN F wd S I m p = solN F wd S I n p := by
  intro n
  induction n with
  | zero => intro p _ h; omega
  | succ n ih =>
    intro p hp hr m hm
    obtain ⟨m, rfl⟩ : ∃ k, m = k + 1 := ⟨m - 1, by omega⟩
    obtain ⟨e, he⟩ := mem_upaths.mp hp
    rw [h.step he, h.step he]
    refine ev_congr fun x hx => ?_
    rcases (h.rule p e he).2.1 x hx with ⟨q1, q2⟩ | q
    · exact ih x q1 (by omega) m (by omega)
    · rw [h.base q, h.base q]
theorem bs0_keys (hS : StOk F S) (hI : InsOk F I) : (bs0 F S I).map (·.1) = (insP F).map (·.1) ++ (boxR F).map (·.1) := by
  unfold bs0
  rw [List.map_append, zip_fst (by rw [List.length_map]; exact hI.1.symm), zip_fst (by rw [List.length_map]; exact hS.1.symm)]
theorem fm_nodup {α : Type} (f : FRow → Option α) (g : α → Str) (hf : ∀ r a, f r = some a → g a = r.path) : ∀ {F : List FRow}, (F.map FRow.path).Nodup → ((F.filterMap f).map g).Nodup
  | [], _ => List.nodup_nil
  | r :: F, hn => by
    rw [List.map_cons, List.nodup_cons] at hn
    have ih := fm_nodup f g hf hn.2
    rw [List.filterMap_cons]
    cases e : f r with
    | none => exact ih
    | some a =>
      rw [List.map_cons, List.nodup_cons]
      refine ⟨fun z => hn.1 ?_, ih⟩
      obtain ⟨b, hb, e2⟩ := List.mem_map.mp z
      obtain ⟨r', hr', e3⟩ := List.mem_filterMap.mp hb
      rw [← hf r a e, ← e2, hf r' b e3]
      exact List.mem_map_of_mem hr'
theorem FlatOk.keys (h : FlatOk F wd rk) : ((insP F).map (·.1) ++ (boxR F).map (·.1)).Nodup := by
  refine List.nodup_append.mpr ⟨fm_nodup FRow.in? (·.1) (fun r a e => by cases r <;> cases e; rfl) h.nd, fm_nodup FRow.box? (·.1) (fun r a e => by cases r <;> cases e; rfl) h.nd, fun x hx y hy e => ?_⟩
  subst e
  obtain ⟨q, hq, rfl⟩ := List.mem_map.mp hx
  obtain ⟨s, hs, e⟩ := List.mem_map.mp hy
  have := nodup_eq h.nd (mem_insP.mp hq) (mem_boxR.mp hs) e.symm
  cases this
theorem look_in (h : FlatOk F wd rk) (hS : StOk F S) (hI : InsOk F I) {q : InP} {v : Int} (hq : (q, v) ∈ (insP F).zip I) : look0 (bs0 F S I) q.1 = v := by
  refine look_zip (by rw [bs0_keys hS hI]; exact h.keys) (List.mem_append_left _ ?_)
  rw [List.zip_map_left]
  exact List.mem_map.mpr ⟨_, hq, rfl⟩
theorem look_box (h : FlatOk F wd rk) (hS : StOk F S) (hI : InsOk F I) {q : BoxR} {v : Int} (hq : (q, v) ∈ (boxR F).zip S) : look0 (bs0 F S I) q.1 = v := by
  refine look_zip (by rw [bs0_keys hS hI]; exact h.keys) (List.mem_append_right _ ?_)
  rw [List.zip_map_left]
  exact List.mem_map.mpr ⟨_, hq, rfl⟩
theorem zip_get {α β : Type} : ∀ {l : List α} {m : List β} {a : α}, l.length = m.length → a ∈ l → ∃ b, (a, b) ∈ l.zip m
  | x :: l, y :: m, a, h, ha => by
    rcases List.mem_cons.mp ha with e | e
    · subst e; exact ⟨y, List.mem_cons_self⟩
    · obtain ⟨b, hb⟩ := zip_get (m := m) (by simpa using h) e
      exact ⟨b, List.mem_cons_of_mem _ hb⟩
  | [], _, _, _, ha => by simp at ha
  | _ :: _, [], _, h, _ => by simp at h
theorem base_bd (h : FlatOk F wd rk) (hS : StOk F S) (hI : InsOk F I) {p : Str} (hp : p ∈ bpaths F) : Within (look0 (bs0 F S I) p) (wd p) := by
  rcases mem_bpaths.mp hp with z | z
  · obtain ⟨q, hq, rfl⟩ := List.mem_map.mp z
    obtain ⟨v, hv⟩ := zip_get hI.1.symm hq
    rw [look_in h hS hI hv, show wd q.1 = q.2.1 from (h.wdr _ (mem_insP.mp hq)).1]
    exact hI.2 _ hv
  · obtain ⟨q, hq, rfl⟩ := List.mem_map.mp z
    obtain ⟨v, hv⟩ := zip_get hS.1.symm hq
    rw [look_box h hS hI hv, show wd q.1 = q.2.1 from (h.wdr _ (mem_boxR.mp hq)).1]
    exact hS.2 _ hv
theorem sol_bd (h : FlatOk F wd rk) (hS : StOk F S) (hI : InsOk F I) : ∀ (n : Nat) (p : Str), p ∈ upaths F → rk p < n → Within (solN F wd S I n p) (wd p) := by
  intro n
  induction n with
  | zero => intro p _ h; omega
  | succ n ih =>
    intro p hp hr
    obtain ⟨e, he⟩ := mem_upaths.mp hp
    obtain ⟨_, h2, h3⟩ := h.rule p e he
    rw [h.step he]
    have t : Ty (fun x u => wd x = u ∧ Within (solN F wd S I n x) u) e (wd p) := h3.imp fun x hx u hu => by
      refine ⟨hu.2, ?_⟩
      rw [← hu.2]
      rcases h2 x hx with ⟨q1, q2⟩ | q
      · exact ih x q1 (by omega)
      · rw [h.base q]; exact base_bd h hS hI q
    exact ev_bd (fun x u q => q.1) (fun x u q => q.2) t
theorem sol_ok (h : FlatOk F wd rk) (hS : StOk F S) (hI : InsOk F I) : Sol F wd (solV F wd S I) where
  rule := fun p e r => by
    show solN F wd S I (299 + 1) p = _
    rw [h.step r]
    refine ev_congr fun x hx => ?_
    rcases (h.rule p e r).2.1 x hx with ⟨q1, q2⟩ | q
    · have := h.rkb p (mem_upaths.mpr ⟨e, r⟩)
      exact (h.stable 299 x q1 (by omega) 300 (by omega)).symm
    · show _ = solN F wd S I 300 x
      rw [h.base q, h.base q]
  bd := fun r hr => by
    have hm : r.path ∈ F.map FRow.path := List.mem_map_of_mem hr
    rcases mem_bu hm with q | q
    · show Within (solN F wd S I 300 r.path) _
      rw [h.base q]
      exact base_bd h hS hI q
    · exact sol_bd h hS hI 300 _ q (h.rkb _ q)
theorem solV_in (h : FlatOk F wd rk) (hS : StOk F S) (hI : InsOk F I) {q : InP} {v : Int} (hq : (q, v) ∈ (insP F).zip I) : solV F wd S I q.1 = v := by
  show solN F wd S I 300 _ = _
  rw [h.base (mem_bpaths.mpr (.inl (List.mem_map_of_mem (f := fun q : InP => q.1) (List.of_mem_zip hq).1))), look_in h hS hI hq]
theorem solV_box (h : FlatOk F wd rk) (hS : StOk F S) (hI : InsOk F I) {q : BoxR} {v : Int} (hq : (q, v) ∈ (boxR F).zip S) : solV F wd S I q.1 = v := by
  show solN F wd S I 300 _ = _
  rw [h.base (mem_bpaths.mpr (.inr (List.mem_map_of_mem (f := fun q : BoxR => q.1) (List.of_mem_zip hq).1))), look_box h hS hI hq]
theorem st_next {V : Str → Int} {cl : List Str} (h : FlatOk F wd rk) (hV : Sol F wd V) (hS : StOk F S) : StOk F (nextS F wd V S cl) := by
  unfold nextS
  refine ⟨by rw [List.length_map, List.length_zip, hS.1, Nat.min_self], ?_⟩
  have key : ∀ (l : List BoxR) (S : List Int), (∀ q ∈ l.zip S, Within q.2 q.1.2.1) → (∀ q ∈ l, q ∈ boxR F) → ∀ q ∈ l.zip ((l.zip S).map fun q => if q.1.2.2.1 ∈ cl then q.1.2.2.2.2.ev wd V else q.2), Within q.2 q.1.2.1 := by
    intro l
    induction l with
    | nil => intro S _ _ q hq; simp at hq
    | cons b l ih =>
      intro S hs hl q hq
      cases S with
      | nil => simp at hq
      | cons s S =>
        rw [List.zip_cons_cons, List.map_cons, List.zip_cons_cons] at hq
        rcases List.mem_cons.mp hq with e | e
        · subst e
          show Within (if b.2.2.1 ∈ cl then b.2.2.2.2.ev wd V else s) b.2.1
          by_cases hc : b.2.2.1 ∈ cl
          · rw [if_pos hc]
            obtain ⟨h1, h2, h3⟩ := h.box _ _ _ _ _ (mem_boxR.mp (hl b List.mem_cons_self))
            have t : Ty (fun x u => wd x = u ∧ Within (V x) u) b.2.2.2.2 b.2.1 := h2.imp fun x hx u hu => by
              refine ⟨hu.2, ?_⟩
              obtain ⟨r, hr, e⟩ := List.mem_map.mp hu.1
              rw [← hu.2, ← e]
              exact hV.bd r hr
            exact ev_bd (fun x u q => q.1) (fun x u q => q.2) t
          · rw [if_neg hc]
            exact hs (b, s) List.mem_cons_self
        · exact ih S (fun q hq => hs q (List.mem_cons_of_mem _ hq)) (fun q hq => hl q (List.mem_cons_of_mem _ hq)) q e
  exact key _ S hS.2 fun _ h => h
theorem st_init (h : FlatOk F wd rk) : StOk F (init0 F) := by
  unfold init0
  refine ⟨by rw [List.length_map], fun q hq => ?_⟩
  have key : ∀ (l : List BoxR) (q : BoxR × Int), q ∈ l.zip (l.map fun q => (q.2.2.2.1 : Int)) → q.2 = (q.1.2.2.2.1 : Int) ∧ q.1 ∈ l := by
    intro l
    induction l with
    | nil => intro q hq; simp at hq
    | cons b l ih =>
      intro q hq
      rw [List.map_cons, List.zip_cons_cons] at hq
      rcases List.mem_cons.mp hq with e | e
      · subst e; exact ⟨rfl, List.mem_cons_self⟩
      · exact ⟨(ih q e).1, List.mem_cons_of_mem _ (ih q e).2⟩
  obtain ⟨h1, h2⟩ := key _ q hq
  obtain ⟨_, _, h3⟩ := h.box _ _ _ _ _ (mem_boxR.mp h2)
  rw [h1]
  exact within_of h3
end
end WT

set_option Elab.async false
set_option linter.all false
set_option maxRecDepth 100000
set_option maxHeartbeats 8000000
/-! Beat.worth in full; the making of a beat. -/
namespace WT
open PySem PySem.Spec PyProof.Rows L2
section
variable {C Pt : Addr} {F : List FRow} {wd rk : Str → Nat} {V' : Str → Int} {z dx pw pu pk : Addr} {kw ku : List (Key × V)}
theorem vcF (fo : FlatOk F wd rk) (so : Sol F wd V') (wo : WdOk F wd kw) (h1 : pw ≠ pk) (h2 : pu ≠ pk) : VC C Pt qlB (spVal C Pt) z [Pt, pk] (fun x => x ∈ bpaths F ∨ x ∈ upaths F) V' (fun H => ∃ kk k, BeatSt C Pt qlB F V' z dx pw pu pk kw ku kk k H) where
  keeps := fun l H0 H H' j0 j h0 h1 kp => let ⟨_, _, b0⟩ := j0; let ⟨kk, k, b⟩ := j; ⟨kk, k, b0.keeps b h0 h1 kp⟩
  live := fun H ⟨kk, k, b⟩ x hx => by
    simp at hx
    rcases hx with e | e <;> subst e
    · obtain ⟨ps, ht, _⟩ := b.tab
      exact ⟨_, ht, fun x e => by cases e⟩
    · exact ⟨_, b.hk, fun x e => by cases e⟩
  obj := fun H ⟨_, _, j⟩ => ⟨dx, _, j.obj, rfl⟩
  tab := fun H ⟨_, _, j⟩ => j.tab
  retab := fun H H3 ⟨_, _, j⟩ kp t => ⟨_, _, j.retab kp t⟩
  hide := fun H c x ⟨_, _, j⟩ hc hn => ⟨_, _, j.hide hc hn⟩
  call := fun H x ⟨kk, k, j⟩ hx Q E hQ => ⟨F, wd, rk, V', z, dx, pw, pu, pk, kw, ku, kk, k, x, rfl, fo, so, wo, hx, h1, h2, j, fun H' kk' k' b kp => hQ H' ⟨kk', k', b⟩ kp⟩
end
abbrev Flat (H : Hp) (p : Addr) (F : List FRow) : Prop := ∃ vs, H p = some (.tup vs) ∧ AllV (IsFRow H) vs F
theorem Flat.keep {l : List Addr} {H H' : Hp} {p : Addr} {F : List FRow} (h : Flat H p F) (k : Kp l H H') : Flat H' p F := let ⟨vs, a, b⟩ := h; ⟨vs, k.tup a, b.imp fun _ _ z => z.keep k⟩
theorem frow_head {H : Hp} {v : V} {r : FRow} (h : IsFRow H v r) : ∃ a rest, v = .ref a ∧ H a = some (.tup (.str r.word :: .str r.path :: .int (r.width : Int) :: rest)) := by
  cases r with
  | inr p w c => obtain ⟨a, h1, h2⟩ := h; exact ⟨a, _, h1, h2⟩
  | wire p w e => obtain ⟨a, u, h1, h2, _⟩ := h; exact ⟨a, _, h1, h2⟩
  | out p w e => obtain ⟨a, u, h1, h2, _⟩ := h; exact ⟨a, _, h1, h2⟩
  | box p w c k e => obtain ⟨a, u, h1, h2, _⟩ := h; exact ⟨a, _, h1, h2⟩
theorem take_snoc {α : Type} {l : List α} {i : Nat} {a : α} (h : l[i]? = some a) : l.take (i + 1) = l.take i ++ [a] := by rw [List.take_succ, h]; rfl
theorem pathsW_snoc (l : List FRow) (r : FRow) (x : Str) : pathsW (l ++ [r]) x = pathsW l x ++ (if r.word = x then [r.path] else []) := by
  unfold pathsW
  rw [List.filter_append, List.map_append]
  by_cases h : r.word = x
  · rw [if_pos h]; simp [h]
  · rw [if_neg h]; simp [h]
theorem pathsW_len (F : List FRow) (x : Str) : (pathsW F x).length ≤ F.length := by
  unfold pathsW
  rw [List.length_map]
  exact List.length_filter_le ..
abbrev s_paths_of : Stmt := topS 9
abbrev N_paths_of : List Str := ["flat", "word", "row"]
abbrev P_paths_of : List Str := ["flat", "word"]
theorem sc_paths_of : FnScope N_paths_of P_paths_of (defScope s_paths_of) := ⟨rfl, rfl, rfl, by decide +kernel, rfl, by decide +kernel, by decide +kernel⟩
abbrev s_first_standing : Stmt := topS 10
abbrev N_first_standing : List Str := ["flat", "row"]
abbrev P_first_standing : List Str := ["flat"]
theorem sc_first_standing : FnScope N_first_standing P_first_standing (defScope s_first_standing) := ⟨rfl, rfl, rfl, by decide +kernel, rfl, by decide +kernel, by decide +kernel⟩
abbrev s_beat___init__ : Stmt := inClass (topS 8) 0
abbrev N_beat___init__ : List Str := ["self", "flat", "standing", "ins", "row"]
abbrev P_beat___init__ : List Str := ["self", "flat", "standing", "ins"]
theorem sc_beat___init__ : FnScope N_beat___init__ P_beat___init__ (defScope s_beat___init__) := ⟨rfl, rfl, rfl, by decide +kernel, rfl, by decide +kernel, by decide +kernel⟩
def spPathsOf : Sp := fun vs H Q _ => ∃ (pf : Addr) (x : Str) (F : List FRow), vs = [.ref pf, .str x] ∧ Flat H pf F ∧ F.length ≤ 1000 ∧ ∀ p H', H' p = some (.lst ((pathsW F x).map V.str)) → H p = none → Kp [] H H' → Q (.ref p) H'
def spFirst : Sp := fun vs H Q _ => ∃ (pf : Addr) (F : List FRow), vs = [.ref pf] ∧ Flat H pf F ∧ F.length ≤ 1000 ∧ ∀ p H', H' p = some (.tup ((init0 F).map V.int)) → Kp [] H H' → Q (.ref p) H'
theorem init0_snoc (l : List FRow) (r : FRow) : init0 (l ++ [r]) = init0 l ++ (match r with | .box _ _ _ k _ => [(k : Int)] | _ => []) := by
  unfold init0 boxR
  rw [List.filterMap_append, List.map_append]
  cases r <;> rfl
theorem valV_mem {q : Key × V} : ∀ {l : List (Key × V)}, (l.map (·.1)).Nodup → q ∈ l → valV l q.1 = some q.2
  | x :: l, hn, h => by
    unfold valV
    rw [List.map_cons, List.nodup_cons] at hn
    rw [List.find?_cons]
    rcases List.mem_cons.mp h with e | e
    · subst e; simp
    · have : x.1 ≠ q.1 := fun z => hn.1 (by rw [z]; exact List.mem_map_of_mem (f := fun q : Key × V => q.1) e)
      rw [show decide (x.1 = q.1) = false from decide_eq_false this]
      exact valV_mem hn.2 e
abbrev convI (q : Str × Int) : Key × V := (Sum.inr q.1, V.int q.2)
theorem valV_convI {x : Str} : ∀ {l : List (Str × Int)}, valV (l.map convI) (Sum.inr x) = (l.lookup x).map V.int
  | [] => rfl
  | q :: l => by
    unfold valV
    rw [List.map_cons, List.find?_cons, List.lookup_cons]
    by_cases e : q.1 = x
    · rw [show decide ((convI q).1 = Sum.inr x) = true from decide_eq_true (congrArg Sum.inr e), show (x == q.1) = true from by simp [e]]
      rfl
    · rw [show decide ((convI q).1 = Sum.inr x) = false from decide_eq_false (fun z => e (Sum.inr.inj z)), show (x == q.1) = false from by simpa using Ne.symm e]
      exact valV_convI
theorem zl_pairs {K : PySem.W.Frag} {H H' : Hp} {S : Addr} {kvs : List (Key × V)} (z : ZL H H' S (kvs.map fun kv => (kV kv.1, kv.2))) : ∃ refs : List Addr, H' S = some (.lst (refs.map V.ref)) ∧ Paired (fun p (kv : Key × V) => SqT K H' p [kV kv.1, kv.2]) refs kvs ∧ Kp [] H H' := by
  obtain ⟨refs, hrl, hS, hS0, same, hp⟩ := z
  rw [List.length_map] at hrl
  refine ⟨refs, hS, ?_, Same.kp [] same⟩
  have key : ∀ (l : List (Key × V)) (r : List Addr) (n : Nat), r = refs.drop n → l = kvs.drop n → Paired (fun p (kv : Key × V) => SqT K H' p [kV kv.1, kv.2]) r l := by
    intro l
    induction l with
    | nil =>
      intro r n hr hl
      have : r = [] := by
        rw [hr, List.drop_eq_nil_iff]
        have := List.drop_eq_nil_iff.mp hl.symm
        omega
      subst this
      exact .nil
    | cons x l ih =>
      intro r n hr hl
      have hx : kvs[n]? = some x := by
        have := congrArg (fun l : List (Key × V) => l[0]?) hl
        simpa using this.symm
      have hn : n < refs.length := by
        have := (List.getElem?_eq_some_iff.mp hx).1
        omega
      have hrn : r = refs[n] :: refs.drop (n + 1) := by rw [hr]; exact List.drop_eq_getElem_cons hn
      rw [hrn]
      refine .cons ?_ (ih _ (n + 1) rfl ?_)
      · obtain ⟨_, _, h3⟩ := hp n refs[n] (kV x.1, x.2) (List.getElem?_eq_getElem hn) (by rw [List.getElem?_map, hx]; rfl)
        exact SqT.of h3
      · have := congrArg (fun l : List (Key × V) => l.drop 1) hl
        simpa [List.drop_drop, Nat.add_comm] using this
  exact key _ refs 0 rfl rfl
theorem zip_conv (ks : List Str) (is : List Int) : ((ks.map V.str).zip (is.map V.int)) = ((ks.zip is).map convI).map fun kv => (kV kv.1, kv.2) := by
  rw [List.zip_map, List.map_map]
  rfl
theorem nodup_convI {l : List (Str × Int)} (h : (l.map (·.1)).Nodup) : ((l.map convI).map (·.1)).Nodup := by
  rw [List.map_map, show ((fun x : Key × V => x.1) ∘ convI) = (Sum.inr : Str → Key) ∘ (fun q : Str × Int => q.1) from rfl, ← List.map_map]
  exact nodup_inr h
section
variable {P : Program} {w : World} {K : PySem.W.Frag} {mg : Str → Option Value} {base : Heap} {C Pt c : Addr}
theorem cal_bworthF (Sw : StdMC K C c "worth" "Beat.worth" s_beat_worth) (TB : LamX.TabB base mg c Pt) (cval : CalM P w K mg base C "value" 7 P_beat_value (spVal C Pt)) (S : Std K mg "worth_of" s_worth_of) (T : Frees mg) (cw : ∀ j, Cal P w K mg base "width_of" j P_width_of (spWidth j)) (ct : Cal P w K mg base "two_told" 1 P_two_told spTwo)
    (cBeat : Cls K C) (nw : NoAttr K C "widths") : CalM P w K mg base C "worth" 12 P_beat_worth (spBW C Pt (spVal C Pt)) := cal_bworth Sw TB cval S T cw ct cBeat nw
theorem cal_paths_of (S : Std K mg "paths_of" s_paths_of) (T : Frees mg) : Cal P w K mg base "paths_of" 1 P_paths_of spPathsOf := by
  obtain ⟨f, fd, F, m⟩ := S
  refine ⟨f, fd, ?_, m, F.kp, F.bindsN fun _ _ _ _ _ _ us hl => match us, hl with | [_, _], _ => rfl⟩
  have sc := sc_paths_of
  refine F.ok sc (fun vs H Q E h => by obtain ⟨_, _, _, rfl, _⟩ := h; rfl) fun cdv A outer s H vs Q E hr h => ⟨_, PSs.nox (pss_one (ps_ret (pe_lc (own := [("row", 2)]) rfl sc.nd (PI.toK (t' := iTup K _) (pi_tup (pv 0))) (blkOk_by (N := N_paths_of) (sc := defScope s_paths_of) (by decide +kernel)) (fun _ _ _ _ _ => (pg_name (i := 2) sc.nd rfl (Or.inl rfl))) (fun _ _ _ _ _ => pts_one (pt_cmpR op_eq (pe_ix (ixt K) (pv 2) pe_int (fun _ _ => rfl)) (pv 1) (nomark _))) (fun _ _ _ _ _ => (pe_ix (ixt K) (pv 2) pe_int (fun _ _ => rfl)))))), ?_⟩
  obtain ⟨pf, x, Fl, rfl, ⟨vf, hpf, avf⟩, hl, hQ⟩ := h
  refine ⟨_, rfl, pf, rfl, ⟨_, SqT.of hpf⟩, fun D hD => ?_⟩
  refine lc_tup (xs := vf) (fun i H' => H' D = some (.lst ((pathsW (Fl.take i) x).map V.str)) ∧ Kp [] H H') ⟨upd_same .., Kp.new hD⟩ (fun i H' _ ⟨_, k⟩ => SqT.of (k.at hpf (by simp))) ?_ ?_
  · rintro i v H' hv ⟨h1, k⟩
    obtain ⟨r, hr0, hrow⟩ := avf.get hv
    obtain ⟨a, rest, rfl, ha⟩ := frow_head (hrow.keep k)
    refine ⟨rfl, _, rfl, a, _, _, .str r.word, rfl, rfl, SqT.of ha, atI_nat (j := 0) rfl, _, rfl, rfl, _, rfl, ?_⟩
    have hi : i < 1000 := by
      have := (List.getElem?_eq_some_iff.mp hr0).1
      omega
    rw [take_snoc hr0, pathsW_snoc]
    by_cases hw : r.word = x
    · rw [show decide (V.str r.word = V.str x) = true from decide_eq_true (by rw [hw]), if_pos hw]
      refine iteT ⟨_, rfl, a, _, _, .str r.path, rfl, rfl, SqT.of ha, atI_nat (j := 1) rfl, _, h1, ?_, ?_, k.fresh hD⟩
      · rw [List.length_map]
        have := pathsW_len (Fl.take i) x
        rw [List.length_take] at this
        exact Nat.lt_of_le_of_lt (show _ ≤ 1000 by omega) (by decide)
      · rw [upd_same, List.map_append]
        rfl
    · rw [show decide (V.str r.word = V.str x) = false from decide_eq_false (fun z => hw (V.str.inj z)), if_neg hw]
      exact iteF ⟨by simpa using h1, k⟩
  · rintro H' ⟨h1, k⟩
    rw [avf.length, List.take_length] at h1
    exact hQ D H' h1 hD k
theorem cal_first (S : Std K mg "first_standing" s_first_standing) (T : Frees mg) : Cal P w K mg base "first_standing" 1 P_first_standing spFirst := by
  obtain ⟨f, fd, F, m⟩ := S
  refine ⟨f, fd, ?_, m, F.kp, F.bindsN fun _ _ _ _ _ _ us hl => match us, hl with | [_], _ => rfl⟩
  have sc := sc_first_standing
  refine F.ok sc (fun vs H Q E h => by obtain ⟨_, _, rfl, _⟩ := h; rfl) fun cdv A outer s H vs Q E hr h => ⟨_, PSs.nox (pss_one (ps_ret (pe_callTy (cTup K) rfl T.tuple (by decide +kernel) (pa_cons (pe_lc (own := [("row", 1)]) rfl sc.nd (PI.toK (t' := iTup K _) (pi_tup (pv 0))) (blkOk_by (N := N_first_standing) (sc := defScope s_first_standing) (by decide +kernel)) (fun _ _ _ _ _ => (pg_name (i := 1) sc.nd rfl (Or.inl rfl))) (fun _ _ _ _ _ => pts_one (pt_cmpR op_eq (pe_ix (ixt K) (pv 1) pe_int (fun _ _ => rfl)) pe_str (nomark _))) (fun _ _ _ _ _ => (pe_ix (ixt K) (pv 1) pe_int (fun _ _ => rfl)))) pa_nil)))), ?_⟩
  obtain ⟨pf, Fl, rfl, ⟨vf, hpf, avf⟩, hl, hQ⟩ := h
  refine ⟨_, rfl, pf, rfl, ⟨_, SqT.of hpf⟩, fun D hD => ?_⟩
  refine lc_tup (xs := vf) (fun i H' => H' D = some (.lst ((init0 (Fl.take i)).map V.int)) ∧ Kp [] H H') ⟨upd_same .., Kp.new hD⟩ (fun i H' _ ⟨_, k⟩ => SqT.of (k.at hpf (by simp))) ?_ ?_
  · rintro i v H' hv ⟨h1, k⟩
    obtain ⟨r, hr0, hrow⟩ := avf.get hv
    have hrow := hrow.keep k
    have hi : i < 1000 := by
      have := (List.getElem?_eq_some_iff.mp hr0).1
      omega
    have hlen : ((init0 (Fl.take i)).map V.int).length < sizeLine := by
      rw [List.length_map]
      unfold init0 boxR
      rw [List.length_map]
      have := List.length_filterMap_le FRow.box? (Fl.take i)
      rw [List.length_take] at this
      exact Nat.lt_of_le_of_lt (show _ ≤ 1000 by omega) (by decide)
    rw [take_snoc hr0, init0_snoc]
    cases r with
    | box p w c k e =>
      obtain ⟨a, u, rfl, ha, _⟩ := hrow
      refine ⟨rfl, _, rfl, a, _, _, .str "box", rfl, rfl, SqT.of ha, atI_nat (j := 0) rfl, rfl, _, rfl, iteT ⟨_, rfl, a, _, _, .int (k : Int), rfl, rfl, SqT.of ha, atI_nat (j := 4) rfl, _, h1, hlen, ?_, by exact Kp.fresh (by assumption) hD⟩⟩
      rw [upd_same, List.map_append]
      rfl
    | inr p w c =>
      obtain ⟨a, rfl, ha⟩ := hrow
      exact ⟨rfl, _, rfl, a, _, _, .str "in", rfl, rfl, SqT.of ha, atI_nat (j := 0) rfl, rfl, _, rfl, iteF ⟨by simpa using h1, k⟩⟩
    | wire p w e =>
      obtain ⟨a, u, rfl, ha, _⟩ := hrow
      exact ⟨rfl, _, rfl, a, _, _, .str "wire", rfl, rfl, SqT.of ha, atI_nat (j := 0) rfl, rfl, _, rfl, iteF ⟨by simpa using h1, k⟩⟩
    | out p w e =>
      obtain ⟨a, u, rfl, ha, _⟩ := hrow
      exact ⟨rfl, _, rfl, a, _, _, .str "out", rfl, rfl, SqT.of ha, atI_nat (j := 0) rfl, rfl, _, rfl, iteF ⟨by simpa using h1, k⟩⟩
  · rintro H' ⟨h1, k⟩
    rw [avf.length, List.take_length] at h1
    exact ⟨D, _, rfl, .inl ⟨SqL.of h1, fun t ht => hQ t _ (upd_same ..) (k.step ht)⟩⟩
end
end WT

set_option Elab.async false
set_option linter.all false
set_option maxRecDepth 100000
set_option maxHeartbeats 8000000
/-! A beat is made. -/
namespace WT
open PySem PySem.Spec PyProof.Rows L2
/-- the state of a beat, sparing names -/
structure B4 where
  z : Addr
  pw : Addr
  pu : Addr
  pk : Addr
def BtS (C Pt : Addr) (F : List FRow) (wd : Str → Nat) (V' : Str → Int) (b : B4) (H : Hp) : Prop := ∃ (dx : Addr) (kw ku kk : List (Key × V)) (k : List Str), BeatSt C Pt qlB F V' b.z dx b.pw b.pu b.pk kw ku kk k H ∧ WdOk F wd kw ∧ b.pw ≠ b.pk ∧ b.pu ≠ b.pk
def spInit (C Pt : Addr) : Sp := fun vs H Q _ => ∃ (x dx pf ps pi : Addr) (F : List FRow) (wd rk : Str → Nat) (S I : List Int), vs = [.ref x, .ref pf, .ref ps, .ref pi] ∧ H x = some (.ins C dx []) ∧ Flat H pf F ∧ FlatOk F wd rk ∧ StOk F S ∧ InsOk F I ∧
  H ps = some (.tup (S.map V.int)) ∧ H pi = some (.tup (I.map V.int)) ∧ LamX.TabS H Pt qlB ∧
  ∀ (b : B4) H', b.z = x → H b.pw = none → H b.pu = none → H b.pk = none → Kp [x] H H' → BtS C Pt F wd (solV F wd S I) b H' → Q .non H'
theorem rule_snoc {F : List FRow} {i : Nat} {r : FRow} (h : F[i]? = some r) {p : Str} {e : Ex} (hr : Rule (F.take (i + 1)) p e) : Rule (F.take i) p e ∨ (r.path = p ∧ r.ex? = some e) := by
  obtain ⟨w, h1⟩ := hr
  rw [take_snoc h] at h1
  rcases h1 with h1 | h1 <;> rcases List.mem_append.mp h1 with q | q
  · exact .inl ⟨w, .inl q⟩
  · rw [List.mem_singleton] at q; subst q; exact .inr ⟨rfl, rfl⟩
  · exact .inl ⟨w, .inr q⟩
  · rw [List.mem_singleton] at q; subst q; exact .inr ⟨rfl, rfl⟩
theorem rule_path {F : List FRow} {p : Str} {e : Ex} (h : Rule F p e) : p ∈ F.map FRow.path := by
  obtain ⟨w, h | h⟩ := h
  · exact List.mem_map.mpr ⟨_, h, rfl⟩
  · exact List.mem_map.mpr ⟨_, h, rfl⟩
theorem nodup_take {F : List FRow} (nd : (F.map FRow.path).Nodup) {i : Nat} {r : FRow} (h : F[i]? = some r) : r.path ∉ (F.take i).map FRow.path := by
  have hi := (List.getElem?_eq_some_iff.mp h).1
  rw [← List.take_append_drop i F, List.map_append] at nd
  have h3 := (List.nodup_append.mp nd).2.2
  intro z
  have hd : r.path ∈ (F.drop i).map FRow.path := List.mem_map_of_mem (by
    rw [List.drop_eq_getElem_cons hi]
    rw [(List.getElem?_eq_some_iff.mp h).2]
    exact List.mem_cons_self)
  exact h3 _ z _ hd rfl
theorem kn_new {F : List FRow} {wd rk : Str → Nat} {S I : List Int} (fo : FlatOk F wd rk) (hS : StOk F S) (hI : InsOk F I) : Kn F (solV F wd S I) ((bs0 F S I).map convI) ((bs0 F S I).map (·.1)) where
  len := by simp
  mem := fun x => by
    rw [valV_convI]
    constructor
    · intro h
      obtain ⟨q, hq, rfl⟩ := List.mem_map.mp h
      cases e : (bs0 F S I).lookup q.1 with
      | some v => rfl
      | none =>
        have := List.lookup_eq_none_iff.mp e q hq
        simp at this
    · intro h
      cases e : (bs0 F S I).lookup x with
      | none => rw [e] at h; cases h
      | some v =>
        have key : ∀ l : List (Str × Int), l.lookup x = some v → x ∈ l.map (·.1) := by
          intro l
          induction l with
          | nil => intro h; cases h
          | cons q l ih =>
            intro h
            rw [List.lookup_cons] at h
            by_cases hq : x = q.1
            · rw [hq]; exact List.mem_cons_self
            · rw [show (x == q.1) = false from by simpa using hq] at h
              exact List.mem_cons_of_mem _ (ih h)
        exact key _ e
  val := fun x u h => by
    rw [valV_convI] at h
    cases e : (bs0 F S I).lookup x with
    | none => rw [e] at h; cases h
    | some v =>
      rw [e] at h
      obtain rfl := Option.some.inj h
      have hb : x ∈ bpaths F := by
        have key : ∀ l : List (Str × Int), l.lookup x = some v → x ∈ l.map (·.1) := by
          intro l
          induction l with
          | nil => intro h; cases h
          | cons q l ih =>
            intro h
            rw [List.lookup_cons] at h
            by_cases hq : x = q.1
            · rw [hq]; exact List.mem_cons_self
            · rw [show (x == q.1) = false from by simpa using hq] at h
              exact List.mem_cons_of_mem _ (ih h)
        have := key _ e
        rw [bs0_keys hS hI] at this
        exact mem_bpaths.mpr (List.mem_append.mp this)
      show V.int v = .int (solN F wd S I 300 x)
      rw [fo.base hb]
      unfold look0
      rw [e]
      rfl
  ik := by
    refine ⟨fun z hz => ?_, ?_⟩
    · rw [bs0_keys hS hI]
      exact List.mem_append.mpr (mem_bpaths.mp hz)
    · rw [bs0_keys hS hI, List.length_append, List.length_map, List.length_map]
      have h1 : (insP F).length ≤ F.length := List.length_filterMap_le ..
      have h2 : (boxR F).length ≤ F.length := List.length_filterMap_le ..
      have h3 : ((upaths F).filter fun x => decide (x ∉ (insP F).map (·.1) ++ (boxR F).map (·.1))).length ≤ F.length := by
        refine Nat.le_trans (List.length_filter_le ..) ?_
        unfold upaths
        rw [List.length_map]
        exact List.length_filter_le ..
      have := fo.len
      omega
section
variable {P : Program} {w : World} {K : PySem.W.Frag} {mg : Str → Option Value} {base : Heap} {C Pt c : Addr}
theorem cal_init (S : StdM K C "__init__" "Beat.__init__" s_beat___init__) (T : Frees mg) (cp : Cal P w K mg base "paths_of" 1 P_paths_of spPathsOf) (cBeat : Cls K C) (nw : NoAttr K C "widths") (nr : NoAttr K C "rules") (nk : NoAttr K C "known") :
    CalM P w K mg base C "__init__" 2 P_beat___init__ (spInit C Pt) := by
  obtain ⟨f, fd, F, m⟩ := S
  obtain ⟨fp, dp, G_paths_of, m_paths_of, k_paths_of, b_paths_of⟩ := cp
  refine ⟨f, fd, ?_, m, F.bindsN fun _ _ _ _ _ _ us hl => match us, hl with | [_, _, _, _], _ => rfl⟩
  have sc := sc_beat___init__
  refine F.ok sc (fun vs H Q E h => by obtain ⟨_, _, _, _, _, _, _, _, _, _, rfl, _⟩ := h; rfl) fun cdv A outer s H vs Q E hr h => ⟨_, PSs.nox (pss_cons (ps_fld (pv 0) (pe_dc (own := [("row", 4)]) rfl sc.nd (PI.toK (t' := iTup K _) (pi_tup (pv 1))) (blkOk_by (N := N_beat___init__) (sc := defScope s_beat___init__) (by decide +kernel)) (fun _ _ _ _ _ => (pg_name (i := 4) sc.nd rfl (Or.inl rfl))) (fun _ _ _ _ _ => pts_nil) (fun _ _ _ _ _ => (pe_ix (ixt K) (pv 4) pe_int (fun _ _ => rfl))) (fun _ _ _ _ _ => (pe_ix (ixt K) (pv 4) pe_int (fun _ _ => rfl)))) rfl)
 (pss_cons (ps_fld (pv 0) (pe_dc (own := [("row", 4)]) rfl sc.nd (PI.toK (t' := iTup K _) (pi_tup (pv 1))) (blkOk_by (N := N_beat___init__) (sc := defScope s_beat___init__) (by decide +kernel)) (fun _ _ _ _ _ => (pg_name (i := 4) sc.nd rfl (Or.inl rfl))) (fun _ _ _ _ _ => pts_one (pt_cmpR (oIn K) (pe_ix (ixt K) (pv 4) pe_int (fun _ _ => rfl)) (pe_tup (pa_cons pe_str (pa_cons pe_str pa_nil))) (by rfl))) (fun _ _ _ _ _ => (pe_ix (ixt K) (pv 4) pe_int (fun _ _ => rfl))) (fun _ _ _ _ _ => (pe_ix (ixt K) (pv 4) pe_int (fun _ _ => rfl)))) rfl)
 (pss_cons (ps_fld (pv 0) (pe_callTy (call_dictP rfl) rfl T.dict (by decide +kernel) (pa_cons (PE.toK (t' := tLZS K _) (pe_lzs rfl rfl T.list rfl T.zip (pa_cons (pe_call G_paths_of (hr.mono (by decide)) rfl m_paths_of k_paths_of b_paths_of .nil pass0 (pa_cons (pv 1) (pa_cons pe_str pa_nil))) (pa_cons (pv 3) pa_nil)))) pa_nil)) rfl)
 (pss_one (ps_expr (PE.toK (t' := tBM K _ _ _ _) (pe_bm PySem.F.plainAttrs_dict PySem.F.slot_dict_update PySem.F.type_dict_update mt_update (PE.toK (t' := tFld K _ _) (pe_fld (pv 0) rfl)) (pa_cons (pe_callTy (call_dictP rfl) rfl T.dict (by decide +kernel) (pa_cons (PE.toK (t' := tLZS K _) (pe_lzs rfl rfl T.list rfl T.zip (pa_cons (pe_call G_paths_of (hr.mono (by decide)) rfl m_paths_of k_paths_of b_paths_of .nil pass0 (pa_cons (pv 1) (pa_cons pe_str pa_nil))) (pa_cons (pv 2) pa_nil)))) pa_nil)) pa_nil)))))))), ?_⟩
  obtain ⟨x, dx, pf, ps, pi, Fl, wd, rk, St, In, rfl, hx, ⟨vf, hpf, avf⟩, fo, hS, hI, hps, hpi, hT, hQ⟩ := h
  have hlen := fo.len
  -- the widths
  refine ⟨_, rfl, pf, rfl, ⟨_, SqT.of hpf⟩, fun pw hpw => ?_⟩
  refine dc_tup (xs := vf) (fun i H' => ∃ kw : List (Key × V), H' pw = some (.dK kw) ∧ kw.length ≤ i ∧ (∀ r ∈ Fl.take i, WdR kw r.path r.width) ∧ Kp [] H H') ⟨[], upd_same .., by simp, by simp, Kp.new hpw⟩ (fun i H' _ ⟨_, _, _, _, k⟩ => SqT.of (k.at hpf (by simp))) ?_ ?_
  · rintro i v H' hv ⟨kw, h1, hl1, h2, k⟩
    obtain ⟨r, hr0, hrow⟩ := avf.get hv
    obtain ⟨a, rest, rfl, ha⟩ := frow_head (hrow.keep k)
    have hi : i < 40 := by
      have := (List.getElem?_eq_some_iff.mp hr0).1
      omega
    refine ⟨rfl, yesT ⟨_, rfl, a, _, _, .str r.path, rfl, rfl, SqT.of ha, atI_nat (j := 1) rfl, _, rfl, a, _, _, .int (r.width : Int), rfl, rfl, SqT.of ha, atI_nat (j := 2) rfl, kw, Sum.inr r.path, rfl, h1, Nat.lt_of_le_of_lt (show _ ≤ 40 by omega) (by decide), _, upd_same .., Nat.le_trans (length_putK ..) (by omega), fun r' hr' => ?_, k.fresh hpw⟩⟩
    unfold WdR
    rw [valV_put]
    rw [take_snoc hr0] at hr'
    rcases List.mem_append.mp hr' with q | q
    · have : r'.path ≠ r.path := fun z => nodup_take fo.nd hr0 (by rw [← z]; exact List.mem_map_of_mem q)
      rw [if_neg (fun z => this (Sum.inr.inj z))]
      exact h2 r' q
    · rw [List.mem_singleton.mp q, if_pos rfl]
  rintro H1 ⟨kw, hw1, _, hww, k1⟩
  rw [avf.length, List.take_length] at hww
  have hx1 := k1.at hx (by simp)
  have npwx : pw ≠ x := fun e => by rw [e, hx] at hpw; cases hpw
  refine ⟨_, rfl, x, C, dx, [], rfl, hx1, cBeat, nw, by decide, ?_⟩
  rw [show putF ("widths" : Str) (V.ref pw) [] = [(("widths" : Str), V.ref pw)] from rfl]
  generalize hH2 : upd H1 x _ = H2
  have k2 : Kp [x] H H2 := by rw [← hH2]; exact k1.up.trans (Kp.put hx1 (by simp))
  have k12 : Kp [x] H1 H2 := by rw [← hH2]; exact Kp.put hx1 (by simp)
  have hx2 : H2 x = some (.ins C dx [(("widths" : Str), V.ref pw)]) := by rw [← hH2]; exact upd_same ..
  have hw2 := k12.at hw1 (by simp [npwx])
  clear hH2
  -- the rules
  have af2 := avf.imp fun _ _ z => z.keep k2
  refine ⟨_, rfl, pf, rfl, ⟨_, SqT.of (k2.tup hpf)⟩, fun pu hpu => ?_⟩
  have npux : pu ≠ x := Ne.symm (ne_of_none hx2 hpu)
  have npuw : pu ≠ pw := Ne.symm (ne_of_none hw2 hpu)
  have hpuH : H pu = none := k2.free hpu (by simp [npux])
  refine dc_tup (xs := vf) (fun i H' => ∃ ku : List (Key × V), H' pu = some (.dK ku) ∧ ku.length ≤ i ∧ (∀ p e, Rule (Fl.take i) p e → ∃ v, valV ku (Sum.inr p) = some v ∧ IsEx H' e v) ∧ Kp [] H2 H') ⟨[], upd_same .., by simp, (fun p e hr => by obtain ⟨w, h | h⟩ := hr <;> simp at h), Kp.new hpu⟩ (fun i H' _ ⟨_, _, _, _, k⟩ => SqT.of (k.tup (k2.tup hpf))) ?_ ?_
  · rintro i v H' hv ⟨ku, h1, hl1, h2, k⟩
    obtain ⟨r, hr0, hrow⟩ := af2.get hv
    have hrow := hrow.keep k
    have hi : i < 40 := by
      have := (List.getElem?_eq_some_iff.mp hr0).1
      omega
    have skip : r.ex? = none → ∃ ku : List (Key × V), H' pu = some (.dK ku) ∧ ku.length ≤ i + 1 ∧ (∀ p e, Rule (Fl.take (i + 1)) p e → ∃ v, valV ku (Sum.inr p) = some v ∧ IsEx H' e v) ∧ Kp [] H2 H' := fun hn => ⟨ku, h1, by omega, (fun p e hpe => by
      rcases rule_snoc hr0 hpe with q | ⟨_, q⟩
      · exact h2 p e q
      · rw [hn] at q; cases q), k⟩
    have put : ∀ (H3 : Hp) (u : V) (e : Ex), Kp [] H' H3 → r.ex? = some e → IsEx H3 e u → ∃ ku' : List (Key × V), upd H3 pu (.dK (putK ku (Sum.inr r.path) u)) pu = some (.dK ku') ∧ ku'.length ≤ i + 1 ∧ (∀ p e, Rule (Fl.take (i + 1)) p e → ∃ v, valV ku' (Sum.inr p) = some v ∧ IsEx (upd H3 pu (.dK (putK ku (Sum.inr r.path) u))) e v) ∧ Kp [] H2 (upd H3 pu (.dK (putK ku (Sum.inr r.path) u))) := fun H3 u e k3 he hu => by
      have h3 := k3.at h1 (by simp)
      have kp : Kp [pu] H3 (upd H3 pu (.dK (putK ku (Sum.inr r.path) u))) := Kp.put h3 (by simp)
      refine ⟨_, upd_same .., Nat.le_trans (length_putK ..) (by omega), fun p e' hpe => ?_, (k.trans k3).fresh hpu⟩
      rw [valV_put]
      rcases rule_snoc hr0 hpe with q | ⟨q1, q2⟩
      · have : p ≠ r.path := fun z => nodup_take fo.nd hr0 (by rw [← z]; exact rule_path q)
        rw [if_neg (fun z => this (Sum.inr.inj z))]
        obtain ⟨v, g1, g2⟩ := h2 p e' q
        exact ⟨v, g1, (g2.keep k3).keep kp⟩
      · rw [if_pos (congrArg Sum.inr q1.symm)]
        rw [he] at q2
        cases q2
        exact ⟨u, rfl, hu.keep kp⟩
    have sz : ku.length < sizeLine := Nat.lt_of_le_of_lt (show _ ≤ 40 by omega) (by decide)
    cases r with
    | inr p w c =>
      obtain ⟨a, rfl, ha⟩ := hrow
      refine ⟨rfl, _, rfl, a, _, _, .str "in", rfl, rfl, SqT.of ha, atI_nat (j := 0) rfl, (by show 2 ≤ sizeLine; decide), fun t ht => ⟨t, _, rfl, .inr (SqT.of (upd_same ..)), rfl, rfl, _, rfl, iteF ?_⟩⟩
      obtain ⟨ku', g1, g2, g3, g4⟩ := skip rfl
      have kt : Kp [] H' (upd H' t (.tup [.str "wire", .str "out"])) := Kp.new ht
      exact ⟨ku', kt.at g1 (by simp), g2, fun p e h => let ⟨v, a, b⟩ := g3 p e h; ⟨v, a, b.keep kt⟩, g4.trans kt⟩
    | box p w c k' e =>
      obtain ⟨a, u, rfl, ha, _⟩ := hrow
      refine ⟨rfl, _, rfl, a, _, _, .str "box", rfl, rfl, SqT.of ha, atI_nat (j := 0) rfl, (by show 2 ≤ sizeLine; decide), fun t ht => ⟨t, _, rfl, .inr (SqT.of (upd_same ..)), rfl, rfl, _, rfl, iteF ?_⟩⟩
      obtain ⟨ku', g1, g2, g3, g4⟩ := skip rfl
      have kt : Kp [] H' (upd H' t (.tup [.str "wire", .str "out"])) := Kp.new ht
      exact ⟨ku', kt.at g1 (by simp), g2, fun p e h => let ⟨v, a, b⟩ := g3 p e h; ⟨v, a, b.keep kt⟩, g4.trans kt⟩
    | wire p w e =>
      obtain ⟨a, u, rfl, ha, hu⟩ := hrow
      refine ⟨rfl, _, rfl, a, _, _, .str "wire", rfl, rfl, SqT.of ha, atI_nat (j := 0) rfl, (by show 2 ≤ sizeLine; decide), fun t ht => ⟨t, _, rfl, .inr (SqT.of (upd_same ..)), rfl, rfl, _, rfl, iteT ?_⟩⟩
      have kt : Kp [] H' (upd H' t (.tup [.str "wire", .str "out"])) := Kp.new ht
      exact ⟨_, rfl, a, _, _, .str p, rfl, rfl, SqT.of (kt.tup ha), atI_nat (j := 1) rfl, _, rfl, a, _, _, u, rfl, rfl, SqT.of (kt.tup ha), atI_nat (j := 3) rfl, ku, Sum.inr p, rfl, kt.at h1 (by simp), sz, put _ u e kt rfl (hu.keep kt)⟩
    | out p w e =>
      obtain ⟨a, u, rfl, ha, hu⟩ := hrow
      refine ⟨rfl, _, rfl, a, _, _, .str "out", rfl, rfl, SqT.of ha, atI_nat (j := 0) rfl, (by show 2 ≤ sizeLine; decide), fun t ht => ⟨t, _, rfl, .inr (SqT.of (upd_same ..)), rfl, rfl, _, rfl, iteT ?_⟩⟩
      have kt : Kp [] H' (upd H' t (.tup [.str "wire", .str "out"])) := Kp.new ht
      exact ⟨_, rfl, a, _, _, .str p, rfl, rfl, SqT.of (kt.tup ha), atI_nat (j := 1) rfl, _, rfl, a, _, _, u, rfl, rfl, SqT.of (kt.tup ha), atI_nat (j := 3) rfl, ku, Sum.inr p, rfl, kt.at h1 (by simp), sz, put _ u e kt rfl (hu.keep kt)⟩
  rintro H3 ⟨ku, hu3, _, huu, k23⟩
  rw [avf.length, List.take_length] at huu
  have hx3 := k23.at hx2 (by simp)
  have hw3 := k23.at hw2 (by simp)
  refine ⟨_, rfl, x, C, dx, _, rfl, hx3, cBeat, nr, (by show 1 < 1000; decide), ?_⟩
  rw [show putF ("rules" : Str) (V.ref pu) [(("widths" : Str), V.ref pw)] = [(("widths" : Str), V.ref pw), (("rules" : Str), V.ref pu)] from rfl]
  generalize hH4 : upd H3 x _ = H4
  have k34 : Kp [x] H3 H4 := by rw [← hH4]; exact Kp.put hx3 (by simp)
  have hx4 : H4 x = some (.ins C dx [(("widths" : Str), V.ref pw), (("rules" : Str), V.ref pu)]) := by rw [← hH4]; exact upd_same ..
  have hw4 := k34.at hw3 (by simp [npwx])
  have hu4 := k34.at hu3 (by simp [npux])
  have huu4 : ∀ p e, Rule Fl p e → ∃ v, valV ku (Sum.inr p) = some v ∧ IsEx H4 e v := fun p e h => let ⟨v, a, b⟩ := huu p e h; ⟨v, a, b.keep k34⟩
  have k4 : Kp [x] H H4 := (k2.trans k23.up).trans k34
  clear hH4
  -- the ins
  have hI1 : (pathsW Fl "in").length = In.length := by rw [pathsW_in, List.length_map]; exact hI.1.symm
  have hS1 : (pathsW Fl "box").length = St.length := by rw [pathsW_box, List.length_map]; exact hS.1.symm
  have nd0 := fo.keys
  refine ⟨_, rfl, pf, "in", Fl, rfl, Flat.keep (H := H) ⟨vf, hpf, avf⟩ k4, by omega, fun p1 H5 hp1 _ k45 => ?_⟩
  refine ⟨_, rfl, p1, pi, _, _, rfl, SqL.of hp1, SqT.of (k45.tup (k4.tup hpi)), by simpa using hI1, fun S1 H6 z1 => ?_⟩
  rw [zip_conv] at z1
  obtain ⟨refs1, hS1', pr1, k56⟩ := zl_pairs (K := K) z1
  refine ⟨S1, refs1, _, rfl, SqL.of hS1', pr1, fun pk hpk => ?_⟩
  have ndA : (((pathsW Fl "in").zip In).map (·.1)).Nodup := by rw [zip_fst hI1, pathsW_in]; exact (List.nodup_append.mp nd0).1
  have emA : mergeK [] (((pathsW Fl "in").zip In).map convI) = ((pathsW Fl "in").zip In).map convI := by
    rw [mergeK_nodup (by rw [List.nil_append]; exact nodup_convI ndA)]; simp
  rw [emA]
  have k46 : Kp [] H4 H6 := k45.trans k56
  have npkx : pk ≠ x := Ne.symm (ne_of_none (k46.at hx4 (by simp)) hpk)
  have npkw : pw ≠ pk := ne_of_none (k46.at hw4 (by simp)) hpk
  have npku : pu ≠ pk := ne_of_none (k46.at hu4 (by simp)) hpk
  have hpkH : H pk = none := (k4.trans k46.up).free hpk (by simp [npkx])
  generalize hH7 : upd H6 pk _ = H7
  have k67 : Kp [] H6 H7 := by rw [← hH7]; exact Kp.new hpk
  have hk7 : H7 pk = some (.dK (((pathsW Fl "in").zip In).map convI)) := by rw [← hH7]; exact upd_same ..
  clear hH7
  have k47 := k46.trans k67
  have hx7 := k47.at hx4 (by simp)
  refine ⟨_, rfl, x, C, dx, _, rfl, hx7, cBeat, nk, (by show 2 < 1000; decide), ?_⟩
  rw [show putF ("known" : Str) (V.ref pk) [(("widths" : Str), V.ref pw), (("rules" : Str), V.ref pu)] = beatFs pw pu pk from rfl]
  generalize hH8 : upd H7 x _ = H8
  have k78 : Kp [x] H7 H8 := by rw [← hH8]; exact Kp.put hx7 (by simp)
  have hx8 : H8 x = some (.ins C dx (beatFs pw pu pk)) := by rw [← hH8]; exact upd_same ..
  clear hH8
  have hk8 := k78.at hk7 (by simp [npkx])
  have k48 : Kp [x] H4 H8 := k47.up.trans k78
  have k8 := k4.trans k48
  -- the boxes
  refine ⟨_, rfl, x, C, dx, _, _, rfl, hx8, cBeat, nk, rfl, .inr (.inr (.inl ⟨rfl, .inl ⟨_, hk8⟩⟩)), _, rfl, pf, "box", Fl, rfl, Flat.keep (H := H) ⟨vf, hpf, avf⟩ k8, by omega, fun p2 H9 hp2 _ k89 => ?_⟩
  refine ⟨_, rfl, p2, ps, _, _, rfl, SqL.of hp2, SqT.of (k89.tup (k8.tup hps)), by simpa using hS1, fun S2 H10 z2 => ?_⟩
  rw [zip_conv] at z2
  obtain ⟨refs2, hS2', pr2, k910⟩ := zl_pairs (K := K) z2
  refine ⟨S2, refs2, _, rfl, SqL.of hS2', pr2, fun pb hpb => ?_⟩
  have ndB : (((pathsW Fl "box").zip St).map (·.1)).Nodup := by rw [zip_fst hS1, pathsW_box]; exact (List.nodup_append.mp nd0).2.1
  have emB : mergeK [] (((pathsW Fl "box").zip St).map convI) = ((pathsW Fl "box").zip St).map convI := by
    rw [mergeK_nodup (by rw [List.nil_append]; exact nodup_convI ndB)]; simp
  rw [emB]
  have k810 := k89.trans k910
  have hk10 := k810.at hk8 (by simp)
  have nkb : pk ≠ pb := ne_of_none hk10 hpb
  generalize hH11 : upd H10 pb _ = H11
  have k1011 : Kp [] H10 H11 := by rw [← hH11]; exact Kp.new hpb
  have hb11 : H11 pb = some (.dK (((pathsW Fl "box").zip St).map convI)) := by rw [← hH11]; exact upd_same ..
  clear hH11
  have k811 := k810.trans k1011
  have hk11 := k811.at hk8 (by simp)
  have ezip : ((pathsW Fl "in").zip In).map convI ++ ((pathsW Fl "box").zip St).map convI = (bs0 Fl St In).map convI := by
    unfold bs0
    rw [List.map_append, pathsW_in, pathsW_box]
  have emC : mergeK (((pathsW Fl "in").zip In).map convI) (((pathsW Fl "box").zip St).map convI) = (bs0 Fl St In).map convI := by
    rw [mergeK_nodup (by rw [ezip]; exact nodup_convI (by rw [bs0_keys hS hI]; exact nd0)), ezip]
  have hl1 : (pathsW Fl "in").length ≤ 40 := Nat.le_trans (pathsW_len ..) hlen
  have hl2 : (pathsW Fl "box").length ≤ 40 := Nat.le_trans (pathsW_len ..) hlen
  refine ⟨pk, pb, _, _, rfl, rfl, hk11, hb11, nkb, ?_, ?_⟩
  · rw [List.length_map, List.length_map, List.length_zip, List.length_zip]
    exact Nat.le_trans (show _ ≤ 80 by omega) (by decide)
  rw [emC]
  generalize hH12 : upd H11 pk _ = H12
  have k1112 : Kp [pk] H11 H12 := by rw [← hH12]; exact Kp.put hk11 (by simp)
  have hk12 : H12 pk = some (.dK ((bs0 Fl St In).map convI)) := by rw [← hH12]; exact upd_same ..
  have k12' : Kp [x] H H12 := by rw [← hH12]; exact (k8.trans k811.up).off hpkH hk11
  clear hH12
  obtain ⟨tps, htb, htab⟩ := id hT
  have nPtx : Pt ≠ x := fun e => by rw [e, hx] at htb; cases htb
  have k412 : Kp [x, pk] H4 H12 := (k48.mono (by simp)).trans (k811.up.trans (k1112.mono (by simp)))
  have bst : BeatSt C Pt qlB Fl (solV Fl wd St In) x dx pw pu pk kw ku ((bs0 Fl St In).map convI) ((bs0 Fl St In).map (·.1)) H12 := {
    obj := k1112.at (k811.at hx8 (by simp)) (by simp [Ne.symm npkx])
    hw := k412.at hw4 (by simp [npwx, npkw])
    hu := k412.at hu4 (by simp [npux, npku])
    ex := fun p e h => let ⟨v, a, b⟩ := huu4 p e h; ⟨v, a, b.keep k412⟩
    hk := hk12
    kn := kn_new fo hS hI
    tab := tabS_kp hT k12' (by simp [nPtx]) fun c e hc => by rw [List.mem_singleton.mp hc, hx] at e; cases e }
  exact hQ ⟨x, pw, pu, pk⟩ H12 rfl hpw hpuH hpkH k12' ⟨dx, kw, ku, _, _, bst, fun r hr => by rw [(fo.wdr r hr).1]; exact hww r hr, npkw, npku⟩
end
end WT

set_option Elab.async false
set_option linter.all false
set_option maxRecDepth 100000
set_option maxHeartbeats 8000000
/-! taken, beats_gone. -/
namespace WT
open PySem PySem.Spec PyProof.Rows L2
theorem walk_zs {K : PySem.W.Frag} {a b : Addr} {xs ys : List V} {n : Nat} (h1 : n = xs.length) (h2 : n = ys.length) : Walk (ItzS K a b) n (fun H => SqL K H a xs ∧ SqT K H b ys) (YPair (fun i => xs[i]?) (fun i => ys[i]?)) := by
  refine ⟨fun i _ hi q => ?_, fun _ q => ⟨xs, ys, q.1, q.2, by omega, by omega⟩, fun i H v H' _ q y => ?_⟩
  · exact ⟨xs, ys, xs[i], ys[i], q.1, q.2, by simp [show i < xs.length by omega], by simp [show i < ys.length by omega]⟩
  · obtain ⟨T, x, z, h1, h2, h3, h4, h5⟩ := y
    exact ⟨T, x, z, h1, h2, h3, h4 xs q.1, h5 ys q.2⟩
theorem inV_str {x : Str} : ∀ {cl : List Str}, inV (.str x) (cl.map V.str) = decide (x ∈ cl)
  | [] => rfl
  | y :: cl => by
    show (eqV (.str y) (.str x) || inV (.str x) (cl.map V.str)) = _
    rw [inV_str, show eqV (.str y) (.str x) = decide (y = x) from rfl]
    by_cases e : y = x
    · subst e; simp
    · simp [e, Ne.symm e]
theorem flat_strs : ∀ {cl : List Str}, (cl.map V.str).all flatV = true
  | [] => rfl
  | _ :: cl => flat_strs (cl := cl)
section
variable {C Pt : Addr} {F : List FRow} {wd rk : Str → Nat} {V' : Str → Int} {b : B4} {H H' : Hp}
theorem BtS.keep (h : BtS C Pt F wd V' b H) (k : Kp [] H H') : BtS C Pt F wd V' b H' := let ⟨dx, kw, ku, kk, kn, a, r⟩ := h; ⟨dx, kw, ku, kk, kn, a.keep k, r⟩
theorem BtS.lst (h : BtS C Pt F wd V' b H) {D : Addr} {xs : List V} (hD : H D = some (.lst xs)) (k : Kp [D] H H') : BtS C Pt F wd V' b H' := by
  obtain ⟨dx, kw, ku, kk, kn, a, r⟩ := h
  obtain ⟨a1, a2, a3, a4, a5⟩ := a.addr (l := [D]) fun q hq => by rw [List.mem_singleton.mp hq]; exact .inr (.inr ⟨_, hD⟩)
  exact ⟨dx, kw, ku, kk, kn, a.kp k a1 a2 a3 a4 (tabS_kp a.tab k a5 fun c e hc => by rw [List.mem_singleton.mp hc, hD] at e; cases e), r⟩
theorem BtS.tab (h : BtS C Pt F wd V' b H) : LamX.TabS H Pt qlB := let ⟨_, _, _, _, _, a, _⟩ := h; a.tab
theorem BtS.pkd (h : BtS C Pt F wd V' b H) : ∃ kk, H b.pk = some (.dK kk) := let ⟨_, _, _, _, _, a, _⟩ := h; ⟨_, a.hk⟩
theorem BtS.pwd (h : BtS C Pt F wd V' b H) : ∃ kk, H b.pw = some (.dK kk) := let ⟨_, _, _, _, _, a, _⟩ := h; ⟨_, a.hw⟩
theorem BtS.pud (h : BtS C Pt F wd V' b H) : ∃ kk, H b.pu = some (.dK kk) := let ⟨_, _, _, _, _, a, _⟩ := h; ⟨_, a.hu⟩
theorem tab_tbl (h : LamX.TabS H Pt qlB) : ∃ ps, H Pt = some (.tbl ps) := let ⟨ps, a, _⟩ := h; ⟨ps, a⟩
theorem tab_keep (h : LamX.TabS H Pt qlB) (k : Kp [] H H') : LamX.TabS H' Pt qlB := tabS_kp h k (by simp) (by simp)
theorem tab_lst (h : LamX.TabS H Pt qlB) {D : Addr} {xs : List V} (hD : H D = some (.lst xs)) (k : Kp [D] H H') : LamX.TabS H' Pt qlB := by
  obtain ⟨ps, hp⟩ := tab_tbl h
  exact tabS_kp h k (fun z => by rw [List.mem_singleton.mp z, hD] at hp; cases hp) fun c e hc => by rw [List.mem_singleton.mp hc, hD] at e; cases e
/-- another beat's doings -/
theorem BtS.other (h : BtS C Pt F wd V' b H) {pk : Addr} {kk : List (Key × V)} (hk : H pk = some (.dK kk)) (h1 : b.pw ≠ pk) (h2 : b.pu ≠ pk) (h3 : b.pk ≠ pk) (k : Kp [Pt, pk] H H') (t : LamX.TabS H' Pt qlB) : BtS C Pt F wd V' b H' := by
  obtain ⟨dx, kw, ku, kk', kn, a, r⟩ := h
  obtain ⟨ps, hp⟩ := tab_tbl a.tab
  have ne : ∀ {q : Addr} {o : HO}, H q = some o → (∀ ps, o ≠ .tbl ps) → q ≠ Pt := fun e n z => by rw [z, hp] at e; exact n ps (Option.some.inj e).symm
  have nz : b.z ≠ pk := fun z => by have := a.obj; rw [z, hk] at this; cases this
  exact ⟨dx, kw, ku, kk', kn, a.kp k (by simp [ne a.obj (fun _ e => by cases e), nz]) (by simp [ne a.hw (fun _ e => by cases e), h1]) (by simp [ne a.hu (fun _ e => by cases e), h2]) (by simp [ne a.hk (fun _ e => by cases e), h3]) t, r⟩
end
/-- many beats, apart -/
structure Bts (C Pt : Addr) (F : List FRow) (wd : Str → Nat) (bs : List B4) (Vl : List (Str → Int)) (H : Hp) : Prop where
  len : bs.length = Vl.length
  st : ∀ (j : Nat) b V, bs[j]? = some b → Vl[j]? = some V → BtS C Pt F wd V b H
  ap : ∀ (i j : Nat) b b', bs[i]? = some b → bs[j]? = some b' → i ≠ j → b.pw ≠ b'.pk ∧ b.pu ≠ b'.pk ∧ b.pk ≠ b'.pk
section
variable {C Pt : Addr} {F : List FRow} {wd rk : Str → Nat} {bs : List B4} {Vl : List (Str → Int)} {H H' : Hp}
theorem Bts.keep (h : Bts C Pt F wd bs Vl H) (k : Kp [] H H') : Bts C Pt F wd bs Vl H' := ⟨h.len, fun j b V h1 h2 => (h.st j b V h1 h2).keep k, h.ap⟩
theorem Bts.lst (h : Bts C Pt F wd bs Vl H) {D : Addr} {xs : List V} (hD : H D = some (.lst xs)) (k : Kp [D] H H') : Bts C Pt F wd bs Vl H' := ⟨h.len, fun j b V h1 h2 => (h.st j b V h1 h2).lst hD k, h.ap⟩
theorem Bts.turn (h : Bts C Pt F wd bs Vl H) {j : Nat} {b : B4} {V : Str → Int} (h1 : bs[j]? = some b) (h2 : Vl[j]? = some V) (k : Kp [Pt, b.pk] H H') (s : BtS C Pt F wd V b H') : Bts C Pt F wd bs Vl H' := by
  obtain ⟨kk, hk⟩ := (h.st j b V h1 h2).pkd
  refine ⟨h.len, fun i b' V' g1 g2 => ?_, h.ap⟩
  by_cases e : i = j
  · subst e
    rw [h1] at g1
    rw [h2] at g2
    cases g1
    cases g2
    exact s
  · obtain ⟨a1, a2, a3⟩ := h.ap i j b' b g1 h1 e
    exact (h.st i b' V' g1 g2).other hk a1 a2 a3 k s.tab
/-- one more -/
theorem Bts.snoc (h : Bts C Pt F wd bs Vl H') {b : B4} {V : Str → Int} (s : BtS C Pt F wd V b H') (ap : ∀ b' ∈ bs, b'.pw ≠ b.pk ∧ b'.pu ≠ b.pk ∧ b'.pk ≠ b.pk ∧ b.pw ≠ b'.pk ∧ b.pu ≠ b'.pk) : Bts C Pt F wd (bs ++ [b]) (Vl ++ [V]) H' := by
  have cs : ∀ {α : Type} {l : List α} {x y : α} {j : Nat}, (l ++ [x])[j]? = some y → (j < l.length ∧ l[j]? = some y) ∨ (j = l.length ∧ y = x) := fun {α l x y j} e => by
    by_cases hj : j < l.length
    · rw [List.getElem?_append_left hj] at e; exact .inl ⟨hj, e⟩
    · rw [List.getElem?_append_right (by omega)] at e
      have : j - l.length = 0 := by
        have := (List.getElem?_eq_some_iff.mp e).1
        simp at this
        omega
      rw [this] at e
      exact .inr ⟨by omega, (Option.some.inj e).symm⟩
  refine ⟨by simp [h.len], fun j b' V' g1 g2 => ?_, fun i j b1 b2 g1 g2 e => ?_⟩
  · rcases cs g1 with ⟨q1, q2⟩ | ⟨q1, q2⟩ <;> rcases cs g2 with ⟨r1, r2⟩ | ⟨r1, r2⟩
    · exact h.st j b' V' q2 r2
    · have := h.len; omega
    · have := h.len; omega
    · subst q2; subst r2; exact s
  · rcases cs g1 with ⟨q1, q2⟩ | ⟨q1, q2⟩ <;> rcases cs g2 with ⟨r1, r2⟩ | ⟨r1, r2⟩
    · exact h.ap i j b1 b2 q2 r2 e
    · subst r2
      obtain ⟨a1, a2, a3, _⟩ := ap b1 (List.mem_of_getElem? q2)
      exact ⟨a1, a2, a3⟩
    · subst q2
      obtain ⟨_, _, a3, a4, a5⟩ := ap b2 (List.mem_of_getElem? r2)
      exact ⟨a4, a5, Ne.symm a3⟩
    · omega
end
abbrev s_taken : Stmt := topS 11
abbrev N_taken : List Str := ["flat", "beat", "standing", "clocks", "boxes", "row", "kept"]
abbrev P_taken : List Str := ["flat", "beat", "standing", "clocks"]
theorem sc_taken : FnScope N_taken P_taken (defScope s_taken) := ⟨rfl, rfl, rfl, by decide +kernel, rfl, by decide +kernel, by decide +kernel⟩
def spTaken (C Pt : Addr) : Sp := fun vs H Q _ => ∃ (pf ps pc : Addr) (b : B4) (F : List FRow) (wd rk : Str → Nat) (V' : Str → Int) (S : List Int) (cl : List Str), vs = [.ref pf, .ref b.z, .ref ps, .ref pc] ∧ Flat H pf F ∧ FlatOk F wd rk ∧ Sol F wd V' ∧ StOk F S ∧ BtS C Pt F wd V' b H ∧
  H ps = some (.tup (S.map V.int)) ∧ H pc = some (.tup (cl.map V.str)) ∧ ∀ p H', H' p = some (.tup ((nextS F wd V' S cl).map V.int)) → BtS C Pt F wd V' b H' → Kp [Pt, b.pk] H H' → Q (.ref p) H'
def IsBoxR (H : Hp) (v : V) (q : BoxR) : Prop := IsFRow H v (.box q.1 q.2.1 q.2.2.1 q.2.2.2.1 q.2.2.2.2)
theorem IsBoxR.keep {l : List Addr} {H H' : Hp} (k : Kp l H H') {q : BoxR} {v : V} (h : IsBoxR H v q) : IsBoxR H' v q := IsFRow.keep k h
theorem boxR_snoc (l : List FRow) (r : FRow) : boxR (l ++ [r]) = boxR l ++ (match r with | .box p w c k e => [(p, w, c, k, e)] | _ => []) := by
  unfold boxR
  rw [List.filterMap_append]
  cases r <;> rfl
section
variable {P : Program} {w : World} {K : PySem.W.Frag} {mg : Str → Option Value} {base : Heap} {C Pt c : Addr}
theorem cal_taken (S : Std K mg "taken" s_taken) (T : Frees mg) (cw : CalM P w K mg base C "worth" 12 P_beat_worth (spBW C Pt (spVal C Pt))) (cBeat : Cls K C) : Cal P w K mg base "taken" 13 P_taken (spTaken C Pt) := by
  obtain ⟨f, fd, F, m⟩ := S
  obtain ⟨fw, dw, G_worth, m_worth, b_worth⟩ := cw
  refine ⟨f, fd, ?_, m, F.kp, F.bindsN fun _ _ _ _ _ _ us hl => match us, hl with | [_, _, _, _], _ => rfl⟩
  have sc := sc_taken
  refine F.ok sc (fun vs H Q E h => by obtain ⟨_, _, _, _, _, _, _, _, _, _, rfl, _⟩ := h; rfl) fun cdv A outer s H vs Q E hr h => ⟨_, PSs.nox (pss_cons (ps_setLc (i := 4) (own := [("row", 5)]) rfl sc.nd rfl rfl (sw_true rfl rfl rfl (by decide +kernel)) (PI.toK (t' := iTup K _) (pi_tup (pv 0))) (blkOk_by (N := N_taken) (sc := defScope s_taken) (by decide +kernel)) (fun _ _ _ _ _ => (pg_name (i := 5) sc.nd rfl (Or.inl rfl))) (fun _ _ _ _ _ => pts_one (pt_cmpR op_eq (pe_ix (ixt K) (pv 5) pe_int (fun _ _ => rfl)) pe_str (nomark _))) (fun _ _ _ _ _ => (pv 5)))
 (pss_one (ps_ret (pe_callTy (cTup K) rfl T.tuple (by decide +kernel) (pa_cons (pe_lc (own := [("row", 5), ("kept", 6)]) rfl sc.nd (PI.toK (t' := iZipS K _) (pi_zs rfl T.zip (pa_cons (pv 4) (pa_cons (pv 2) pa_nil)))) (blkOk_by (N := N_taken) (sc := defScope s_taken) (by decide +kernel)) (fun _ _ _ _ _ => (PG.toK (t' := gTup K 2 _) (pg_tup rfl (pgs_cons (pg_name (i := 5) sc.nd rfl (Or.inl rfl)) (pgs_cons (pg_name (i := 6) sc.nd rfl (Or.inl rfl)) pgs_nil))))) (fun _ _ _ _ _ => pts_nil) (fun _ _ _ _ _ => (pe_ifExp (pt_cmpR (oIn K) (pe_ix (ixt K) (pv 5) pe_int (fun _ _ => rfl)) (pv 3) (by rfl)) (pe_meth (pv 1) cBeat (m_worth) G_worth (hr.mono (by decide)) b_worth .nil pass0 (pa_cons (pe_ix (ixt K) (pv 5) pe_int (fun _ _ => rfl)) pa_nil)) (pv 6)))) pa_nil))))), ?_⟩
  obtain ⟨pf, ps, pc, b, Fl, wd, rk, V', St, cl, rfl, ⟨vf, hpf, avf⟩, fo, so, hS, hB, hps, hpc, hQ⟩ := h
  have hlen := fo.len
  -- the boxes
  refine ⟨_, rfl, pf, rfl, ⟨_, SqT.of hpf⟩, fun D hD => ?_⟩
  refine lc_tup (xs := vf) (fun i H' => ∃ vb, H' D = some (.lst vb) ∧ AllV (IsBoxR H') vb (boxR (Fl.take i)) ∧ Kp [] H H') ⟨[], upd_same .., trivial, Kp.new hD⟩ (fun i H' _ ⟨_, _, _, k⟩ => SqT.of (k.at hpf (by simp))) ?_ ?_
  · rintro i v H' hv ⟨vb, h1, ab, k⟩
    obtain ⟨r, hr0, hrow⟩ := avf.get hv
    have hrow := hrow.keep k
    have hi : i < 40 := by
      have := (List.getElem?_eq_some_iff.mp hr0).1
      omega
    have hlb : vb.length < sizeLine := by
      rw [ab.length]
      unfold boxR
      have := List.length_filterMap_le FRow.box? (Fl.take i)
      rw [List.length_take] at this
      exact Nat.lt_of_le_of_lt (show _ ≤ 40 by omega) (by decide)
    rw [take_snoc hr0, boxR_snoc]
    have kD : ∀ u, Kp [D] H' (upd H' D (.lst (vb ++ [u]))) := fun u => Kp.put h1 (by simp)
    cases r with
    | box p w c k' e =>
      obtain ⟨a, u, rfl, ha, hu⟩ := hrow
      exact ⟨rfl, _, rfl, a, _, _, .str "box", rfl, rfl, SqT.of ha, atI_nat (j := 0) rfl, rfl, _, rfl, iteT ⟨_, rfl, vb, h1, hlb, _, upd_same .., (ab.imp fun _ _ z => z.keep (kD _)).snoc ⟨a, u, rfl, (kD _).tup ha, hu.keep (kD _)⟩, k.fresh hD⟩⟩
    | inr p w c =>
      obtain ⟨a, rfl, ha⟩ := hrow
      exact ⟨rfl, _, rfl, a, _, _, .str "in", rfl, rfl, SqT.of ha, atI_nat (j := 0) rfl, rfl, _, rfl, iteF ⟨vb, h1, by simpa using ab, k⟩⟩
    | wire p w e =>
      obtain ⟨a, u, rfl, ha, _⟩ := hrow
      exact ⟨rfl, _, rfl, a, _, _, .str "wire", rfl, rfl, SqT.of ha, atI_nat (j := 0) rfl, rfl, _, rfl, iteF ⟨vb, h1, by simpa using ab, k⟩⟩
    | out p w e =>
      obtain ⟨a, u, rfl, ha, _⟩ := hrow
      exact ⟨rfl, _, rfl, a, _, _, .str "out", rfl, rfl, SqT.of ha, atI_nat (j := 0) rfl, rfl, _, rfl, iteF ⟨vb, h1, by simpa using ab, k⟩⟩
  rintro H1 ⟨vb, hD1, ab, k1⟩
  rw [avf.length, List.take_length] at ab
  have hB1 := hB.keep k1
  have hps1 := k1.at hps (by simp)
  have hpc1 := k1.at hpc (by simp)
  have hn1 : (boxR Fl).length = vb.length := ab.length.symm
  have hn2 : (boxR Fl).length = (St.map V.int).length := by rw [List.length_map]; exact hS.1.symm
  obtain ⟨tps, htp⟩ := tab_tbl hB.tab
  obtain ⟨kk0, hkk0⟩ := hB.pkd
  have nDPt : D ≠ Pt := fun e => by rw [e, htp] at hD; cases hD
  have nDpk : D ≠ b.pk := fun e => by rw [e, hkk0] at hD; cases hD
  -- what is behind
  refine ⟨_, rfl, _, rfl, D, ps, vb, _, rfl, SqL.of hD1, SqT.of hps1, fun D2 hD2 => ?_⟩
  have nD2Pt : D2 ≠ Pt := fun e => by rw [e, k1.at htp (by simp)] at hD2; cases hD2
  have nD2pk : D2 ≠ b.pk := fun e => by rw [e, k1.at hkk0 (by simp)] at hD2; cases hD2
  have nD2D : D ≠ D2 := ne_of_none hD1 hD2
  refine lc_it (walk_zs (K := K) (a := D) (b := ps) (xs := vb) (ys := St.map V.int) hn1 hn2) (fun i H' => H' D2 = some (.lst ((nextS (Fl) wd V' St cl).take i |>.map V.int)) ∧ BtS C Pt Fl wd V' b H' ∧ Kp [Pt, b.pk] H1 H') ⟨?_, hB1.keep (Kp.new hD2), Kp.new hD2⟩ (fun i H' _ ⟨_, _, k⟩ => ⟨SqL.of (k.at hD1 (by simp [nDPt, nDpk])), SqT.of (k.tup hps1)⟩) ?_ ?_
  · rw [upd_same]; rfl
  · rintro i x Ha Hb hi ⟨h1, hBa, ka⟩ ⟨Tp, x1, x2, rfl, hTp, rfl, hx1, hx2⟩
    obtain ⟨q, hq, hrow⟩ := ab.get hx1
    have hsx : ∃ s, St[i]? = some s ∧ x2 = .int s := by
      have hx2' : (St.map V.int)[i]? = some x2 := hx2
      rw [List.getElem?_map] at hx2'
      obtain ⟨s, e1, e2⟩ := Option.map_eq_some_iff.mp hx2'
      exact ⟨s, e1, e2.symm⟩
    obtain ⟨s, hs, rfl⟩ := hsx
    have kT : Kp [] Ha (upd Ha Tp (.tup [x1, .int s])) := Kp.new hTp
    have gT : upd Ha Tp (.tup [x1, .int s]) Tp = some (.tup [x1, .int s]) := upd_same ..
    have h1T := kT.at h1 (by simp)
    generalize upd Ha Tp (.tup [x1, .int s]) = Hb at kT gT h1T
    have hBb := hBa.keep kT
    have kb := ka.trans kT.up
    obtain ⟨a, u, rfl, ha, hu⟩ := hrow.keep kb
    have hnext : (nextS Fl wd V' St cl)[i]? = some (if q.2.2.1 ∈ cl then q.2.2.2.2.ev wd V' else s) := by
      unfold nextS
      rw [List.getElem?_map, show ((boxR Fl).zip St)[i]? = some (q, s) from by rw [List.getElem?_zip_eq_some]; exact ⟨hq, hs⟩]
      rfl
    have hmem := mem_boxR.mp (List.mem_of_getElem? hq)
    have hlt : i < 40 := by
      have h3 : (boxR Fl).length ≤ Fl.length := List.length_filterMap_le ..
      omega
    have fin : ∀ (Hc : Hp), BtS C Pt Fl wd V' b Hc → Kp [Pt, b.pk] Hb Hc → ∃ acc, Hc D2 = some (.lst acc) ∧ acc.length < sizeLine ∧ upd Hc D2 (.lst (acc ++ [.int (if q.2.2.1 ∈ cl then q.2.2.2.2.ev wd V' else s)])) D2 = some (.lst (((nextS Fl wd V' St cl).take (i + 1)).map V.int)) ∧ BtS C Pt Fl wd V' b (upd Hc D2 (.lst (acc ++ [.int (if q.2.2.1 ∈ cl then q.2.2.2.2.ev wd V' else s)]))) ∧ Kp [Pt, b.pk] H1 (upd Hc D2 (.lst (acc ++ [.int (if q.2.2.1 ∈ cl then q.2.2.2.2.ev wd V' else s)]))) := fun Hc hBc kc => by
      have h1c := kc.at h1T (by simp [nD2Pt, nD2pk])
      refine ⟨_, h1c, ?_, ?_, hBc.lst h1c (Kp.put h1c (by simp)), (kb.trans kc).fresh hD2⟩
      · rw [List.length_map, List.length_take]
        exact Nat.lt_of_le_of_lt (show _ ≤ 40 by omega) (by decide)
      · rw [upd_same, take_snoc hnext, List.map_append]; rfl
    refine ⟨Tp, _, rfl, SqT.of gT, rfl, _, _, rfl, _, _, rfl, rfl, rfl, yesT ⟨_, rfl, a, _, _, .str q.2.2.1, rfl, rfl, SqT.of ha, atI_nat (j := 3) rfl, _, rfl, pc, _, rfl, .inr (SqT.of (kb.tup hpc1)), rfl, flat_strs, _, rfl, ?_⟩⟩
    rw [inV_str]
    obtain ⟨g1, g2, g3⟩ := fo.box _ _ _ _ _ hmem
    by_cases hc : q.2.2.1 ∈ cl
    · rw [show (if false = true then !decide (q.2.2.1 ∈ cl) else decide (q.2.2.1 ∈ cl)) = true from by simp [hc]]
      rw [if_pos hc] at fin
      obtain ⟨dx, kw, ku, kk, kn, bst, wo, npw, npu⟩ := hBb
      obtain ⟨tps', htp'⟩ := tab_tbl bst.tab
      refine iteT ⟨_, rfl, b.z, dx, _, rfl, bst.obj, rfl, _, rfl, a, _, _, u, rfl, rfl, SqT.of ha, atI_nat (j := 5) rfl, ?_⟩
      refine ⟨b.z, u, q.2.2.2.2, q.2.1, kw, b.pw, dx, _, [Pt, b.pk], _, V', _, wd, rfl, hu, g1, bst.obj, rfl, bst.hw, ?_, vcF fo so wo npw npu, ⟨kk, kn, bst⟩, fun x hx => mem_bu ?_, fr_wr so wo g2, fun H5 j5 k5 => ?_⟩
      · simp only [List.mem_cons, List.not_mem_nil, or_false, not_or]
        exact ⟨(fun e => by have := bst.hw; rw [e, htp'] at this; cases this), npw⟩
      · obtain ⟨u', hu'⟩ := g2.mem x hx
        exact hu'.1
      · obtain ⟨kk5, kn5, b5⟩ := j5
        exact fin H5 ⟨dx, kw, ku, kk5, kn5, b5, wo, npw, npu⟩ (k5.mono (by simp))
    · rw [show (if false = true then !decide (q.2.2.1 ∈ cl) else decide (q.2.2.1 ∈ cl)) = false from by simp [hc]]
      rw [if_neg hc] at fin
      exact iteF ⟨_, rfl, fin _ hBb (Kp.refl _ _)⟩
  · rintro H2 ⟨h1, hB2, k2⟩
    have hnl : (nextS Fl wd V' St cl).length = (boxR Fl).length := by unfold nextS; rw [List.length_map, List.length_zip, hS.1, Nat.min_self]
    rw [List.take_of_length_le (by omega)] at h1
    exact ⟨D2, _, rfl, .inl ⟨SqL.of h1, fun t ht => hQ t _ (upd_same ..) (hB2.keep (Kp.new ht)) (((k1.up.trans k2)).step ht)⟩⟩
end
end WT

set_option Elab.async false
set_option linter.all false
set_option maxRecDepth 100000
set_option maxHeartbeats 8000000
/-! beats_gone. -/
namespace WT
open PySem PySem.Spec PyProof.Rows L2
def IsBt (H : Hp) (v : V) (x : List Str × List Int) : Prop := ∃ a q r, v = .ref a ∧ H a = some (.tup [.ref q, .ref r]) ∧ H q = some (.tup (x.1.map V.str)) ∧ H r = some (.tup (x.2.map V.int))
theorem IsBt.keep {l : List Addr} {H H' : Hp} (k : Kp l H H') {v : V} {x : List Str × List Int} (h : IsBt H v x) : IsBt H' v x := let ⟨a, q, r, h1, h2, h3, h4⟩ := h; ⟨a, q, r, h1, k.tup h2, k.tup h3, k.tup h4⟩
abbrev BeatsT (H : Hp) (p : Addr) (bs : Beats) : Prop := ∃ vs, H p = some (.tup vs) ∧ AllV (IsBt H) vs bs
theorem BeatsT.keep {l : List Addr} {H H' : Hp} {p : Addr} {bs : Beats} (h : BeatsT H p bs) (k : Kp l H H') : BeatsT H' p bs := let ⟨vs, a, b⟩ := h; ⟨vs, k.tup a, b.imp fun _ _ z => z.keep k⟩
def goS (F : List FRow) (wd : Str → Nat) : List Int → Beats → List Int
  | S, [] => S
  | S, b :: bs => goS F wd (nextS F wd (solV F wd S b.2) S b.1) bs
theorem goS_snoc {F : List FRow} {wd : Str → Nat} : ∀ {bs : Beats} {S : List Int} {b : List Str × List Int}, goS F wd S (bs ++ [b]) = nextS F wd (solV F wd (goS F wd S bs) b.2) (goS F wd S bs) b.1
  | [], _, _ => rfl
  | _ :: bs, _, _ => goS_snoc (bs := bs)
theorem stands_snoc {F : List FRow} {wd : Str → Nat} : ∀ {bs : Beats} {S : List Int} {b : List Str × List Int}, stands F wd S (bs ++ [b]) = stands F wd S bs ++ [(goS F wd S bs, b.2)]
  | [], _, _ => rfl
  | _ :: bs, S, b => congrArg _ (stands_snoc (bs := bs))
theorem Vs_snoc {F : List FRow} {wd : Str → Nat} {bs : Beats} {b : List Str × List Int} : Vs F wd (bs ++ [b]) = Vs F wd bs ++ [solV F wd (goS F wd (init0 F) bs) b.2] := by
  unfold Vs
  rw [stands_snoc, List.map_append]
  rfl
theorem Vs_len {F : List FRow} {wd : Str → Nat} : ∀ {bs : Beats} {S : List Int}, (stands F wd S bs).length = bs.length
  | [], _ => rfl
  | _ :: bs, _ => congrArg (· + 1) (Vs_len (bs := bs))
theorem go_ok {F : List FRow} {wd rk : Str → Nat} (fo : FlatOk F wd rk) : ∀ {bs : Beats} {S : List Int}, StOk F S → (∀ x ∈ bs, InsOk F x.2) → StOk F (goS F wd S bs)
  | [], _, h, _ => h
  | b :: bs, S, h, hi => go_ok fo (bs := bs) (st_next fo (sol_ok fo h (hi b List.mem_cons_self)) h) fun x hx => hi x (List.mem_cons_of_mem _ hx)
abbrev s_beats_gone : Stmt := topS 12
abbrev N_beats_gone : List Str := ["flat", "beats", "standing", "found", "clocks", "ins", "beat"]
abbrev P_beats_gone : List Str := ["flat", "beats"]
theorem sc_beats_gone : FnScope N_beats_gone P_beats_gone (defScope s_beats_gone) := ⟨rfl, rfl, rfl, by decide +kernel, rfl, by decide +kernel, by decide +kernel⟩
def spGone (C Pt : Addr) : Sp := fun vs H Q _ => ∃ (pf pb : Addr) (F : List FRow) (wd rk : Str → Nat) (bs : Beats), vs = [.ref pf, .ref pb] ∧ Flat H pf F ∧ BeatsT H pb bs ∧ FlatOk F wd rk ∧ (∀ x ∈ bs, InsOk F x.2) ∧ bs.length ≤ 100 ∧ LamX.TabS H Pt qlB ∧
  ∀ (p : Addr) (zs : List B4) H', H' p = some (.lst (zs.map fun b => V.ref b.z)) → H p = none → (∀ b ∈ zs, H b.pk = none) → Bts C Pt F wd zs (Vs F wd bs) H' → LamX.TabS H' Pt qlB → Kp [Pt] H H' → Q (.ref p) H'
section
variable {P : Program} {w : World} {K : PySem.W.Frag} {mg : Str → Option Value} {base : Heap} {C Pt c f0 : Addr}
theorem cal_gone (S : Std K mg "beats_gone" s_beats_gone) (T : Frees mg) (cf : Cal P w K mg base "first_standing" 1 P_first_standing spFirst) (ct : Cal P w K mg base "taken" 13 P_taken (spTaken C Pt)) (ci : CalM P w K mg base C "__init__" 2 P_beat___init__ (spInit C Pt)) (M_B : ∀ f, Meth K C "__init__" f → Mk K C f) (m_Beat : mg "Beat" = some (.ref C)) :
    Cal P w K mg base "beats_gone" 14 P_beats_gone (spGone C Pt) := by
  obtain ⟨f, fd, F, m⟩ := S
  obtain ⟨ff, df, G_first_standing, m_first_standing, k_first_standing, b_first_standing⟩ := cf
  obtain ⟨ft, dt, G_taken, m_taken, k_taken, b_taken⟩ := ct
  obtain ⟨fi, di, G_init, m_init, b_init⟩ := ci
  have M_Beat := M_B fi m_init
  refine ⟨f, fd, ?_, m, F.kp, F.bindsN fun _ _ _ _ _ _ us hl => match us, hl with | [_, _], _ => rfl⟩
  have sc := sc_beats_gone
  refine F.ok sc (fun vs H Q E h => by obtain ⟨_, _, _, _, _, _, rfl, _⟩ := h; rfl) fun cdv A outer s H vs Q E hr h => ⟨_, PSs.nox (pss_cons (ps_set (i := 2) sc.nd rfl (Or.inl rfl) (pe_call G_first_standing (hr.mono (by decide)) rfl m_first_standing k_first_standing b_first_standing .nil pass0 (pa_cons (pv 0) pa_nil)))
 (pss_cons (ps_set (i := 3) sc.nd rfl (Or.inl rfl) (pe_lst pa_nil))
 (pss_cons (ps_for PassesOwn.never rfl (PI.toK (t' := iTup K _) (pi_tup (pv 1))) (PG.toK (t' := gTup K 2 _) (pg_tup rfl (pgs_cons (pg_name (i := 4) sc.nd rfl (Or.inl rfl)) (pgs_cons (pg_name (i := 5) sc.nd rfl (Or.inl rfl)) pgs_nil))))
 (pss_cons (ps_set (i := 6) sc.nd rfl (Or.inl rfl) (pe_make M_Beat G_init (hr.mono (by decide)) rfl m_Beat b_init .nil pass0 (pa_cons (pv 0) (pa_cons (pv 2) (pa_cons (pv 5) pa_nil)))))
 (pss_cons (ps_expr (PE.toK (t' := tBM K _ _ _ _) (pe_bm PySem.F.plainAttrs_list PySem.F.slot_list_append PySem.F.type_list_append mt_append (pv 3) (pa_cons (pv 6) pa_nil))))
 (pss_one (ps_set (i := 2) sc.nd rfl (Or.inl rfl) (pe_call G_taken (hr.mono (by decide)) rfl m_taken k_taken b_taken .nil pass0 (pa_cons (pv 0) (pa_cons (pv 6) (pa_cons (pv 2) (pa_cons (pv 4) pa_nil))))))))))
 (pss_one (ps_ret (pv 3)))))), ?_⟩
  obtain ⟨pf, pb, Fl, wd, rk, bs, rfl, hF, ⟨vb, hpb, avb⟩, fo, hI, hbl, hT, hQ⟩ := h
  have hlen := fo.len
  refine ⟨_, rfl, pf, Fl, rfl, hF, by omega, fun ps H1 hps k1 => ⟨(by show 0 ≤ sizeLine; decide), fun pd hpd => ?_⟩⟩
  have k2 := k1.step (o := .lst []) hpd
  have gd : upd H1 pd (.lst []) pd = some (.lst []) := upd_same ..
  have hps2 : upd H1 pd (.lst []) ps = _ := (Kp.new (l := []) hpd).at hps (by simp)
  have hpdH : H pd = none := k1.free hpd (by simp)
  generalize upd H1 pd (.lst []) = H2 at k2 gd hps2
  have st0 := st_init fo
  refine ⟨_, rfl, pb, rfl, ⟨_, SqT.of (k2.tup hpb)⟩, ?_⟩
  refine for_tup (xs := vb) (fun i σ H' => ∃ (v4 v5 v6 : Option V) (ps : Addr) (zs : List B4), σ = [some (.ref pf), some (.ref pb), some (.ref ps), some (.ref pd), v4, v5, v6] ∧ H' ps = some (.tup ((goS Fl wd (init0 Fl) (bs.take i)).map V.int)) ∧ H' pd = some (.lst (zs.map fun b => V.ref b.z)) ∧ Bts C Pt Fl wd zs (Vs Fl wd (bs.take i)) H' ∧ zs.length = i ∧ LamX.TabS H' Pt qlB ∧ Kp [Pt] H H' ∧ ∀ b ∈ zs, H b.pk = none)
    ⟨_, _, _, ps, [], rfl, hps2, gd, ⟨rfl, (fun j b V h => by simp at h), (fun i j b b' h => by simp at h)⟩, rfl, tab_keep hT k2, k2.up, by simp⟩ (fun i σ H' _ ⟨_, _, _, _, _, _, _, _, _, _, _, k, _⟩ => SqT.of (k.tup hpb)) ?_ ?_
  · rintro i v σ Ha hv ⟨v4, v5, v6, psa, zs, rfl, hpsa, hda, hBa, hzl, hTa, ka, hza⟩
    obtain ⟨x, hx, a, q, r, rfl, ha, hq, hr'⟩ := avb.get hv
    have hi : i < 100 := by
      have := (List.getElem?_eq_some_iff.mp hx).1
      omega
    have hxm := List.mem_of_getElem? hx
    have hSok : StOk Fl (goS Fl wd (init0 Fl) (bs.take i)) := go_ok fo st0 fun y hy => hI y (List.mem_of_mem_take hy)
    rw [take_snoc hx, goS_snoc, Vs_snoc]
    generalize goS Fl wd (init0 Fl) (bs.take i) = Sa at hpsa hSok
    refine ⟨a, _, rfl, SqT.of (ka.tup ha), rfl, _, _, rfl, _, _, rfl, rfl, ?_⟩
    refine ⟨_, rfl, _, rfl, _, rfl, fun z dz hz hdz hne => ?_⟩
    have kz : Kp [] Ha (upd (upd Ha dz (.own z)) z (.ins C dz [])) := (Kp.new hdz).step (by rw [upd_ne (Ne.symm hne)]; exact hz)
    have gz : upd (upd Ha dz (.own z)) z (.ins C dz []) z = some (.ins C dz []) := upd_same ..
    generalize upd (upd Ha dz (.own z)) z (.ins C dz []) = Hb at kz gz
    have kab := ka.trans kz.up
    refine ⟨z, dz, pf, psa, r, Fl, wd, rk, Sa, x.2, rfl, gz, hF.keep kab, fo, hSok, hI x hxm, kz.tup hpsa, kab.tup hr', tab_keep hTa kz, fun b Hc hbz hpw hpu hpk kc hbst => ⟨rfl, ?_⟩⟩
    have kac : Kp [] Ha Hc := fun p o e n => kc p o (kz p o e n) fun hp => by rw [List.mem_singleton.mp hp, hz] at e; cases e
    have hBc := hBa.keep kac
    have hdc := kac.at hda (by simp)
    have hTc := hbst.tab
    have kfc := ka.trans kac.up
    -- appended
    refine ⟨_, rfl, .inl ⟨rfl, _, SqL.of hdc⟩, _, rfl, pd, _, _, rfl, rfl, hdc, Nat.lt_of_le_of_lt (show _ ≤ 100 by rw [List.length_map]; omega) (by decide), ?_⟩
    generalize hHd : upd Hc pd _ = Hd
    have kd : Kp [pd] Hc Hd := by rw [← hHd]; exact Kp.put hdc (by simp)
    have gdd : Hd pd = some (.lst ((zs ++ [b]).map fun b => V.ref b.z)) := by rw [← hHd, upd_same, List.map_append, List.map_singleton, hbz]
    have hTd := tab_lst hTc hdc kd
    have hbd := hbst.lst hdc kd
    have hBd := hBc.lst hdc kd
    have kfd : Kp [Pt] H Hd := by rw [← hHd]; exact kfc.off hpdH hdc
    clear hHd
    have hpsd := kd.tup (kac.tup hpsa)
    -- what they hold behind it
    have so : Sol Fl wd (solV Fl wd Sa x.2) := sol_ok fo hSok (hI x hxm)
    rw [← hbz]
    refine ⟨_, rfl, _, rfl, _, rfl, _, rfl, pf, psa, q, b, Fl, wd, rk, solV Fl wd Sa x.2, Sa, x.1, rfl, hF.keep kfd, fo, so, hSok, hbd, hpsd, kfd.tup hq, fun p He hp hbe ke => ?_⟩
    obtain ⟨tps, htp⟩ := tab_tbl hTd
    obtain ⟨kkb, hkkb⟩ := hbd.pkd
    have hgz : ∀ {p : Addr} {o : HO}, Ha p = some o → Hb p = some o := fun e => kz.at e (by simp)
    have nw : ∀ {p p' : Addr} {o : HO}, Ha p = some o → Hb p' = none → p ≠ p' := fun e e' => ne_of_none (hgz e) e'
    have hpkH : H b.pk = none := by
      have h1 : Ha b.pk = none := kz.free hpk (by simp)
      refine ka.free h1 ?_
      obtain ⟨ps0, h0⟩ := tab_tbl hTa
      intro e
      rw [List.mem_singleton.mp e, h0] at h1
      cases h1
    refine ⟨_, _, _, p, zs ++ [b], rfl, hp, ?_, ?_, by simp [hzl], hbe.tab, ?_, fun b' hb' => by
      rcases List.mem_append.mp hb' with q | q
      · exact hza b' q
      · rw [List.mem_singleton.mp q]; exact hpkH⟩
    · refine ke.at gdd ?_
      simp only [List.mem_cons, List.not_mem_nil, or_false, not_or]
      exact ⟨(fun e => by rw [← e, gdd] at htp; cases htp), (fun e => by rw [← e, gdd] at hkkb; cases hkkb)⟩
    · refine Bts.snoc ?_ hbe fun b' hb' => ?_
      · refine ⟨hBd.len, fun j b' V' g1 g2 => ?_, hBd.ap⟩
        obtain ⟨kw', hw'⟩ := (hBa.st j b' V' g1 g2).pwd
        obtain ⟨ku', hu'⟩ := (hBa.st j b' V' g1 g2).pud
        obtain ⟨kk', hk'⟩ := (hBa.st j b' V' g1 g2).pkd
        exact (hBd.st j b' V' g1 g2).other hkkb (nw hw' hpk) (nw hu' hpk) (nw hk' hpk) ke hbe.tab
      · obtain ⟨j, hj⟩ := List.getElem?_of_mem hb'
        have hjl := (List.getElem?_eq_some_iff.mp hj).1
        have hV : (Vs Fl wd (bs.take i))[j]? = some ((Vs Fl wd (bs.take i))[j]'(by rw [← hBa.len]; exact hjl)) := List.getElem?_eq_getElem _
        obtain ⟨kw', hw'⟩ := (hBa.st j b' _ hj hV).pwd
        obtain ⟨ku', hu'⟩ := (hBa.st j b' _ hj hV).pud
        obtain ⟨kk', hk'⟩ := (hBa.st j b' _ hj hV).pkd
        exact ⟨nw hw' hpk, nw hu' hpk, nw hk' hpk, Ne.symm (nw hk' hpw), Ne.symm (nw hk' hpu)⟩
    · exact Kp.drop kfd (p := b.pk) hpkH (ke.mono (by simp))
  · rintro σ Ha ⟨v4, v5, v6, psa, zs, rfl, hpsa, hda, hBa, hzl, hTa, ka, hza⟩
    have e : vb.length = bs.length := avb.length
    rw [e, List.take_length] at hBa
    exact ⟨_, rfl, hQ pd zs Ha hda hpdH hza hBa hTa ka⟩
end
end WT

set_option Elab.async false
set_option linter.all false
set_option maxRecDepth 100000
set_option maxHeartbeats 8000000
/-! told, wave_of. -/
namespace WT
open PySem PySem.Spec PyProof.Rows L2
theorem Vs_sol {F : List FRow} {wd rk : Str → Nat} (fo : FlatOk F wd rk) : ∀ {bs : Beats} {S : List Int}, StOk F S → (∀ x ∈ bs, InsOk F x.2) → ∀ q ∈ stands F wd S bs, Sol F wd (solV F wd q.1 q.2)
  | [], _, _, _, _, h => by cases h
  | b :: bs, S, h, hi, q, hq => by
    rcases List.mem_cons.mp hq with e | e
    · subst e
      exact sol_ok fo h (hi b List.mem_cons_self)
    · exact Vs_sol fo (st_next fo (sol_ok fo h (hi b List.mem_cons_self)) h) (fun x hx => hi x (List.mem_cons_of_mem _ hx)) q e
theorem Vs_solV {F : List FRow} {wd rk : Str → Nat} (fo : FlatOk F wd rk) {bs : Beats} (hi : ∀ x ∈ bs, InsOk F x.2) {V : Str → Int} (hV : V ∈ Vs F wd bs) : Sol F wd V := by
  obtain ⟨q, hq, rfl⟩ := List.mem_map.mp hV
  exact Vs_sol fo (st_init fo) hi q hq
theorem Vs_length {F : List FRow} {wd : Str → Nat} {bs : Beats} : (Vs F wd bs).length = bs.length := by
  unfold Vs
  rw [List.length_map, Vs_len]
abbrev s_wave_of : Stmt := topS 14
abbrev N_wave_of : List Str := ["flat", "beats", "path", "row", "beat"]
abbrev P_wave_of : List Str := ["flat", "beats", "path"]
theorem sc_wave_of : FnScope N_wave_of P_wave_of (defScope s_wave_of) := ⟨rfl, rfl, rfl, by decide +kernel, rfl, by decide +kernel, by decide +kernel⟩
abbrev s_told : Stmt := topS 13
abbrev N_told : List Str := ["flat", "beats", "outs", "beat", "path"]
abbrev P_told : List Str := ["flat", "beats"]
theorem sc_told : FnScope N_told P_told (defScope s_told) := ⟨rfl, rfl, rfl, by decide +kernel, rfl, by decide +kernel, by decide +kernel⟩
def spWave (C Pt : Addr) : Sp := fun vs H Q _ => ∃ (pf pb : Addr) (x : Str) (F : List FRow) (wd rk : Str → Nat) (bs : Beats), vs = [.ref pf, .ref pb, .str x] ∧ Flat H pf F ∧ BeatsT H pb bs ∧ FlatOk F wd rk ∧ (∀ x ∈ bs, InsOk F x.2) ∧ bs.length ≤ 100 ∧ LamX.TabS H Pt qlB ∧ x ∈ F.map FRow.path ∧
  ∀ (p : Addr) H', H' p = some (.tup (((Vs F wd bs).map fun V => V x).map V.int)) → LamX.TabS H' Pt qlB → Kp [Pt] H H' → Q (.ref p) H'
/-- a tuple of ints -/
def IsInts (H : Hp) (v : V) (l : List Int) : Prop := ∃ a, v = .ref a ∧ H a = some (.tup (l.map V.int))
theorem IsInts.keep {l : List Addr} {H H' : Hp} (k : Kp l H H') {v : V} {x : List Int} (h : IsInts H v x) : IsInts H' v x := let ⟨a, h1, h2⟩ := h; ⟨a, h1, k.tup h2⟩
def spTold (C Pt : Addr) : Sp := fun vs H Q _ => ∃ (pf pb : Addr) (F : List FRow) (wd rk : Str → Nat) (bs : Beats), vs = [.ref pf, .ref pb] ∧ Flat H pf F ∧ BeatsT H pb bs ∧ FlatOk F wd rk ∧ (∀ x ∈ bs, InsOk F x.2) ∧ bs.length ≤ 100 ∧ LamX.TabS H Pt qlB ∧
  ∀ (p : Addr) us H', H' p = some (.tup us) → AllV (IsInts H') us ((Vs F wd bs).map fun V => (outsP F).map V) → LamX.TabS H' Pt qlB → Kp [Pt] H H' → Q (.ref p) H'
theorem memK_path {F : List FRow} {x : Str} (h : x ∈ F.map FRow.path) : memK (F.map fun r => (Sum.inr r.path : Key)) (Sum.inr x) = true := by
  obtain ⟨r, hr, rfl⟩ := List.mem_map.mp h
  exact List.any_eq_true.mpr ⟨_, List.mem_map.mpr ⟨r, hr, rfl⟩, by simp⟩
section
variable {P : Program} {w : World} {K : PySem.W.Frag} {mg : Str → Option Value} {base : Heap} {C Pt c f0 : Addr}
theorem cal_wave (S : Std K mg "wave_of" s_wave_of) (T : Frees mg) (cg : Cal P w K mg base "beats_gone" 14 P_beats_gone (spGone C Pt)) (cv : CalM P w K mg base C "value" 7 P_beat_value (spVal C Pt)) (cBeat : Cls K C) : Cal P w K mg base "wave_of" 15 P_wave_of (spWave C Pt) := by
  obtain ⟨f, fd, F, m⟩ := S
  obtain ⟨fg, dg, G_beats_gone, m_beats_gone, k_beats_gone, b_beats_gone⟩ := cg
  obtain ⟨fv, dv, G_value, m_value, b_value⟩ := cv
  refine ⟨f, fd, ?_, m, F.kp, F.bindsN fun _ _ _ _ _ _ us hl => match us, hl with | [_, _, _], _ => rfl⟩
  have sc := sc_wave_of
  refine F.ok sc (fun vs H Q E h => by obtain ⟨_, _, _, _, _, _, _, rfl, _⟩ := h; rfl) fun cdv A outer s H vs Q E hr h => ⟨_, PSs.nox (pss_cons (ps_if (PW.pt (pw_or (pt_not (pt_val (pe_callB (cIsi K) rfl T.isinstance (by decide +kernel) (pa_cons (pv 2) (pa_cons (pe_bltn (v := .ty "str") rfl T.str (by decide +kernel) rfl) pa_nil))))) (pw_or1 (pt_cmpR or_snotinK (pv 2) (pe_sk (own := [("row", 3)]) rfl sc.nd (PI.toK (t' := iTup K _) (pi_tup (pv 0))) (blkOk_by (N := N_wave_of) (sc := defScope s_wave_of) (by decide +kernel)) (fun _ _ _ _ _ => (pg_name (i := 3) sc.nd rfl (Or.inl rfl))) (fun _ _ _ _ _ => (pe_ix (ixt K) (pv 3) pe_int (fun _ _ => rfl)))) (by rfl))))) (pss_one (ps_never)) pss_nil)
 (pss_one (ps_ret (pe_callTy (cTup K) rfl T.tuple (by decide +kernel) (pa_cons (pe_lc (own := [("beat", 4)]) rfl sc.nd (PI.toK (t' := iList K _) (pi_list (pe_call G_beats_gone (hr.mono (by decide)) rfl m_beats_gone k_beats_gone b_beats_gone .nil pass0 (pa_cons (pv 0) (pa_cons (pv 1) pa_nil))))) (blkOk_by (N := N_wave_of) (sc := defScope s_wave_of) (by decide +kernel)) (fun _ _ _ _ _ => (pg_name (i := 4) sc.nd rfl (Or.inl rfl))) (fun _ _ _ _ _ => pts_nil) (fun _ _ _ _ _ => (pe_meth (pv 4) cBeat (m_value) G_value (hr.mono (by decide)) b_value .nil pass0 (pa_cons (pv 2) pa_nil)))) pa_nil))))), ?_⟩
  obtain ⟨pf, pb, x, Fl, wd, rk, bs, rfl, ⟨vf, hpf, avf⟩, hB, fo, hI, hbl, hT, hx, hQ⟩ := h
  have hlen := fo.len
  refine ⟨_, rfl, _, _, _, _, true, rfl, .ty _, .base (.str x), kit_ss K, _, rfl, ?_⟩
  refine iteF ⟨_, rfl, _, rfl, pf, rfl, ⟨_, SqT.of hpf⟩, fun D hD => ?_⟩
  refine sk_tup (Fl.map fun r => (Sum.inr r.path : Key)) (by rw [List.length_map]; exact avf.length.symm) (by rw [avf.length]; exact Nat.lt_of_le_of_lt (show _ ≤ 41 by omega) (by decide)) (SqT.of hpf) hD ?_ ?_
  · intro i v k H' hv hk sm N hN
    obtain ⟨r, hr0, hrow⟩ := avf.get hv
    obtain ⟨a, rest, rfl, ha⟩ := frow_head (hrow.keep (Same.kp [] sm))
    rw [List.getElem?_map, hr0] at hk
    obtain rfl := Option.some.inj hk
    exact ⟨rfl, _, rfl, a, _, _, .str r.path, rfl, rfl, SqT.of ha, atI_nat (j := 1) rfl, hN⟩
  rintro H1 n sm hoff hset
  have k1 : Kp [] H H1 := Same.kp [] sm
  refine ⟨Sum.inr x, D, _, n, rfl, rfl, hset, _, rfl, ?_⟩
  rw [show (if true = true then !memK (Fl.map fun r => (Sum.inr r.path : Key)) (Sum.inr x) else memK (Fl.map fun r => (Sum.inr r.path : Key)) (Sum.inr x)) = false from by rw [memK_path hx]; rfl]
  refine iteF ⟨_, rfl, _, rfl, pf, pb, Fl, wd, rk, bs, rfl, Flat.keep (H := H) ⟨vf, hpf, avf⟩ k1, hB.keep k1, fo, hI, hbl, tab_keep hT k1, fun p zs H2 hp hpn hzn hBs hT2 k2 => ?_⟩
  have kk2 : Kp [Pt] H H2 := k1.up.trans k2
  refine ⟨p, rfl, ⟨_, SqL.of hp⟩, fun D2 hD2 => ?_⟩
  have hzl : zs.length = bs.length := by rw [hBs.len, Vs_length]
  have hnzk : ∀ b ∈ zs, H b.pk = none := fun b hb => k1.free (hzn b hb) (by simp)
  refine lc_list (xs := zs.map fun b => V.ref b.z) (fun i H' => H' D2 = some (.lst ((((Vs Fl wd bs).take i).map fun V => V x).map V.int)) ∧ Bts C Pt Fl wd zs (Vs Fl wd bs) H' ∧ LamX.TabS H' Pt qlB ∧ Kp [Pt] H H' ∧ H' p = some (.lst (zs.map fun b => V.ref b.z)))
    ⟨upd_same .., hBs.keep (Kp.new hD2), tab_keep hT2 (Kp.new hD2), kk2.step hD2, (Kp.new (l := []) hD2).at hp (by simp)⟩ (fun i H' _ ⟨_, _, _, _, h⟩ => SqL.of h) ?_ ?_
  · rintro i v Ha hv ⟨h1, hBa, hTa, ka, hpa⟩
    rw [List.getElem?_map] at hv
    obtain ⟨b, hb, rfl⟩ := Option.map_eq_some_iff.mp hv
    have hbl' := (List.getElem?_eq_some_iff.mp hb).1
    have hVl : i < (Vs Fl wd bs).length := by rw [← hBs.len]; exact hbl'
    have hV := List.getElem?_eq_getElem hVl
    generalize (Vs Fl wd bs)[i] = V0 at hV
    have hBi := hBa.st i b V0 hb hV
    obtain ⟨dx, kw, ku, kk, kn, bst, wo, npw, npu⟩ := id hBi
    have so := Vs_solV fo hI (List.mem_of_getElem? hV)
    obtain ⟨tps, htp⟩ := tab_tbl hTa
    refine ⟨rfl, yesT ⟨_, rfl, b.z, dx, _, rfl, bst.obj, rfl, _, rfl, Fl, wd, rk, V0, b.z, dx, b.pw, b.pu, b.pk, kw, ku, kk, kn, x, rfl, fo, so, wo, mem_bu hx, npw, npu, bst, fun Hb kk' kn' bst' kb => ?_⟩⟩
    have off : ∀ {q : Addr} {l : List V}, Ha q = some (.lst l) → q ∉ [Pt, b.pk] := fun e => by
      simp only [List.mem_cons, List.not_mem_nil, or_false, not_or]
      exact ⟨(fun z => by rw [z, htp] at e; cases e), (fun z => by rw [z, bst.hk] at e; cases e)⟩
    have h1b := kb.at h1 (off h1)
    have hBb := hBa.turn hb hV kb ⟨dx, kw, ku, kk', kn', bst', wo, npw, npu⟩
    have kab : Kp [Pt] H Hb := Kp.drop ka (hnzk b (List.mem_of_getElem? hb)) (kb.mono (by simp))
    have nD2p : p ≠ D2 := ne_of_none hp hD2
    refine ⟨_, h1b, ?_, ?_, hBb.lst h1b (Kp.put h1b (by simp)), tab_lst bst'.tab h1b (Kp.put h1b (by simp)), ?_, ?_⟩
    · rw [List.length_map, List.length_map, List.length_take]
      rw [Vs_length]
      exact Nat.lt_of_le_of_lt (show _ ≤ 100 by omega) (by decide)
    · rw [upd_same, take_snoc hV, List.map_append, List.map_append]; rfl
    · have : H D2 = none := kk2.free hD2 (fun e => by
        obtain ⟨ps2, hp2⟩ := tab_tbl hT2
        rw [List.mem_singleton.mp e, hp2] at hD2
        cases hD2)
      exact kab.off this h1b
    · rw [upd_ne nD2p]
      exact kb.at hpa (off hpa)
  · rintro Ha ⟨h1, hBa, hTa, ka, hpa⟩
    rw [List.length_map, hBs.len, List.take_length] at h1
    exact ⟨D2, _, rfl, .inl ⟨SqL.of h1, fun t ht => hQ t _ (upd_same ..) (tab_keep hTa (Kp.new ht)) (ka.step ht)⟩⟩
end
end WT

set_option Elab.async false
set_option linter.all false
set_option maxRecDepth 100000
set_option maxHeartbeats 8000000
/-! told. -/
namespace WT
open PySem PySem.Spec PyProof.Rows L2
section
variable {P : Program} {w : World} {K : PySem.W.Frag} {mg : Str → Option Value} {base : Heap} {C Pt c f0 : Addr}
theorem cal_told (S : Std K mg "told" s_told) (T : Frees mg) (cp : Cal P w K mg base "paths_of" 1 P_paths_of spPathsOf) (cg : Cal P w K mg base "beats_gone" 14 P_beats_gone (spGone C Pt)) (cv : CalM P w K mg base C "value" 7 P_beat_value (spVal C Pt)) (cBeat : Cls K C) : Cal P w K mg base "told" 15 P_told (spTold C Pt) := by
  obtain ⟨f, fd, F, m⟩ := S
  obtain ⟨fp, dp, G_paths_of, m_paths_of, k_paths_of, b_paths_of⟩ := cp
  obtain ⟨fg, dg, G_beats_gone, m_beats_gone, k_beats_gone, b_beats_gone⟩ := cg
  obtain ⟨fv, dv, G_value, m_value, b_value⟩ := cv
  refine ⟨f, fd, ?_, m, F.kp, F.bindsN fun _ _ _ _ _ _ us hl => match us, hl with | [_, _], _ => rfl⟩
  have sc := sc_told
  refine F.ok sc (fun vs H Q E h => by obtain ⟨_, _, _, _, _, _, rfl, _⟩ := h; rfl) fun cdv A outer s H vs Q E hr h => ⟨_, PSs.nox (pss_cons (ps_set (i := 2) sc.nd rfl (Or.inr rfl) (pe_call G_paths_of (hr.mono (by decide)) rfl m_paths_of k_paths_of b_paths_of .nil pass0 (pa_cons (pv 0) (pa_cons pe_str pa_nil))))
 (pss_one (ps_ret (pe_callTy (cTup K) rfl T.tuple (by decide +kernel) (pa_cons (pe_lc (own := [("beat", 3)]) rfl sc.nd (PI.toK (t' := iList K _) (pi_list (pe_call G_beats_gone (hr.mono (by decide)) rfl m_beats_gone k_beats_gone b_beats_gone .nil pass0 (pa_cons (pv 0) (pa_cons (pv 1) pa_nil))))) (blkOk_by (N := N_told) (sc := defScope s_told) (by decide +kernel)) (fun _ _ _ _ _ => (pg_name (i := 3) sc.nd rfl (Or.inr rfl))) (fun _ _ _ _ _ => pts_nil) (fun _ _ _ _ _ => (pe_callTy (cTup K) rfl T.tuple (by decide +kernel) (pa_cons (pe_lc (own := [("path", 4)]) rfl sc.nd (PI.toK (t' := iList K _) (pi_list (pv 2))) (blkOk_by (N := N_told) (sc := ⟨.function, [(Str.ofString ".0", .local), (Str.ofString "beat", .cell), (Str.ofString "tuple", .globalImplicit), (Str.ofString "outs", .cell)], false, false, []⟩) (by decide +kernel)) (fun _ _ _ _ _ => (pg_name (i := 4) sc.nd rfl (Or.inl rfl))) (fun _ _ _ _ _ => pts_nil) (fun _ _ _ _ _ => (pe_meth (pv 3) cBeat (m_value) G_value (hr.mono (by decide)) b_value .nil pass0 (pa_cons (pv 4) pa_nil)))) pa_nil)))) pa_nil))))), ?_⟩
  obtain ⟨pf, pb, Fl, wd, rk, bs, rfl, hF, hB, fo, hI, hbl, hT, hQ⟩ := h
  have hlen := fo.len
  refine ⟨_, rfl, pf, "out", Fl, rfl, hF, by omega, fun po H1 hpo _ k1 => ?_⟩
  rw [pathsW_out] at hpo
  refine ⟨_, rfl, _, rfl, pf, pb, Fl, wd, rk, bs, rfl, hF.keep k1, hB.keep k1, fo, hI, hbl, tab_keep hT k1, fun p zs H2 hp hpn hzn hBs hT2 k2 => ?_⟩
  have kk2 : Kp [Pt] H H2 := k1.up.trans k2
  obtain ⟨tp0, htp0⟩ := tab_tbl hT
  have noPt : ∀ {q : Addr} {H' : Hp} {l : List V}, LamX.TabS H' Pt qlB → H' q = some (.lst l) → q ∉ [Pt] := fun t e z => by
    obtain ⟨ps, h⟩ := tab_tbl t
    rw [List.mem_singleton.mp z, h] at e
    cases e
  have noneH : ∀ {q : Addr} {H' : Hp}, LamX.TabS H' Pt qlB → H' q = none → q ∉ [Pt] := fun t e z => by
    obtain ⟨ps, h⟩ := tab_tbl t
    rw [List.mem_singleton.mp z, h] at e
    cases e
  have hpo2 := k2.at hpo (noPt (tab_keep hT k1) hpo)
  have hzl : zs.length = bs.length := by rw [hBs.len, Vs_length]
  have hnzk : ∀ b ∈ zs, H b.pk = none := fun b hb => k1.free (hzn b hb) (by simp)
  have hol : (outsP Fl).length ≤ 40 := Nat.le_trans (List.length_filterMap_le ..) hlen
  refine ⟨p, rfl, ⟨_, SqL.of hp⟩, fun D2 hD2 => ?_⟩
  have hD2H : H D2 = none := kk2.free hD2 (noneH hT2 hD2)
  have nD2p : p ≠ D2 := ne_of_none hp hD2
  have nD2o : po ≠ D2 := ne_of_none hpo2 hD2
  refine lc_list (xs := zs.map fun b => V.ref b.z) (fun i H' => ∃ us, H' D2 = some (.lst us) ∧ AllV (IsInts H') us (((Vs Fl wd bs).take i).map fun V => (outsP Fl).map V) ∧ Bts C Pt Fl wd zs (Vs Fl wd bs) H' ∧ LamX.TabS H' Pt qlB ∧ Kp [Pt] H H' ∧ H' p = some (.lst (zs.map fun b => V.ref b.z)) ∧ H' po = some (.lst ((outsP Fl).map V.str)))
    ⟨[], upd_same .., trivial, hBs.keep (Kp.new hD2), tab_keep hT2 (Kp.new hD2), kk2.step hD2, (Kp.new (l := []) hD2).at hp (by simp), (Kp.new (l := []) hD2).at hpo2 (by simp)⟩ (fun i H' _ ⟨_, _, _, _, _, _, h, _⟩ => SqL.of h) ?_ ?_
  · rintro i v Ha hv ⟨us, h1, aus, hBa, hTa, ka, hpa, hoa⟩
    rw [List.getElem?_map] at hv
    obtain ⟨b, hb, rfl⟩ := Option.map_eq_some_iff.mp hv
    have hbl' := (List.getElem?_eq_some_iff.mp hb).1
    have hVl : i < (Vs Fl wd bs).length := by rw [← hBs.len]; exact hbl'
    have hV := List.getElem?_eq_getElem hVl
    generalize (Vs Fl wd bs)[i] = V0 at hV
    have so := Vs_solV fo hI (List.mem_of_getElem? hV)
    refine ⟨rfl, yesT ⟨_, rfl, po, rfl, ⟨_, SqL.of hoa⟩, fun D3 hD3 => ?_⟩⟩
    have hD3H : H D3 = none := ka.free hD3 (noneH hTa hD3)
    have n32 : D2 ≠ D3 := ne_of_none h1 hD3
    have n3p : p ≠ D3 := ne_of_none hpa hD3
    have n3o : po ≠ D3 := ne_of_none hoa hD3
    refine lc_list (xs := (outsP Fl).map V.str) (fun j H' => H' D3 = some (.lst ((((outsP Fl).take j).map V0).map V.int)) ∧ H' D2 = some (.lst us) ∧ AllV (IsInts H') us (((Vs Fl wd bs).take i).map fun V => (outsP Fl).map V) ∧ Bts C Pt Fl wd zs (Vs Fl wd bs) H' ∧ LamX.TabS H' Pt qlB ∧ Kp [Pt] H H' ∧ H' p = some (.lst (zs.map fun b => V.ref b.z)) ∧ H' po = some (.lst ((outsP Fl).map V.str)))
      ⟨upd_same .., (Kp.new (l := []) hD3).at h1 (by simp), aus.imp fun _ _ z => z.keep (Kp.new (l := []) hD3), hBa.keep (Kp.new hD3), tab_keep hTa (Kp.new hD3), ka.step hD3, (Kp.new (l := []) hD3).at hpa (by simp), (Kp.new (l := []) hD3).at hoa (by simp)⟩ (fun i H' _ ⟨_, _, _, _, _, _, _, h⟩ => SqL.of h) ?_ ?_
    · rintro j v Hb hv ⟨g1, g2, g3, g4, g5, g6, g7, g8⟩
      rw [List.getElem?_map] at hv
      obtain ⟨x, hx, rfl⟩ := Option.map_eq_some_iff.mp hv
      have hxm : x ∈ Fl.map FRow.path := by
        obtain ⟨w, e, h⟩ := mem_outsP (List.mem_of_getElem? hx)
        exact List.mem_map.mpr ⟨_, h, rfl⟩
      have hj := (List.getElem?_eq_some_iff.mp hx).1
      have hBi := g4.st i b V0 hb hV
      obtain ⟨dx, kw, ku, kk, kn, bst, wo, npw, npu⟩ := id hBi
      obtain ⟨tps, htp⟩ := tab_tbl g5
      refine ⟨rfl, yesT ⟨_, rfl, b.z, dx, _, rfl, bst.obj, rfl, _, rfl, Fl, wd, rk, V0, b.z, dx, b.pw, b.pu, b.pk, kw, ku, kk, kn, x, rfl, fo, so, wo, mem_bu hxm, npw, npu, bst, fun Hc kk' kn' bst' kc => ?_⟩⟩
      have off : ∀ {q : Addr} {l : List V}, Hb q = some (.lst l) → q ∉ [Pt, b.pk] := fun e => by
        simp only [List.mem_cons, List.not_mem_nil, or_false, not_or]
        exact ⟨(fun z => by rw [z, htp] at e; cases e), (fun z => by rw [z, bst.hk] at e; cases e)⟩
      have h1c := kc.at g1 (off g1)
      have kD : Kp [D3] Hc (upd Hc D3 (.lst ((((outsP Fl).take j).map V0).map V.int ++ [.int (V0 x)]))) := Kp.put h1c (by simp)
      have hBc := g4.turn hb hV kc ⟨dx, kw, ku, kk', kn', bst', wo, npw, npu⟩
      have kac : Kp [Pt] H Hc := Kp.drop g6 (hnzk b (List.mem_of_getElem? hb)) (kc.mono (by simp))
      refine ⟨_, h1c, ?_, ?_, kD.at (kc.at g2 (off g2)) (by simpa using n32), (g3.imp fun _ _ z => z.keep kc).imp fun _ _ z => z.keep kD, hBc.lst h1c kD, tab_lst bst'.tab h1c kD, kac.off hD3H h1c, kD.at (kc.at g7 (off g7)) (by simpa using n3p), kD.at (kc.at g8 (off g8)) (by simpa using n3o)⟩
      · rw [List.length_map, List.length_map, List.length_take]
        exact Nat.lt_of_le_of_lt (show _ ≤ 40 by omega) (by decide)
      · rw [upd_same, take_snoc hx, List.map_append, List.map_append]; rfl
    · rintro Hb ⟨g1, g2, g3, g4, g5, g6, g7, g8⟩
      rw [List.length_map, List.take_length] at g1
      refine ⟨D3, _, rfl, .inl ⟨SqL.of g1, fun t ht => ?_⟩⟩
      have kt : Kp [] Hb (upd Hb t (.tup (((outsP Fl).map V0).map V.int))) := Kp.new ht
      have e2 := kt.at g2 (by simp)
      have gt : upd Hb t (.tup (((outsP Fl).map V0).map V.int)) t = _ := upd_same ..
      have e3 := g3.imp fun _ _ z => z.keep kt
      have e4 := g4.keep kt
      have e5 := tab_keep g5 kt
      have e6 := g6.trans kt.up
      have e7 := kt.at g7 (by simp)
      have e8 := kt.at g8 (by simp)
      generalize upd Hb t (.tup (((outsP Fl).map V0).map V.int)) = Hc at kt gt e2 e3 e4 e5 e6 e7 e8
      have kD : Kp [D2] Hc (upd Hc D2 (.lst (us ++ [.ref t]))) := Kp.put e2 (by simp)
      refine ⟨us, e2, ?_, us ++ [.ref t], upd_same .., ?_, e4.lst e2 kD, tab_lst e5 e2 kD, e6.off hD2H e2, kD.at e7 (by simpa using nD2p), kD.at e8 (by simpa using nD2o)⟩
      · rw [aus.length, List.length_map, List.length_take, Vs_length]
        exact Nat.lt_of_le_of_lt (show _ ≤ 100 by omega) (by decide)
      · rw [take_snoc hV, List.map_append]
        exact (e3.imp fun _ _ z => z.keep kD).snoc ⟨t, rfl, kD.tup gt⟩
  · rintro Ha ⟨us, h1, aus, hBa, hTa, ka, hpa, hoa⟩
    rw [List.length_map, hBs.len, List.take_length] at aus
    exact ⟨D2, _, rfl, .inl ⟨SqL.of h1, fun t ht => hQ t us _ (upd_same ..) (aus.imp fun _ _ z => z.keep (Kp.new (l := []) ht)) (tab_keep hTa (Kp.new ht)) (ka.step ht)⟩⟩
end
end WT

set_option Elab.async false
set_option linter.all false
set_option maxRecDepth 100000
set_option maxHeartbeats 4000000
/-! From the modules to the flat design, plainly. -/
namespace WT
open PySem PySem.Spec PyProof.Rows L2
theorem app_assoc' (a b c : Str) : (a ++ b) ++ c = a ++ (b ++ c) := congrArg Str.mk (Array.append_assoc ..)
theorem app_nil' (a : Str) : a ++ "" = a := congrArg Str.mk (Array.append_empty ..)
theorem str_of_list {a b : Str} (h : a.cps.toList = b.cps.toList) : a = b := by
  cases a; cases b
  exact congrArg Str.mk (Array.toList_inj.mp h)
theorem app_list (a b : Str) : (a ++ b).cps.toList = a.cps.toList ++ b.cps.toList := by
  show (a.cps ++ b.cps).toList = _
  simp
theorem app_len (a b : Str) : (a ++ b).length = a.length + b.length := by
  show (a.cps ++ b.cps).size = _
  rw [Array.size_append]
  rfl
theorem app_cancel {a b c : Str} (h : a ++ b = a ++ c) : b = c := by
  refine str_of_list ?_
  have := congrArg (fun s : Str => s.cps.toList) h
  simp only [app_list] at this
  exact List.append_cancel_left this
def strOk' (x : Str) : Bool := x.cps.all (· < 0x110000)
theorem strOk_app {a b : Str} (h1 : strOk' a = true) (h2 : strOk' b = true) : strOk' (a ++ b) = true := by
  unfold strOk' at *
  show (a.cps ++ b.cps).all (· < 0x110000) = true
  rw [Array.all_append, h1, h2]
  rfl
theorem plain_str {x : Str} (h : plain x = true) : strOk' x = true := (Bool.and_eq_true_iff.mp h).2
theorem plain_dot {x : Str} (h : plain x = true) : 46 ∉ x.cps.toList := by
  have := (Bool.and_eq_true_iff.mp (Bool.and_eq_true_iff.mp h).1).2
  simpa using this
def Under (ah x p : Str) : Prop := ∃ rest : Str, p = ah ++ (x ++ rest) ∧ (rest = "" ∨ ∃ t : Str, rest = "." ++ t)
theorem cut_eq : ∀ {x y r s : List Nat}, 46 ∉ x → 46 ∉ y → (r = [] ∨ ∃ t, r = 46 :: t) → (s = [] ∨ ∃ t, s = 46 :: t) → x ++ r = y ++ s → x = y
  | [], [], _, _, _, _, _, _, _ => rfl
  | [], b :: y, r, s, hx, hy, hr, hs, e => by
    rcases hr with h | ⟨t, h⟩
    · subst h; simp at e
    · subst h
      simp at e
      exact absurd (by rw [← e.1]; simp) hy
  | a :: x, [], r, s, hx, hy, hr, hs, e => by
    rcases hs with h | ⟨t, h⟩
    · subst h; simp at e
    · subst h
      simp at e
      exact absurd (by rw [e.1]; simp) hx
  | a :: x, b :: y, r, s, hx, hy, hr, hs, e => by
    simp at e
    rw [e.1, cut_eq (fun h => hx (List.mem_cons_of_mem _ h)) (fun h => hy (List.mem_cons_of_mem _ h)) hr hs e.2]
theorem under_inj {ah x y p : Str} (hx : plain x = true) (hy : plain y = true) (h1 : Under ah x p) (h2 : Under ah y p) : x = y := by
  obtain ⟨r, e1, hr⟩ := h1
  obtain ⟨s, e2, hs⟩ := h2
  have e : x ++ r = y ++ s := app_cancel (e1.symm.trans e2)
  have e3 := congrArg (fun s : Str => s.cps.toList) e
  simp only [app_list] at e3
  have key : ∀ {r : Str}, (r = "" ∨ ∃ t : Str, r = "." ++ t) → (r.cps.toList = [] ∨ ∃ t, r.cps.toList = 46 :: t) := fun h => by
    rcases h with h | ⟨t, h⟩
    · subst h; exact .inl rfl
    · subst h
      exact .inr ⟨t.cps.toList, by rw [app_list]; rfl⟩
  exact str_of_list (cut_eq (plain_dot hx) (plain_dot hy) (key hr) (key hs) e3)
theorem fm_nd {α : Type} {ah : Str} {f : α → List FRow} {nm : α → Str} : ∀ {l : List α}, (l.map nm).Nodup → (∀ a ∈ l, ((f a).map FRow.path).Nodup) → (∀ a ∈ l, ∀ r ∈ f a, Under ah (nm a) r.path) → (∀ a ∈ l, plain (nm a) = true) → ((l.flatMap f).map FRow.path).Nodup
  | [], _, _, _, _ => List.nodup_nil
  | a :: l, h1, h2, h3, h4 => by
    rw [List.map_cons, List.nodup_cons] at h1
    rw [List.flatMap_cons, List.map_append, List.nodup_append]
    refine ⟨h2 a List.mem_cons_self, fm_nd h1.2 (fun b hb => h2 b (List.mem_cons_of_mem _ hb)) (fun b hb => h3 b (List.mem_cons_of_mem _ hb)) (fun b hb => h4 b (List.mem_cons_of_mem _ hb)), fun p hp q hq e => ?_⟩
    subst e
    obtain ⟨r, hr, rfl⟩ := List.mem_map.mp hp
    obtain ⟨s, hs, e⟩ := List.mem_map.mp hq
    obtain ⟨b, hb, hs⟩ := List.mem_flatMap.mp hs
    have hbm := List.mem_cons_of_mem a hb
    have := under_inj (h4 a List.mem_cons_self) (h4 b hbm) (h3 a List.mem_cons_self r hr) (e ▸ h3 b hbm s hs)
    exact h1.1 (this ▸ List.mem_map_of_mem hb)
/-! ### annotated rows -/
structure An where
  row : FRow
  c : Str
  k : Nat
  wk : Bool
abbrev EnT : Type := Str × Nat × Str × Nat × Bool
def An.ent (a : An) : EnT := (a.row.path, a.row.width, a.c, a.k, a.wk)
/-- names of one clock, of lesser rank, none a cross's first box -/
def Nm (E : List EnT) (c : Str) (r : Nat) (x : Str) (u : Nat) : Prop := ∃ k, k < r ∧ (x, u, c, k, false) ∈ E
def AnOk (E : List EnT) (a : An) : Prop := match a.row with
  | .inr _ w c => a.c = c ∧ w ≤ 4 ∧ a.wk = false ∧ a.k = 0
  | .wire _ w e => a.wk = false ∧ 1 ≤ a.k ∧ e.depth ≤ 3 ∧ Ty (Nm E a.c a.k) e w
  | .out _ w e => a.wk = false ∧ 1 ≤ a.k ∧ e.depth ≤ 3 ∧ Ty (Nm E a.c a.k) e w
  | .box p w c i e => a.c = c ∧ a.k = 0 ∧ e.depth ≤ 3 ∧ i < 2 ^ w ∧ (a.wk = true → ∃ q : Str, p = q ++ ".one") ∧ Ty (fun x u => ∃ c' k b, (x, u, c', k, b) ∈ E ∧ (a.wk = false → c' = c)) e w
theorem Nm.mono {E E' : List EnT} {c : Str} {r r' : Nat} {x : Str} {u : Nat} (h : Nm E c r x u) (hE : ∀ e ∈ E, e ∈ E') (hr : r ≤ r') : Nm E' c r' x u := let ⟨k, h1, h2⟩ := h; ⟨k, by omega, hE _ h2⟩
theorem AnOk.mono {E E' : List EnT} {a : An} (h : AnOk E a) (hE : ∀ e ∈ E, e ∈ E') : AnOk E' a := by
  unfold AnOk at *
  cases hr : a.row with
  | inr p w c => rw [hr] at h; exact h
  | wire p w e => rw [hr] at h; exact ⟨h.1, h.2.1, h.2.2.1, h.2.2.2.imp fun _ _ _ q => q.mono hE (Nat.le_refl _)⟩
  | out p w e => rw [hr] at h; exact ⟨h.1, h.2.1, h.2.2.1, h.2.2.2.imp fun _ _ _ q => q.mono hE (Nat.le_refl _)⟩
  | box p w c i e => rw [hr] at h; exact ⟨h.1, h.2.1, h.2.2.1, h.2.2.2.1, h.2.2.2.2.1, h.2.2.2.2.2.imp fun _ _ _ ⟨c', k, b, q1, q2⟩ => ⟨c', k, b, hE _ q1, q2⟩⟩
theorem Ty.pre {R R' : Str → Nat → Prop} {ah : Str} (h : ∀ x u, R x u → R' (ah ++ x) u) : ∀ {e : Ex} {w : Nat}, Ty R e w → Ty R' (e.pre ah) w
  | .name x, w, ⟨h1, h2⟩ => ⟨h1, h x w h2⟩
  | .num _ _, _, h => h
  | .not e, w, ⟨h1, h2⟩ => ⟨h1, h2.pre h⟩
  | .bin o a b, w, ⟨h0, h1⟩ => by
    refine ⟨h0, ?_⟩
    cases o
    · exact ⟨h1.1.pre h, h1.2.pre h⟩
    · exact ⟨h1.1.pre h, h1.2.pre h⟩
    · exact ⟨h1.1.pre h, h1.2.pre h⟩
    · obtain ⟨u, v, h2, h3, h4⟩ := h1
      exact ⟨u, v, h2.pre h, h3.pre h, h4⟩
    · obtain ⟨h1, u, h2, h3⟩ := h1
      exact ⟨h1, u, h2.pre h, h3.pre h⟩
    · obtain ⟨h1, u, h2, h3⟩ := h1
      exact ⟨h1, u, h2.pre h, h3.pre h⟩
    · obtain ⟨u, v, h2, h3, h4⟩ := h1
      exact ⟨u, v, h2.pre h, h3.pre h, h4⟩
  | .pick a b c, w, ⟨h0, h1, h2, h3⟩ => ⟨h0, h1.pre h, h2.pre h, h3.pre h⟩
  | .cut w' e, w, ⟨h0, h1, u, h2⟩ => ⟨h0, h1, u, h2.pre h⟩
  | .bit k e, w, ⟨h0, h1, u, h2⟩ => ⟨h0, h1, u, h2.pre h⟩
/-- the entries L of a module stand in E, under ah, their clocks by to -/
def Real (E : List EnT) (ah : Str) (to : Str → Str) (r : Nat) (L : List Ent) : Prop := ∀ e ∈ L, Nm E (to e.2.2) r (ah ++ e.1) e.2.1
theorem Real.mono {E E' : List EnT} {ah : Str} {to : Str → Str} {r r' : Nat} {L : List Ent} (h : Real E ah to r L) (hE : ∀ e ∈ E, e ∈ E') (hr : r ≤ r') : Real E' ah to r' L := fun e he => (h e he).mono hE hr
theorem Real.append {E : List EnT} {ah : Str} {to : Str → Str} {r : Nat} {L L' : List Ent} (h : Real E ah to r L) (h' : Real E ah to r L') : Real E ah to r (L ++ L') := fun e he => by
  rcases List.mem_append.mp he with z | z
  · exact h e z
  · exact h' e z
theorem Real.ty {E : List EnT} {ah : Str} {to : Str → Str} {r : Nat} {L : List Ent} (h : Real E ah to r L) {c : Str} {e : Ex} {w : Nat} (t : Ty (InPool (poolOf L c)) e w) : Ty (Nm E (to c) r) (e.pre ah) w := t.pre fun x u q => h (x, u, c) (mem_poolOf.mp q)
/-- what a module makes of its place: for its face F -/
structure Inst (F : Face) (R : List FRow) (ah : Str) (tk : List Str) (X : List EnT) (r j : Nat) (ann : List An) : Prop where
  perm : (ann.map An.row).Perm R
  ok : ∀ a ∈ ann, AnOk (X ++ ann.map An.ent) a
  rk : ∀ a ∈ ann, a.k < r + ann.length
  outs : ∀ o ∈ F.outs, Nm (ann.map An.ent) (tk.getD o.2.2 "") (r + ann.length) (ah ++ o.1) o.2.1
  pth : ∀ q ∈ R, ∃ t, q.path = ah ++ t ∧ t.length ≤ 14 * j ∧ strOk' t = true
  nd : (R.map FRow.path).Nodup
/-- what is given to a module's ins -/
def Giv (F : Face) (X : List EnT) (tk : List Str) (r : Nat) (gv : List Ex) : Prop := gv.length = F.ins.length ∧ ∀ (i : Nat) x, F.ins[i]? = some x → ∃ g, gv[i]? = some g ∧ g.depth ≤ 3 ∧ Ty (Nm X (tk.getD x.2.2 "") r) g x.2.1
def HRec (bel : List Bel) (rec : Str → Str → List Str → List Ex → List FRow) (j : Nat) : Prop := ∀ m F z, (m, F, z) ∈ bel → ∀ (ah : Str) (tk : List Str) (gv : List Ex) (X : List EnT) (r : Nat), 1 ≤ r → tk.length = F.ticks.length → Giv F X tk r gv → ∃ ann, Inst F (rec m ah tk gv) ah tk X r j ann
theorem getD_map {l : List Str} {to : Str → Str} {i : Nat} (h : i < l.length) : (l.map to).getD i "" = to (l.getD i "") := by
  rw [List.getD_eq_getElem?_getD, List.getD_eq_getElem?_getD, List.getElem?_map, List.getElem?_eq_getElem h]
  rfl
theorem givenOk_at {L : List Ent} {hd : List Str} : ∀ {xs : List Tri} {es : List Ex}, GivenOk L hd xs es → ∀ (i : Nat) x, xs[i]? = some x → ∃ g, es[i]? = some g ∧ g.depth ≤ 2 ∧ Ty (InPool (poolOf L (hd.getD x.2.2 ""))) g x.2.1
  | x :: xs, e :: es, h, 0, y, hy => by
    simp at hy
    subst hy
    exact ⟨e, rfl, h.2.1, h.1⟩
  | x :: xs, e :: es, h, i + 1, y, hy => givenOk_at h.2.2 i y (by simpa using hy)
  | [], [], _, i, y, hy => by simp at hy
  | [], _ :: _, h, _, _, _ => h.elim
  | _ :: _, [], h, _, _, _ => h.elim
section
variable {a : Ads} {bel : List Bel} {rec : Str → Str → List Str → List Ex → List FRow} {j : Nat} {ah : Str} {to : Str → Str} {given : Option (List Ex)} {ins : List Str}
/-- the steps, one by one -/
theorem steps_inst (HR : HRec bel rec j) (hb : BelPl bel) : ∀ {ss : List Step} {L : List Ent} {E : List EnT} {r : Nat}, 1 ≤ r → StepsOk a bel L ss → Real E ah to r L →
    ∃ ann : List An, (ann.map An.row).Perm (ss.flatMap fun s => flatRow rec ah to given ins s.row) ∧ (∀ b ∈ ann, AnOk (E ++ ann.map An.ent) b) ∧ (∀ b ∈ ann, b.k < r + ann.length) ∧ Real (E ++ ann.map An.ent) ah to (r + ann.length) (L ++ ss.flatMap Step.ents) ∧
      (∀ s ∈ ss, ((flatRow rec ah to given ins s.row).map FRow.path).Nodup ∧ ∀ q ∈ flatRow rec ah to given ins s.row, ∃ t : Str, q.path = ah ++ (s.nm ++ t) ∧ (t = "" ∨ ∃ t' : Str, t = "." ++ t') ∧ t.length ≤ 14 * j + 1 ∧ strOk' t = true)
  | [], L, E, r, h1, h2, h3 => ⟨[], .nil, by simp, by simp, by simpa using h3, by simp⟩
  | s :: ss, L, E, r, h1, ⟨hs, hss⟩, hE => by
    -- the first of them
    have first : ∃ ann : List An, (ann.map An.row).Perm (flatRow rec ah to given ins s.row) ∧ (∀ b ∈ ann, AnOk (E ++ ann.map An.ent) b) ∧ (∀ b ∈ ann, b.k < r + ann.length) ∧ Real (E ++ ann.map An.ent) ah to (r + ann.length) (L ++ s.ents) ∧
        (((flatRow rec ah to given ins s.row).map FRow.path).Nodup ∧ ∀ q ∈ flatRow rec ah to given ins s.row, ∃ t : Str, q.path = ah ++ (s.nm ++ t) ∧ (t = "" ∨ ∃ t' : Str, t = "." ++ t') ∧ t.length ≤ 14 * j + 1 ∧ strOk' t = true) := by
      cases s with
      | wire x w c e =>
        obtain ⟨w1, w2, w3, w4, w5⟩ := hs
        refine ⟨[⟨.wire (ah ++ x) w (e.pre ah), to c, r, false⟩], .refl _, fun b hb => ?_, fun b hb => ?_, ?_, by show ([ah ++ x] : List Str).Nodup; simp, fun q hq => ?_⟩
        · rw [List.mem_singleton.mp hb]
          exact ⟨rfl, h1, by rw [pre_depth]; exact w5, (hE.ty w4).imp fun _ _ _ q => q.mono (fun _ z => List.mem_append_left _ z) (Nat.le_refl _)⟩
        · rw [List.mem_singleton.mp hb]
          show r < r + 1
          omega
        · refine (hE.mono (fun _ z => List.mem_append_left _ z) (by simp)).append fun e' he => ?_
          rw [List.mem_singleton.mp he]
          exact ⟨r, by simp, List.mem_append_right _ List.mem_cons_self⟩
        · rw [List.mem_singleton.mp hq]
          exact ⟨"", by rw [app_nil']; rfl, .inl rfl, Nat.zero_le _, by decide +kernel⟩
      | use x m F hd gv =>
        obtain ⟨⟨z, hm⟩, u1, u2, u3⟩ := hs
        have fok := (hb _ hm).1
        obtain ⟨ann, I⟩ := HR m F z hm (ah ++ x ++ ".") (hd.map to) (gv.map (Ex.pre ah)) E r h1 (by rw [List.length_map]; exact u1) ⟨by rw [List.length_map]; exact given_len u3, fun i y hy => by
          obtain ⟨g, g1, g2, g3⟩ := givenOk_at u3 i y hy
          refine ⟨g.pre ah, by rw [List.getElem?_map, g1]; rfl, by rw [pre_depth]; omega, ?_⟩
          rw [getD_map (by rw [u1]; exact (fok.ik y (List.mem_of_getElem? hy)).2.2)]
          exact hE.ty g3⟩
        refine ⟨ann, I.perm, I.ok, I.rk, (hE.mono (fun _ z => List.mem_append_left _ z) (by omega)).append fun e he => ?_, I.nd, fun q hq => ?_⟩
        · obtain ⟨o, ho, rfl⟩ := List.mem_map.mp he
          have := I.outs o ho
          rw [getD_map (by rw [u1]; exact (fok.ok o ho).2.2.1)] at this
          refine Nm.mono ?_ (fun _ z => List.mem_append_right _ z) (Nat.le_refl _)
          show Nm _ _ _ (ah ++ (x ++ "." ++ o.1)) _
          rw [app_assoc' x, ← app_assoc' ah, ← app_assoc' (ah ++ x)]
          exact this
        · obtain ⟨t, e1, e2, e3⟩ := I.pth q hq
          refine ⟨"." ++ t, ?_, .inr ⟨t, rfl⟩, ?_, strOk_app (by decide +kernel) e3⟩
          · rw [e1, app_assoc', app_assoc']; rfl
          · rw [app_len]
            show 1 + t.length ≤ _
            omega
    obtain ⟨a1, p1, o1, k1, r1, n1⟩ := first
    obtain ⟨a2, p2, o2, k2, r2, n2⟩ := steps_inst HR hb (ss := ss) (by omega) hss r1
    have hl : (a1 ++ a2).length = a1.length + a2.length := List.length_append
    have hmem : ∀ e ∈ (E ++ a1.map An.ent) ++ a2.map An.ent, e ∈ E ++ (a1 ++ a2).map An.ent := fun e he => by
      rw [List.map_append, ← List.append_assoc]; exact he
    refine ⟨a1 ++ a2, by rw [List.map_append, List.flatMap_cons]; exact p1.append p2, fun b hb => ?_, fun b hb => ?_, ?_, fun q hq => ?_⟩
    · rcases List.mem_append.mp hb with z | z
      · exact (o1 b z).mono fun e he => hmem e (List.mem_append_left _ he)
      · exact (o2 b z).mono hmem
    · rcases List.mem_append.mp hb with z | z
      · have := k1 b z; omega
      · have := k2 b z; omega
    · rw [List.flatMap_cons, ← List.append_assoc]
      exact r2.mono hmem (by omega)
    · rcases List.mem_cons.mp hq with z | z
      · rw [z]; exact n1
      · exact n2 q z
end
end WT

set_option Elab.async false
set_option linter.all false
set_option maxRecDepth 100000
set_option maxHeartbeats 8000000
/-! deck, drawn beats. -/
namespace WT
open PySem PySem.Spec PyProof.Rows L2
abbrev s_deck : Stmt := topS 16
abbrev N_deck : List Str := ["_law_script", "_law_cells", "_law_seed", "_law_cell"]
abbrev P_deck : List Str := ["_law_script"]
theorem sc_deck : FnScope N_deck P_deck (defScope s_deck) := ⟨rfl, rfl, rfl, by decide +kernel, rfl, by decide +kernel, by decide +kernel⟩
abbrev s_drawn_beats : Stmt := topS 34
abbrev N_drawn_beats : List Str := ["_law_deck_here", "_law_flat_here", "_law_ticks", "_law_many", "_law_found", "_law_k", "_law_some", "_law_clock", "_law_row"]
abbrev P_drawn_beats : List Str := ["_law_deck_here", "_law_flat_here", "_law_ticks", "_law_many"]
theorem sc_drawn_beats : FnScope N_drawn_beats P_drawn_beats (defScope s_drawn_beats) := ⟨rfl, rfl, rfl, by decide +kernel, rfl, by decide +kernel, by decide +kernel⟩
def spDeck : Sp := fun vs H Q _ => ∃ (a : Addr) (ns : List Int), vs = [.ref a] ∧ (∃ K, SqL K H a (ns.map V.int)) ∧ ns.length ≤ 63 ∧ (∀ z ∈ ns, z.natAbs < 2 ^ bits) ∧ ∀ (d c : Addr) H', Deck H' d c (2 ^ 59) → Kp [] H H' → Q (.ref d) H'
def spDeckK (K : PySem.W.Frag) : Sp := fun vs H Q _ => ∃ (a : Addr) (ns : List Int), vs = [.ref a] ∧ SqL K H a (ns.map V.int) ∧ ns.length ≤ 63 ∧ (∀ z ∈ ns, z.natAbs < 2 ^ bits) ∧ ∀ (d c : Addr) H', Deck H' d c (2 ^ 59) → Kp [] H H' → Q (.ref d) H'
def InW (F : List FRow) : Prop := ∀ q ∈ insP F, q.2.1 ≤ 20
theorem insP_snoc (l : List FRow) (r : FRow) : insP (l ++ [r]) = insP l ++ (match r with | .inr p w c => [(p, w, c)] | _ => []) := by
  unfold insP
  rw [List.filterMap_append]
  cases r <;> rfl
/-- ints, each within its row's width -/
def InsAt (ps : List InP) (is : List Int) : Prop := is.length = ps.length ∧ ∀ q ∈ ps.zip is, Within q.2 q.1.2.1
theorem InsAt.snoc {ps : List InP} {is : List Int} (h : InsAt ps is) {q : InP} {i : Int} (hi : Within i q.2.1) : InsAt (ps ++ [q]) (is ++ [i]) := by
  refine ⟨by simp [h.1], fun x hx => ?_⟩
  rw [List.zip_append h.1.symm] at hx
  rcases List.mem_append.mp hx with e | e
  · exact h.2 x e
  · rw [List.zip_cons_cons] at e
    simp at e
    subst e
    exact hi
def spDrawn : Sp := fun vs H Q _ => ∃ (d c pf pt : Addr) (F : List FRow) (tk : List Str) (m n : Nat), vs = [.ref d, .ref pf, .ref pt, .int (m : Int)] ∧ Deck H d c (n + 50 * m) ∧ Flat H pf F ∧ F.length ≤ 40 ∧ InW F ∧ tk.length ≤ 3 ∧ m ≤ 100 ∧ H pt = some (.lst (tk.map V.str)) ∧ pt ≠ c ∧
  ∀ (p : Addr) (bs : Beats) H', BeatsT H' p bs → bs.length = m → (∀ x ∈ bs, InsOk F x.2) → Kp [d, c] H H' → Deck H' d c n → Q (.ref p) H'
section
variable {P : Program} {w : World} {K : PySem.W.Frag} {mg : Str → Option Value} {base : Heap}
theorem cal_deck (S : Std K mg "_law_deck" s_deck) (T : Frees mg) : Cal P w K mg base "_law_deck" 1 P_deck (spDeckK K) := by
  obtain ⟨f, fd, F, m⟩ := S
  refine ⟨f, fd, ?_, m, F.kp, F.bindsN fun _ _ _ _ _ _ us hl => match us, hl with | [_], _ => rfl⟩
  have sc := sc_deck
  refine F.ok sc (fun vs H Q E h => by obtain ⟨_, _, rfl, _⟩ := h; rfl) fun cdv A outer s H vs Q E hr h => ⟨_, PSs.nox (pss_cons (ps_set (i := 1) sc.nd rfl (Or.inl rfl) (pe_callTy (cList K) rfl T.list (by decide +kernel) (pa_cons (pe_slice (slL K) (pv 0) po_none (po_some pe_int)) pa_nil)))
 (pss_cons (ps_set (i := 2) sc.nd rfl (Or.inl rfl) (pe_op op_add pe_int (pe_callB (cLen K) rfl T.len (by decide +kernel) (pa_cons (pv 1) pa_nil))))
 (pss_cons (ps_for PassesOwn.never rfl (PI.toK (t' := iList K _) (pi_list (pv 1))) (pg_name (i := 3) sc.nd rfl (Or.inl rfl))
 (pss_one (ps_set (i := 2) sc.nd rfl (Or.inl rfl) (pe_op op_mod (pe_op op_add (pe_op op_mulX (pv 2) pe_int) (pv 3)) pe_int))))
 (pss_one (ps_ret (pe_disp (pps_cons pe_str (pe_revL (pv 1)) (pps_cons pe_str (pv 2) (pps_cons pe_str pe_int pps_nil))) rfl rfl (by simp) (by decide))))))), ?_⟩
  obtain ⟨a, ns, rfl, ha, hl, hn, hQ⟩ := h
  refine ⟨_, rfl, _, rfl, a, _, rfl, ha, fun p1 hp1 => ?_⟩
  rw [show cutV (ns.map V.int) none (some 63) = (ns.map V.int).take 63 from cutV_hi (k := 63), List.take_of_length_le (by rw [List.length_map]; exact hl)]
  generalize hH1 : upd H p1 _ = H1
  have k1 : Kp [] H H1 := by rw [← hH1]; exact Kp.new hp1
  have g1 : H1 p1 = some (.lst (ns.map V.int)) := by rw [← hH1]; exact upd_same ..
  clear hH1
  refine ⟨p1, _, rfl, .inl (SqL.of g1), fun l hl0 => ?_⟩
  generalize hH2 : upd H1 l _ = H2
  have k2 : Kp [] H1 H2 := by rw [← hH2]; exact Kp.new hl0
  have g2 : H2 l = some (.lst (ns.map V.int)) := by rw [← hH2]; exact upd_same ..
  clear hH2
  have k12 := k1.trans k2
  refine ⟨_, rfl, l, _, rfl, .inl (SqL.of g2), _, _, rfl, rfl, ?_⟩
  refine ⟨_, rfl, l, rfl, ⟨_, SqL.of g2⟩, ?_⟩
  refine for_list (xs := ns.map V.int) (fun i σ H' => ∃ (sd : Int) (v3 : Option V), σ = [some (.ref a), some (.ref l), some (.int sd), v3] ∧ 0 ≤ sd ∧ sd < 2 ^ 127 ∧ H' = H2) ⟨_, _, rfl, by omega, ?_, rfl⟩ (fun i σ H' _ ⟨_, _, _, _, _, e⟩ => by rw [e]; exact SqL.of g2) ?_ ?_
  · rw [List.length_map]
    have : (2 : Int) ^ 127 = 170141183460469231731687303715884105728 := by decide
    omega
  · rintro i x σ H' hx ⟨sd, v3, rfl, h0, h1, rfl⟩
    rw [List.getElem?_map] at hx
    obtain ⟨z, hz, rfl⟩ := Option.map_eq_some_iff.mp hx
    have hzb := hn z (List.mem_of_getElem? hz)
    have hsn : sd.natAbs < 2 ^ 127 := by
      have e1 : (2 : Int) ^ 127 = 170141183460469231731687303715884105728 := by decide
      have e2 : (2 : Nat) ^ 127 = 170141183460469231731687303715884105728 := by decide
      rw [e1] at h1
      rw [e2]
      omega
    refine ⟨_, rfl, _, _, rfl, rfl, mulx_ok (a := 127) (b := 20) hsn (by decide) (by decide), _, rfl, _, _, rfl, rfl, _, _, rfl, rfl, (by show (0 : Int) < 170141183460469231731687303715884105727; decide), ?_⟩
    refine ⟨_, _, rfl, Int.emod_nonneg _ (by decide), ?_, rfl⟩
    have := Int.emod_lt_of_pos (sd * 1000003 + z) (show (0 : Int) < 170141183460469231731687303715884105727 by decide)
    have h2 : (2 : Int) ^ 127 = 170141183460469231731687303715884105728 := by decide
    omega
  · rintro σ H' ⟨sd, v3, rfl, h0, h1, rfl⟩
    refine fun d hd => ⟨_, rfl, l, _, rfl, SqL.of ((Kp.new (l := []) hd).at g2 (by simp)), fun c hc => ⟨_, rfl, ?_⟩⟩
    have kd : Kp [] H' (upd H' d (.dK [])) := Kp.new hd
    have gd : upd H' d (.dK []) d = some (.dK []) := upd_same ..
    generalize upd H' d (.dK []) = Ha at kd gd hc
    have kc : Kp [] Ha (upd Ha c (.lst (ns.map V.int).reverse)) := Kp.new hc
    have gc : upd Ha c (.lst (ns.map V.int).reverse) c = some (.lst (ns.map V.int).reverse) := upd_same ..
    have hdc : d ≠ c := ne_of_none gd hc
    generalize upd Ha c (.lst (ns.map V.int).reverse) = Hb at kc gc
    have gd2 := kc.at gd (by simp)
    refine ⟨gd2, [(Sum.inr "cells", .ref c), (Sum.inr "seed", .int sd), (Sum.inr "at", .int 0)], rfl, by simp, ?_⟩
    rw [show mergeK [] [(Sum.inr "cells", V.ref c), (Sum.inr "seed", .int sd), (Sum.inr "at", .int 0)] = dk3 c sd 0 from rfl]
    have kf : Kp [] H' (upd Hb d (.dK (dk3 c sd 0))) := (kd.trans kc).fresh hd
    refine hQ d c _ ⟨ns.reverse, sd.toNat, 0, ?_, ?_, hdc, by rw [List.length_reverse]; exact hl, fun z hz => hn z (List.mem_reverse.mp hz), ?_, by decide⟩ (k12.trans kf)
    · rw [upd_same, Int.toNat_of_nonneg h0]; rfl
    · rw [upd_ne (Ne.symm hdc), gc, List.map_reverse]
    · have e1 : (2 : Int) ^ 127 = 170141183460469231731687303715884105728 := by decide
      have e2 : (2 : Nat) ^ 127 = 170141183460469231731687303715884105728 := by decide
      rw [e1] at h1
      rw [e2]
      omega
theorem cal_drawn (S : Std K mg "_law_drawn_beats" s_drawn_beats) (T : Frees mg) (cdraw : Cal P w K mg base "_law_draw" 1 P_draw spDraw) : Cal P w K mg base "_law_drawn_beats" 2 P_drawn_beats spDrawn := by
  obtain ⟨f, fd, F, m⟩ := S
  obtain ⟨fdraw, ddraw, G_draw, m_draw, k_draw, b_draw⟩ := cdraw
  refine ⟨f, fd, ?_, m, F.kp, F.bindsN fun _ _ _ _ _ _ us hl => match us, hl with | [_, _, _, _], _ => rfl⟩
  have sc := sc_drawn_beats
  refine F.ok sc (fun vs H Q E h => by obtain ⟨_, _, _, _, _, _, _, _, rfl, _⟩ := h; rfl) fun cdv A outer s H vs Q E hr h => ⟨_, PSs.nox (pss_cons (ps_set (i := 4) sc.nd rfl (Or.inl rfl) (pe_lst pa_nil))
 (pss_cons (ps_for PassesOwn.never rfl (pi_range1 rfl T.range (pa_cons (pv 3) pa_nil)) (pg_name (i := 5) sc.nd rfl (Or.inl rfl))
 (pss_cons (ps_set (i := 6) sc.nd rfl (Or.inl rfl) (pe_callTy (cTup K) rfl T.tuple (by decide +kernel) (pa_cons (pe_lc (own := [("_law_clock", 7)]) rfl sc.nd (PI.toK (t' := iList K _) (pi_list (pe_callB cr_sortedS rfl T.sorted (by decide +kernel) (pa_cons (pv 2) pa_nil)))) (blkOk_by (N := N_drawn_beats) (sc := defScope s_drawn_beats) (by decide +kernel)) (fun _ _ _ _ _ => (pg_name (i := 7) sc.nd rfl (Or.inl rfl))) (fun _ _ _ _ _ => pts_one (pt_cmpR op_gt (pe_call G_draw (hr.mono (by decide)) rfl m_draw k_draw b_draw .nil pass0 (pa_cons (pv 0) (pa_cons pe_int pa_nil))) pe_int (nomark _))) (fun _ _ _ _ _ => (pv 7))) pa_nil)))
 (pss_one (ps_expr (PE.toK (t' := tBM K _ _ _ _) (pe_bm PySem.F.plainAttrs_list PySem.F.slot_list_append PySem.F.type_list_append mt_append (pv 4) (pa_cons (pe_tup (pa_cons (pv 6) (pa_cons (pe_callTy (cTup K) rfl T.tuple (by decide +kernel) (pa_cons (pe_lc (own := [("_law_row", 8)]) rfl sc.nd (PI.toK (t' := iTup K _) (pi_tup (pv 1))) (blkOk_by (N := N_drawn_beats) (sc := defScope s_drawn_beats) (by decide +kernel)) (fun _ _ _ _ _ => (pg_name (i := 8) sc.nd rfl (Or.inl rfl))) (fun _ _ _ _ _ => pts_one (pt_cmpR op_eq (pe_ix (ixt K) (pv 8) pe_int (fun _ _ => rfl)) pe_str (nomark _))) (fun _ _ _ _ _ => (pe_call G_draw (hr.mono (by decide)) rfl m_draw k_draw b_draw .nil pass0 (pa_cons (pv 0) (pa_cons (pe_op op_oneShl pe_int (pe_ix (ixt K) (pv 8) pe_int (fun _ _ => rfl))) pa_nil))))) pa_nil)) pa_nil))) pa_nil)))))))
 (pss_one (ps_ret (pe_callTy (cTup K) rfl T.tuple (by decide +kernel) (pa_cons (pv 4) pa_nil)))))), ?_⟩
  obtain ⟨d, c, pf, pt, Fl, tk, m, n, rfl, D, ⟨vf, hpf, avf⟩, hlen, hiw, htk, hm, hpt, hptc, hQ⟩ := h
  have hptd : pt ≠ d := by obtain ⟨_, _, _, h1, _⟩ := D; exact ne_of hpt h1 (fun z => by cases z)
  refine ⟨(by show 0 ≤ sizeLine; decide), fun pd hpd => ?_⟩
  have k0 : Kp [] H (upd H pd (.lst [])) := Kp.new hpd
  have g0 : upd H pd (.lst []) pd = some (.lst []) := upd_same ..
  generalize upd H pd (.lst []) = H0 at k0 g0
  have npd := D.ne hpd
  have hmi : ((m : Int)).toNat = m := by omega
  refine ⟨_, rfl, (m : Int), rfl, by omega, by omega, ?_⟩
  rw [hmi]
  have ptpd : pt ≠ pd := ne_of_none hpt hpd
  refine for_range (n := m) (fun i σ H' => ∃ (v5 v6 v7 v8 : Option V) (us : List V) (bs : Beats), σ = [some (.ref d), some (.ref pf), some (.ref pt), some (.int (m : Int)), some (.ref pd), v5, v6, v7, v8] ∧ H' pd = some (.lst us) ∧ AllV (IsBt H') us bs ∧ bs.length = i ∧ (∀ x ∈ bs, InsOk Fl x.2) ∧ Kp [d, c] H H' ∧ Deck H' d c (n + 50 * (m - i)))
    ⟨_, _, _, _, [], [], rfl, g0, trivial, rfl, by simp, k0.up, D.keep k0⟩ ?_ ?_
  · rintro i σ Ha hi ⟨v5, v6, v7, v8, us, bs, rfl, hda, aus, hbl, hbi, ka, Da⟩
    obtain ⟨j, hj⟩ : ∃ j, m - i = j + 1 := ⟨m - i - 1, by omega⟩
    have hj' : m - (i + 1) = j := by omega
    rw [hj] at Da
    rw [hj']
    -- the clocks
    refine ⟨_, rfl, pt, tk, rfl, SqL.of (ka.at hpt (by simp [hptd, hptc])), by omega, fun ys p hys _ hp => ?_⟩
    have hyl : ys.length ≤ 3 := by rw [hys.length_eq]; exact htk
    have k1 : Kp [] Ha (upd Ha p (.lst (ys.map V.str))) := Kp.new hp
    have g1 : upd Ha p (.lst (ys.map V.str)) p = some (.lst (ys.map V.str)) := upd_same ..
    have hda1 := k1.at hda (by simp)
    have np := Da.ne hp
    have npp : pd ≠ p := ne_of_none hda hp
    generalize upd Ha p (.lst (ys.map V.str)) = H1 at k1 g1 hda1
    refine ⟨p, rfl, ⟨_, SqL.of g1⟩, fun Dc hDc => ?_⟩
    have D1 := Da.keep k1
    have nDc := D1.ne hDc
    have npDc : p ≠ Dc := ne_of_none g1 hDc
    refine lc_list (xs := ys.map V.str) (fun i H' => ∃ cl : List Str, H' Dc = some (.lst (cl.map V.str)) ∧ cl.length ≤ i ∧ Kp [d, c] H1 H' ∧ Deck H' d c (n + 50 * j + 47 + (3 - i))) ⟨[], upd_same .., by simp, Kp.new hDc, (D1.keep (Kp.new hDc)).less (by omega)⟩ (fun i H' _ ⟨_, _, _, k, _⟩ => SqL.of (k.at g1 (by simp [Ne.symm np.1, Ne.symm np.2]))) ?_ ?_
    · rintro t v H' hv ⟨cl, hcl, hcll, kc, Dk⟩
      rw [List.getElem?_map] at hv
      obtain ⟨y, hy, rfl⟩ := Option.map_eq_some_iff.mp hv
      have ht : t < ys.length := (List.getElem?_eq_some_iff.mp hy).1
      refine ⟨rfl, _, rfl, d, c, 3, n + 50 * j + 47 + (3 - (t + 1)), rfl, Dk.less (by omega), by decide, by decide, fun r H2 hr2 kr D2 => ?_⟩
      have hcl2 := kr.at hcl (by simp [Ne.symm nDc.1, Ne.symm nDc.2])
      refine ⟨_, _, rfl, rfl, _, rfl, ite2 (fun _ => ⟨_, rfl, _, hcl2, ?_, cl ++ [y], ?_, ?_, ?_, ?_⟩) (fun _ => ⟨cl, hcl2, by omega, kc.trans kr, D2⟩)⟩
      · rw [List.length_map]
        exact Nat.lt_of_le_of_lt (show _ ≤ 3 by omega) (by decide)
      · rw [upd_same, List.map_append]; rfl
      · simp; omega
      · exact (kc.trans kr).fresh hDc
      · have kD : Kp [Dc] H2 (upd H2 Dc (.lst (cl.map V.str ++ [.str y]))) := Kp.put hcl2 (by simp)
        exact D2.kept kD (by simp [nDc.1]) (by simp [nDc.2])
    rintro H2 ⟨cl, hcl, hcll, k2, D2⟩
    refine ⟨Dc, _, rfl, .inl ⟨SqL.of hcl, fun pc hpc => ?_⟩⟩
    have k3 : Kp [] H2 (upd H2 pc (.tup (cl.map V.str))) := Kp.new hpc
    have g3 : upd H2 pc (.tup (cl.map V.str)) pc = some (.tup (cl.map V.str)) := upd_same ..
    generalize upd H2 pc (.tup (cl.map V.str)) = H3 at k3 g3
    have k13 := k2.trans k3.up
    have D3 : Deck H3 d c (n + 50 * j + 47) := (D2.keep k3).less (by omega)
    have ka3 := (ka.trans k1.up).trans k13
    have hda3 := k13.at hda1 (by simp [Ne.symm npd.1, Ne.symm npd.2])
    -- the ins
    refine ⟨_, rfl, .inl ⟨rfl, _, SqL.of hda3⟩, _, rfl, _, rfl, pf, rfl, ⟨_, SqT.of (ka3.tup hpf)⟩, fun Di hDi => ?_⟩
    have nDi := D3.ne hDi
    refine lc_tup (xs := vf) (fun t H' => ∃ is : List Int, H' Di = some (.lst (is.map V.int)) ∧ InsAt (insP (Fl.take t)) is ∧ Kp [d, c] H3 H' ∧ Deck H' d c (n + 50 * j + 7 + (40 - t))) ⟨[], upd_same .., ⟨rfl, by simp [insP]⟩, Kp.new hDi, (D3.keep (Kp.new hDi)).less (by omega)⟩ (fun t H' _ ⟨_, _, _, k, _⟩ => SqT.of (k.tup (ka3.tup hpf))) ?_ ?_
    · rintro t v H' hv ⟨is, his, hia, ki, Dk⟩
      obtain ⟨r, hr0, hrow⟩ := avf.get hv
      have hrow := (hrow.keep ka3).keep ki
      have ht : t < Fl.length := (List.getElem?_eq_some_iff.mp hr0).1
      rw [take_snoc hr0, insP_snoc]
      cases r with
      | inr p w c' =>
        obtain ⟨a, rfl, ha⟩ := hrow
        have hw : w ≤ 20 := hiw (p, w, c') (mem_insP.mpr (List.mem_of_getElem? hr0))
        have h30 : 2 ^ w < 1073741824 := Nat.lt_of_le_of_lt (Nat.pow_le_pow_right (by decide) hw) (by decide)
        refine ⟨rfl, _, rfl, a, _, _, .str "in", rfl, rfl, SqT.of ha, atI_nat (j := 0) rfl, rfl, _, rfl, iteT ⟨_, rfl, _, rfl, a, _, _, .int (w : Int), rfl, rfl, SqT.of ha, atI_nat (j := 2) rfl, w, rfl, rfl, by omega, ?_⟩⟩
        refine ⟨d, c, 2 ^ w, n + 50 * j + 7 + (40 - (t + 1)), (by rw [Int.natCast_pow]; rfl), Dk.less (by omega), Nat.pow_pos (by decide), h30, fun r H4 hr4 k4 D4 => ?_⟩
        have his4 := k4.at his (by simp [Ne.symm nDi.1, Ne.symm nDi.2])
        have kD : Kp [Di] H4 (upd H4 Di (.lst (is.map V.int ++ [.int (r : Int)]))) := Kp.put his4 (by simp)
        refine ⟨_, his4, ?_, is ++ [(r : Int)], ?_, hia.snoc (within_of hr4), (ki.trans k4).fresh hDi, D4.kept kD (by simp [nDi.1]) (by simp [nDi.2])⟩
        · rw [List.length_map, hia.1]
          have := List.length_filterMap_le FRow.in? (Fl.take t)
          rw [List.length_take] at this
          exact Nat.lt_of_le_of_lt (show (insP (Fl.take t)).length ≤ 40 by unfold insP; omega) (by decide)
        · rw [upd_same, List.map_append]; rfl
      | box p w c k' e =>
        obtain ⟨a, u, rfl, ha, _⟩ := hrow
        exact ⟨rfl, _, rfl, a, _, _, .str "box", rfl, rfl, SqT.of ha, atI_nat (j := 0) rfl, rfl, _, rfl, iteF ⟨is, his, by simpa using hia, ki, Dk.less (by omega)⟩⟩
      | wire p w e =>
        obtain ⟨a, u, rfl, ha, _⟩ := hrow
        exact ⟨rfl, _, rfl, a, _, _, .str "wire", rfl, rfl, SqT.of ha, atI_nat (j := 0) rfl, rfl, _, rfl, iteF ⟨is, his, by simpa using hia, ki, Dk.less (by omega)⟩⟩
      | out p w e =>
        obtain ⟨a, u, rfl, ha, _⟩ := hrow
        exact ⟨rfl, _, rfl, a, _, _, .str "out", rfl, rfl, SqT.of ha, atI_nat (j := 0) rfl, rfl, _, rfl, iteF ⟨is, his, by simpa using hia, ki, Dk.less (by omega)⟩⟩
    rintro H4 ⟨is, his, hia, k4, D4⟩
    rw [avf.length, List.take_length] at hia
    refine ⟨Di, _, rfl, .inl ⟨SqL.of his, fun pi hpi => ?_⟩⟩
    have k5 : Kp [] H4 (upd H4 pi (.tup (is.map V.int))) := Kp.new hpi
    have g5 : upd H4 pi (.tup (is.map V.int)) pi = some (.tup (is.map V.int)) := upd_same ..
    generalize upd H4 pi (.tup (is.map V.int)) = H5 at k5 g5
    refine ⟨(by show 2 ≤ sizeLine; decide), fun pp hpp => ?_⟩
    have k6 : Kp [] H5 (upd H5 pp (.tup [.ref pc, .ref pi])) := Kp.new hpp
    have g6 : upd H5 pp (.tup [.ref pc, .ref pi]) pp = some (.tup [.ref pc, .ref pi]) := upd_same ..
    have g5' := k6.tup g5
    have g3' := k6.tup (k5.tup (k4.tup g3))
    generalize upd H5 pp (.tup [.ref pc, .ref pi]) = H6 at k6 g6 g5' g3'
    have k36 := (k4.trans k5.up).trans k6.up
    have hda6 := k36.at hda3 (by simp [Ne.symm npd.1, Ne.symm npd.2])
    have ka6 := ka3.trans k36
    refine ⟨pd, _, _, rfl, rfl, hda6, ?_, ?_⟩
    · rw [aus.length, hbl]
      exact Nat.lt_of_le_of_lt (show _ ≤ 100 by omega) (by decide)
    have kf : Kp [pd] H6 (upd H6 pd (.lst (us ++ [.ref pp]))) := Kp.put hda6 (by simp)
    have k16 := (k1.up.trans k13).trans k36
    refine ⟨_, _, _, _, us ++ [.ref pp], bs ++ [(cl, is)], rfl, upd_same .., ?_, by simp [hbl], fun x hx => ?_, ka6.fresh hpd, ((D4.keep (k5.trans k6)).less (by omega)).kept kf (by simp [npd.1]) (by simp [npd.2])⟩
    · exact (aus.imp fun _ _ z => (z.keep k16).keep kf).snoc ⟨pp, pc, pi, rfl, kf.tup g6, kf.tup g3', kf.tup g5'⟩
    · rcases List.mem_append.mp hx with e | e
      · exact hbi x e
      · rw [List.mem_singleton.mp e]
        exact hia
  · rintro σ Ha ⟨v5, v6, v7, v8, us, bs, rfl, hda, aus, hbl, hbi, ka, Da⟩
    refine ⟨_, rfl, pd, _, rfl, .inl ⟨SqL.of hda, fun t ht => ?_⟩⟩
    have kt : Kp [] Ha (upd Ha t (.tup us)) := Kp.new ht
    exact hQ t bs _ ⟨us, upd_same .., aus.imp fun _ _ z => z.keep kt⟩ hbl hbi (ka.trans kt.up) ((Da.keep kt).less (by omega))
end
end WT

set_option Elab.async false
set_option linter.all false
set_option maxRecDepth 100000
set_option maxHeartbeats 8000000
/-! otherwise, stays_till. -/
namespace WT
open PySem PySem.Spec PyProof.Rows L2
abbrev s_otherwise : Stmt := topS 36
abbrev N_otherwise : List Str := ["_law_deck_here", "_law_flat_here", "_law_rows", "_law_clock", "_law_start", "_law_ins_here", "_law_row", "_law_found", "_law_at", "_law_some", "_law_k"]
abbrev P_otherwise : List Str := ["_law_deck_here", "_law_flat_here", "_law_rows", "_law_clock", "_law_start"]
theorem sc_otherwise : FnScope N_otherwise P_otherwise (defScope s_otherwise) := ⟨rfl, rfl, rfl, by decide +kernel, rfl, by decide +kernel, by decide +kernel⟩
abbrev s_stays_till : Stmt := topS 37
abbrev N_stays_till : List Str := ["_law_rows", "_law_start", "_law_clock", "_law_many", "_law_left", "_law_at"]
abbrev P_stays_till : List Str := ["_law_rows", "_law_start", "_law_clock", "_law_many"]
theorem sc_stays_till : FnScope N_stays_till P_stays_till (defScope s_stays_till) := ⟨rfl, rfl, rfl, by decide +kernel, rfl, by decide +kernel, by decide +kernel⟩
def cnt (D : Str) (bs : Beats) (s t : Nat) : Nat := ((bs.take t).drop s).countP fun x => decide (D ∈ x.1)
theorem cnt_mono {D : Str} {bs : Beats} {s t t' : Nat} (h : t ≤ t') : cnt D bs s t ≤ cnt D bs s t' := by
  unfold cnt
  refine List.Sublist.countP_le ?_
  refine List.Sublist.drop ?_ s
  rw [show bs.take t = (bs.take t').take t by rw [List.take_take, Nat.min_eq_left h]]
  exact List.take_sublist ..
theorem cnt_step {D : Str} {bs : Beats} {s t : Nat} {x : List Str × List Int} (hx : bs[t]? = some x) (hs : s ≤ t) : cnt D bs s (t + 1) = cnt D bs s t + (if D ∈ x.1 then 1 else 0) := by
  unfold cnt
  have hl := (List.getElem?_eq_some_iff.mp hx).1
  rw [take_snoc hx, List.drop_append_of_le_length (by rw [List.length_take]; omega), List.countP_append]
  by_cases h : D ∈ x.1
  · simp [h]
  · simp [h]
theorem cnt_zero {D : Str} {bs : Beats} {s t : Nat} (h : t ≤ s) : cnt D bs s t = 0 := by
  unfold cnt
  rw [List.drop_eq_nil_of_le (by rw [List.length_take]; omega)]
  rfl
/-- the beats with the ins of the clock C put otherwise from s on -/
structure Oth (F : List FRow) (C : Str) (s : Nat) (bs bs' : Beats) : Prop where
  len : bs'.length = bs.length
  at_ : ∀ (j : Nat) x x', bs[j]? = some x → bs'[j]? = some x' → x'.1 = x.1 ∧ InsOk F x'.2 ∧ (j < s → x' = x) ∧ ∀ (i : Nat) q, (insP F)[i]? = some q → q.2.2 ≠ C → x'.2[i]? = x.2[i]?
def spOther : Sp := fun vs H Q _ => ∃ (d c pf pb : Addr) (F : List FRow) (C : Str) (s n : Nat) (bs : Beats), vs = [.ref d, .ref pf, .ref pb, .str C, .int (s : Int)] ∧ Deck H d c (n + 50 * bs.length) ∧ Flat H pf F ∧ F.length ≤ 40 ∧ InW F ∧ BeatsT H pb bs ∧ bs.length ≤ 100 ∧ (∀ x ∈ bs, InsOk F x.2) ∧ s ≤ bs.length ∧
  ∀ (p : Addr) (bs' : Beats) H', BeatsT H' p bs' → Oth F C s bs bs' → Kp [d, c] H H' → Deck H' d c n → Q (.ref p) H'
def spStays : Sp := fun vs H Q _ => ∃ (pb : Addr) (bs : Beats) (D : Str) (s m : Nat), vs = [.ref pb, .int (s : Int), .str D, .int (m : Int)] ∧ BeatsT H pb bs ∧ bs.length ≤ 100 ∧ s ≤ bs.length ∧ 1 ≤ m ∧ ∀ (r : Nat) H', r ≤ bs.length → (∀ t < r, cnt D bs s t < m) → Kp [] H H' → Q (.int (r : Int)) H'
def IsInR (H : Hp) (v : V) (q : InP) : Prop := IsFRow H v (.inr q.1 q.2.1 q.2.2)
theorem IsInR.keep {l : List Addr} {H H' : Hp} (k : Kp l H H') {q : InP} {v : V} (h : IsInR H v q) : IsInR H' v q := IsFRow.keep k h
theorem AllV.set {α : Type} {R : V → α → Prop} : ∀ {vs : List V} {as : List α} {v : V} {a : α} (i : Nat), AllV R vs as → R v a → AllV R (vs.set i v) (as.set i a)
  | [], [], _, _, _, _, _ => trivial
  | _ :: _, _ :: _, _, _, 0, h, r => ⟨r, h.2⟩
  | _ :: _, _ :: _, _, _, i + 1, h, r => ⟨h.1, AllV.set i h.2 r⟩
  | [], _ :: _, _, _, _, h, _ => h.elim
  | _ :: _, [], _, _, _, h, _ => h.elim
theorem ixn_nat {n j : Nat} (hj : j < n) : ixN n (j : Int) = some j := by
  unfold ixN
  rw [if_pos (by omega), if_pos (by omega)]
  simp
theorem insOk_ix {F : List FRow} {I : List Int} : InsOk F I ↔ I.length = (insP F).length ∧ ∀ (i : Nat) q v, (insP F)[i]? = some q → I[i]? = some v → Within v q.2.1 := by
  constructor
  · rintro ⟨h1, h2⟩
    refine ⟨h1, fun i q v a b => h2 (q, v) (List.mem_of_getElem? (i := i) ?_)⟩
    rw [List.getElem?_zip_eq_some]
    exact ⟨a, b⟩
  · rintro ⟨h1, h2⟩
    refine ⟨h1, fun x hx => ?_⟩
    obtain ⟨i, hi⟩ := List.getElem?_of_mem hx
    obtain ⟨q, v⟩ := x
    rw [List.getElem?_zip_eq_some] at hi
    exact h2 i q v hi.1 hi.2
section
variable {P : Program} {w : World} {K : PySem.W.Frag} {mg : Str → Option Value} {base : Heap}
theorem cal_stays (S : Std K mg "_law_stays_till" s_stays_till) (T : Frees mg) : Cal P w K mg base "_law_stays_till" 1 P_stays_till spStays := by
  obtain ⟨f, fd, F, m⟩ := S
  refine ⟨f, fd, ?_, m, F.kp, F.bindsN fun _ _ _ _ _ _ us hl => match us, hl with | [_, _, _, _], _ => rfl⟩
  have sc := sc_stays_till
  refine F.ok sc (fun vs H Q E h => by obtain ⟨_, _, _, _, _, rfl, _⟩ := h; rfl) fun cdv A outer s H vs Q E hr h => ⟨_, PSs.nox (pss_cons (ps_set (i := 4) sc.nd rfl (Or.inl rfl) (pv 3))
 (pss_cons (ps_for PassesOwn.never rfl (pi_range2 rfl T.range (pa_cons (pv 1) (pa_cons (pe_callB (cLen K) rfl T.len (by decide +kernel) (pa_cons (pv 0) pa_nil)) pa_nil))) (pg_name (i := 5) sc.nd rfl (Or.inl rfl))
 (pss_cons (ps_set (i := 4) sc.nd rfl (Or.inl rfl) (pe_op op_sub (pv 4) (pe_callTy call_int1 rfl T.int (by decide +kernel) (pa_cons (pe_cmpR (oIn K) (pv 2) (pe_ix (ixt K) (pe_ix (ixt K) (pv 0) (pv 5) (fun _ _ => rfl)) pe_int (fun _ _ => rfl)) (by rfl)) pa_nil))))
 (pss_one (ps_if (pt_cmpR op_eq (pv 4) pe_int (nomark _)) (pss_one (ps_ret (pe_op op_add (pv 5) pe_int))) pss_nil))))
 (pss_one (ps_ret (pe_callB (cLen K) rfl T.len (by decide +kernel) (pa_cons (pv 0) pa_nil)))))), ?_⟩
  obtain ⟨pb, bs, D, st, m, rfl, ⟨vb, hpb, avb⟩, hl, hs, hm, hQ⟩ := h
  have hvl := avb.length
  refine ⟨_, rfl, _, rfl, _, rfl, pb, _, rfl, .inr (SqT.of hpb), _, _, rfl, ⟨by omega, by omega, by omega, by omega⟩, ?_⟩
  rw [show ((vb.length : Int) - (st : Int)).toNat = bs.length - st by omega]
  refine for_range (n := bs.length - st) (fun i σ H' => ∃ (v5 : Option V), σ = [some (.ref pb), some (.int (st : Int)), some (.str D), some (.int (m : Int)), some (.int ((m : Int) - (cnt D bs st (st + i) : Int))), v5] ∧ H' = H ∧ cnt D bs st (st + i) < m) ⟨none, ?_, rfl, ?_⟩ ?_ ?_
  · rw [Nat.add_zero, cnt_zero (Nat.le_refl _), Int.natCast_zero, Int.sub_zero]; rfl
  · rw [Nat.add_zero, cnt_zero (Nat.le_refl _)]; omega
  · rintro i σ H' hi ⟨v5, rfl, rfl, hc⟩
    have hil : st + i < vb.length := by omega
    obtain ⟨x, hx, a, q, r, hv, ha, hq, hr'⟩ := avb.get (List.getElem?_eq_getElem hil)
    have e0 : ((st : Int) + (i : Int)) = ((st + i : Nat) : Int) := by omega
    rw [e0]
    refine ⟨_, rfl, _, rfl, _, rfl, _, rfl, pb, _, _, .ref a, rfl, rfl, SqT.of hpb, atI_nat (j := st + i) (by rw [List.getElem?_eq_getElem hil, hv]), a, _, _, .ref q, rfl, rfl, SqT.of ha, atI_nat (j := 0) rfl, q, _, rfl, .inr (SqT.of hq), rfl, flat_strs, .inr ⟨_, rfl, _, _, rfl, rfl, ?_⟩⟩
    rw [inV_str]
    have hst := cnt_step (D := D) hx (show st ≤ st + i by omega)
    have e1 : ((m : Int) - (cnt D bs st (st + i) : Int)) - (if (if false = true then !decide (D ∈ x.1) else decide (D ∈ x.1)) = true then 1 else 0) = (m : Int) - (cnt D bs st (st + (i + 1)) : Int) := by
      rw [← Nat.add_assoc, hst]
      by_cases h : D ∈ x.1
      · simp [h]; omega
      · simp [h]
    show gName 4 (V.int (((m : Int) - (cnt D bs st (st + i) : Int)) - (if (if false = true then !decide (D ∈ x.1) else decide (D ∈ x.1)) = true then 1 else 0))) _ _ _
    rw [e1]
    refine ⟨_, rfl, rfl, _, rfl, ?_⟩
    by_cases hz : (m : Int) - (cnt D bs st (st + (i + 1)) : Int) = 0
    · rw [show decide (V.int ((m : Int) - (cnt D bs st (st + (i + 1)) : Int)) = V.int 0) = true from decide_eq_true (by rw [hz])]
      refine iteT ⟨_, rfl, _, _, rfl, rfl, ?_⟩
      have e2 : (((st + i : Nat) : Int) + 1) = ((st + i + 1 : Nat) : Int) := by omega
      show Q (V.int (((st + i : Nat) : Int) + 1)) _
      rw [e2]
      exact hQ _ _ (by omega) (fun t ht => Nat.lt_of_le_of_lt (cnt_mono (by omega)) hc) (Kp.refl _ _)
    · rw [show decide (V.int ((m : Int) - (cnt D bs st (st + (i + 1)) : Int)) = V.int 0) = false from decide_eq_false (fun z => hz (V.int.inj z))]
      refine iteF ⟨_, rfl, rfl, ?_⟩
      have h3 : cnt D bs st (st + (i + 1)) ≤ cnt D bs st (st + i) + 1 := by
        rw [← Nat.add_assoc, hst]; split <;> omega
      omega
  · rintro σ H' ⟨v5, rfl, rfl, hc⟩
    refine ⟨_, rfl, pb, _, rfl, .inr (SqT.of hpb), ?_⟩
    rw [hvl]
    exact hQ _ _ (Nat.le_refl _) (fun t ht => Nat.lt_of_le_of_lt (cnt_mono (by omega)) hc) (Kp.refl _ _)
theorem cal_other (S : Std K mg "_law_otherwise" s_otherwise) (T : Frees mg) (cdraw : Cal P w K mg base "_law_draw" 1 P_draw spDraw) : Cal P w K mg base "_law_otherwise" 2 P_otherwise spOther := by
  obtain ⟨f, fd, F, m⟩ := S
  obtain ⟨fdraw, ddraw, G_draw, m_draw, k_draw, b_draw⟩ := cdraw
  refine ⟨f, fd, ?_, m, F.kp, F.bindsN fun _ _ _ _ _ _ us hl => match us, hl with | [_, _, _, _, _], _ => rfl⟩
  have sc := sc_otherwise
  refine F.ok sc (fun vs H Q E h => by obtain ⟨_, _, _, _, _, _, _, _, _, rfl, _⟩ := h; rfl) fun cdv A outer s H vs Q E hr h => ⟨_, PSs.nox (pss_cons (ps_setLc (i := 5) (own := [("_law_row", 6)]) rfl sc.nd rfl rfl (sw_true rfl rfl rfl (by decide +kernel)) (PI.toK (t' := iTup K _) (pi_tup (pv 1))) (blkOk_by (N := N_otherwise) (sc := defScope s_otherwise) (by decide +kernel)) (fun _ _ _ _ _ => (pg_name (i := 6) sc.nd rfl (Or.inl rfl))) (fun _ _ _ _ _ => pts_one (pt_cmpR op_eq (pe_ix (ixt K) (pv 6) pe_int (fun _ _ => rfl)) pe_str (nomark _))) (fun _ _ _ _ _ => (pv 6)))
 (pss_cons (ps_set (i := 7) sc.nd rfl (Or.inl rfl) (pe_callTy (cList K) rfl T.list (by decide +kernel) (pa_cons (pv 2) pa_nil)))
 (pss_cons (ps_for PassesOwn.never rfl (pi_range2 rfl T.range (pa_cons (pv 4) (pa_cons (pe_callB (cLen K) rfl T.len (by decide +kernel) (pa_cons (pv 2) pa_nil)) pa_nil))) (pg_name (i := 8) sc.nd rfl (Or.inl rfl))
 (pss_cons (ps_set (i := 9) sc.nd rfl (Or.inl rfl) (pe_callTy (cList K) rfl T.list (by decide +kernel) (pa_cons (pe_ix (ixt K) (pe_ix (ixt K) (pv 2) (pv 8) (fun _ _ => rfl)) pe_int (fun _ _ => rfl)) pa_nil)))
 (pss_cons (ps_for PassesOwn.never rfl (PI.toK (t' := iEnum K _) (pi_enum rfl T.enumerate (pa_cons (pv 5) pa_nil))) (PG.toK (t' := gTup K 2 _) (pg_tup rfl (pgs_cons (pg_name (i := 10) sc.nd rfl (Or.inl rfl)) (pgs_cons (pg_name (i := 6) sc.nd rfl (Or.inl rfl)) pgs_nil))))
 (pss_one (ps_if (pt_cmpR op_eq (pe_ix (ixt K) (pv 6) pe_int (fun _ _ => rfl)) (pv 3) (nomark _)) (pss_one (ps_asg (pe_call G_draw (hr.mono (by decide)) rfl m_draw k_draw b_draw .nil pass0 (pa_cons (pv 0) (pa_cons (pe_op op_oneShl pe_int (pe_ix (ixt K) (pv 6) pe_int (fun _ _ => rfl))) pa_nil))) (pg_sub (pv 9) (pv 10) set_list))) pss_nil)))
 (pss_one (ps_asg (pe_tup (pa_cons (pe_ix (ixt K) (pe_ix (ixt K) (pv 2) (pv 8) (fun _ _ => rfl)) pe_int (fun _ _ => rfl)) (pa_cons (pe_callTy (cTup K) rfl T.tuple (by decide +kernel) (pa_cons (pv 9) pa_nil)) pa_nil))) (pg_sub (pv 7) (pv 8) set_list))))))
 (pss_one (ps_ret (pe_callTy (cTup K) rfl T.tuple (by decide +kernel) (pa_cons (pv 7) pa_nil))))))), ?_⟩
  obtain ⟨d, c, pf, pb, Fl, C, st, n, bs, rfl, D, ⟨vf, hpf, avf⟩, hlen, hiw, ⟨vb, hpb, avb⟩, hbl, hbi, hst, hQ⟩ := h
  have hvl := avb.length
  -- the ins
  refine ⟨_, rfl, pf, rfl, ⟨_, SqT.of hpf⟩, fun pi hpi => ?_⟩
  have npi := D.ne hpi
  refine lc_tup (xs := vf) (fun i H' => ∃ vi, H' pi = some (.lst vi) ∧ AllV (IsInR H) vi (insP (Fl.take i)) ∧ Kp [] H H') ⟨[], upd_same .., trivial, Kp.new hpi⟩ (fun i H' _ ⟨_, _, _, k⟩ => SqT.of (k.at hpf (by simp))) ?_ ?_
  · rintro i v H' hv ⟨vi, h1, ab, k⟩
    obtain ⟨r, hr0, hrow⟩ := avf.get hv
    have hi : i < 40 := by
      have := (List.getElem?_eq_some_iff.mp hr0).1
      omega
    have hlb : vi.length < sizeLine := by
      rw [ab.length]
      unfold insP
      have := List.length_filterMap_le FRow.in? (Fl.take i)
      rw [List.length_take] at this
      exact Nat.lt_of_le_of_lt (show _ ≤ 40 by omega) (by decide)
    rw [take_snoc hr0, insP_snoc]
    cases r with
    | inr p w c' =>
      obtain ⟨a, rfl, ha⟩ := hrow
      exact ⟨rfl, _, rfl, a, _, _, .str "in", rfl, rfl, SqT.of (k.tup ha), atI_nat (j := 0) rfl, rfl, _, rfl, iteT ⟨_, rfl, vi, h1, hlb, _, upd_same .., ab.snoc ⟨a, rfl, ha⟩, k.fresh hpi⟩⟩
    | box p w c' k' e =>
      obtain ⟨a, u, rfl, ha, _⟩ := hrow
      exact ⟨rfl, _, rfl, a, _, _, .str "box", rfl, rfl, SqT.of (k.tup ha), atI_nat (j := 0) rfl, rfl, _, rfl, iteF ⟨vi, h1, by simpa using ab, k⟩⟩
    | wire p w e =>
      obtain ⟨a, u, rfl, ha, _⟩ := hrow
      exact ⟨rfl, _, rfl, a, _, _, .str "wire", rfl, rfl, SqT.of (k.tup ha), atI_nat (j := 0) rfl, rfl, _, rfl, iteF ⟨vi, h1, by simpa using ab, k⟩⟩
    | out p w e =>
      obtain ⟨a, u, rfl, ha, _⟩ := hrow
      exact ⟨rfl, _, rfl, a, _, _, .str "out", rfl, rfl, SqT.of (k.tup ha), atI_nat (j := 0) rfl, rfl, _, rfl, iteF ⟨vi, h1, by simpa using ab, k⟩⟩
  rintro H1 ⟨vi, hi1, avi, k1⟩
  rw [avf.length, List.take_length] at avi
  have hil : vi.length ≤ 40 := by
    rw [avi.length]
    exact Nat.le_trans (List.length_filterMap_le ..) hlen
  -- the beats anew
  refine ⟨_, rfl, pb, _, rfl, .inr (SqT.of (k1.tup hpb)), fun pd hpd => ?_⟩
  have D1 := D.keep k1
  have npd := D1.ne hpd
  have npip : pi ≠ pd := ne_of_none hi1 hpd
  have k2 : Kp [] H1 (upd H1 pd (.lst vb)) := Kp.new hpd
  have g2 : upd H1 pd (.lst vb) pd = some (.lst vb) := upd_same ..
  generalize upd H1 pd (.lst vb) = H2 at k2 g2
  have hpdH : H pd = none := k1.free hpd (by simp)
  have k12 := k1.trans k2
  refine ⟨_, rfl, _, rfl, pb, _, rfl, .inr (SqT.of (k12.tup hpb)), _, _, rfl, ⟨by omega, by omega, by omega, by omega⟩, ?_⟩
  rw [show ((vb.length : Int) - (st : Int)).toNat = bs.length - st by omega]
  refine for_range (n := bs.length - st) (fun i σ H' => ∃ (v6 v8 v9 v10 : Option V) (us : List V) (bs' : Beats), σ = [some (.ref d), some (.ref pf), some (.ref pb), some (.str C), some (.int (st : Int)), some (.ref pi), v6, some (.ref pd), v8, v9, v10] ∧ H' pd = some (.lst us) ∧ AllV (IsBt H') us bs' ∧ Oth Fl C st bs bs' ∧ Kp [d, c] H H' ∧ Deck H' d c (n + 50 * (bs.length - st - i)) ∧ H' pi = some (.lst vi))
    ⟨_, _, _, _, vb, bs, rfl, g2, avb.imp fun _ _ z => z.keep k12, ⟨rfl, fun j x x' h1 h2 => ?_⟩, k12.up, (D.keep k12).less (by omega), k2.at hi1 (by simp)⟩ ?_ ?_
  · rw [h1] at h2
    cases h2
    exact ⟨rfl, hbi x (List.mem_of_getElem? h1), fun _ => rfl, fun _ _ _ _ => rfl⟩
  · rintro i σ Ha hi ⟨v6, v8, v9, v10, us, bs', rfl, hda, aus, ho, ka, Da, hia⟩
    obtain ⟨jb, hjb⟩ : ∃ j, bs.length - st - i = j + 1 := ⟨bs.length - st - i - 1, by omega⟩
    have hjb' : bs.length - st - (i + 1) = jb := by omega
    rw [hjb] at Da
    rw [hjb']
    have hil' : st + i < vb.length := by omega
    obtain ⟨x, hx, a, q, r, hv, ha, hq, hr'⟩ := avb.get (List.getElem?_eq_getElem hil')
    have hvx : vb[st + i]? = some (.ref a) := by rw [List.getElem?_eq_getElem hil', hv]
    have hxi := insOk_ix.mp (hbi x (List.mem_of_getElem? hx))
    have e0 : ((st : Int) + (i : Int)) = ((st + i : Nat) : Int) := by omega
    rw [e0]
    refine ⟨_, rfl, _, rfl, pb, _, _, .ref a, rfl, rfl, SqT.of (ka.tup hpb), atI_nat (j := st + i) hvx, a, _, _, .ref r, rfl, rfl, SqT.of (ka.tup ha), atI_nat (j := 1) rfl, r, _, rfl, .inr (SqT.of (ka.tup hr')), fun ps hps => ?_⟩
    have nps := Da.ne hps
    have npsi : pi ≠ ps := ne_of_none hia hps
    have npsd : pd ≠ ps := ne_of_none hda hps
    have k3 : Kp [] Ha (upd Ha ps (.lst (x.2.map V.int))) := Kp.new hps
    have g3 : upd Ha ps (.lst (x.2.map V.int)) ps = some (.lst (x.2.map V.int)) := upd_same ..
    generalize upd Ha ps (.lst (x.2.map V.int)) = H3 at k3 g3
    have ka3 := ka.trans k3.up
    -- its ins, one by one
    refine ⟨_, rfl, pi, _, rfl, SqL.of (k3.at hia (by simp)), ?_⟩
    refine for_it (walk_enum (xs := vi)) (fun t σ H' => ∃ (v6 v10 : Option V) (is : List Int), σ = [some (.ref d), some (.ref pf), some (.ref pb), some (.str C), some (.int (st : Int)), some (.ref pi), v6, some (.ref pd), some (.int ((st + i : Nat) : Int)), some (.ref ps), v10] ∧ H' ps = some (.lst (is.map V.int)) ∧ InsOk Fl is ∧ (∀ (i : Nat) q, (insP Fl)[i]? = some q → q.2.2 ≠ C → is[i]? = x.2[i]?) ∧ Kp [d, c] Ha H' ∧ Deck H' d c (n + 50 * jb + 10 + (40 - t)))
      ⟨_, _, x.2, rfl, g3, hbi x (List.mem_of_getElem? hx), fun _ _ _ _ => rfl, k3.up, (Da.keep k3).less (by omega)⟩ (fun t σ H' _ ⟨_, _, _, _, _, _, _, k, _⟩ => SqL.of (k.at hia (by simp [Ne.symm npi.1, Ne.symm npi.2]))) ?_ ?_
    · rintro t v σ Hb Hc ht ⟨v6, v10, is, rfl, his, hio, his', kb, Db⟩ ⟨Tp, y1, y2, rfl, hTp, rfl, hy1, hy2⟩
      cases hy1
      obtain ⟨qr, hqr, hrow⟩ := avi.get hy2
      have kT : Kp [] Hb (upd Hb Tp (.tup [.int (t : Nat), y2])) := Kp.new hTp
      have gT : upd Hb Tp (.tup [.int (t : Nat), y2]) Tp = some (.tup [.int (t : Nat), y2]) := upd_same ..
      have his1 := kT.at his (by simp)
      generalize upd Hb Tp (.tup [.int (t : Nat), y2]) = Hc at kT gT his1
      obtain ⟨ar, rfl, har⟩ := hrow
      have har3 := kT.tup (kb.tup (ka.tup har))
      have Dc := Db.keep kT
      have htl : t < 40 := by omega
      have htis : t < is.length := by rw [hio.1, ← avi.length]; exact ht
      obtain ⟨jt, hjt⟩ : ∃ j, 40 - t = j + 1 := ⟨40 - t - 1, by omega⟩
      have hjt' : 40 - (t + 1) = jt := by omega
      rw [hjt] at Dc
      rw [hjt']
      refine ⟨Tp, _, rfl, SqT.of gT, rfl, _, _, rfl, _, _, rfl, rfl, ?_⟩
      refine ⟨_, rfl, ar, _, _, .str qr.2.2, rfl, rfl, SqT.of har3, atI_nat (j := 3) rfl, _, rfl, rfl, _, rfl, ?_⟩
      by_cases hC : qr.2.2 = C
      · rw [show decide (V.str qr.2.2 = V.str C) = true from decide_eq_true (by rw [hC])]
        have hw : qr.2.1 ≤ 20 := hiw qr (List.mem_of_getElem? hqr)
        have h30 : 2 ^ qr.2.1 < 1073741824 := Nat.lt_of_le_of_lt (Nat.pow_le_pow_right (by decide) hw) (by decide)
        refine iteT ⟨_, rfl, _, rfl, ar, _, _, .int (qr.2.1 : Int), rfl, rfl, SqT.of har3, atI_nat (j := 2) rfl, qr.2.1, rfl, rfl, by omega, ?_⟩
        refine ⟨d, c, 2 ^ qr.2.1, n + 50 * jb + 10 + jt, (by rw [Int.natCast_pow]; rfl), Dc.less (by omega), Nat.pow_pos (by decide), h30, fun rr He hrr ke De => ?_⟩
        have hise := ke.at his1 (by simp [Ne.symm nps.1, Ne.symm nps.2])
        have kD : Kp [ps] He (upd He ps (.lst ((is.map V.int).set t (.int (rr : Int))))) := Kp.put hise (by simp)
        have hps3 : H3 ps = some (.lst (x.2.map V.int)) := g3
        refine ⟨_, rfl, _, rfl, ps, _, _, t, rfl, rfl, hise, ixn_nat (by rw [List.length_map]; exact htis), _, _, is.set t (rr : Int), rfl, by rw [upd_same, List.map_set], ?_, ?_, ?_, De.kept kD (by simp [nps.1]) (by simp [nps.2])⟩
        · obtain ⟨g1', g2'⟩ := insOk_ix.mp hio
          refine insOk_ix.mpr ⟨by rw [List.length_set]; exact g1', fun i q v e1 e2 => ?_⟩
          by_cases hti : t = i
          · subst hti
            rw [hqr] at e1
            cases e1
            rw [List.getElem?_set_self (by exact htis)] at e2
            cases e2
            exact within_of hrr
          · rw [List.getElem?_set_ne hti] at e2
            exact g2' i q v e1 e2
        · intro i q e1 e2
          have hti : t ≠ i := fun z => by
            subst z
            rw [hqr] at e1
            cases e1
            exact e2 hC
          rw [List.getElem?_set_ne hti]
          exact his' i q e1 e2
        · exact ((kb.trans kT.up).trans ke).fresh hps
      · rw [show decide (V.str qr.2.2 = V.str C) = false from decide_eq_false (fun z => hC (V.str.inj z))]
        exact iteF ⟨_, _, is, rfl, his1, hio, his', kb.trans kT.up, Dc.less (by omega)⟩
    · rintro σ Hb ⟨v6, v10, is, rfl, his, hio, his', kb, Db⟩
      have kab := ka.trans kb
      have hdb := kb.at hda (by simp [Ne.symm npd.1, Ne.symm npd.2])
      have hib := kb.at hia (by simp [Ne.symm npi.1, Ne.symm npi.2])
      have ausb := aus.imp fun _ _ z => z.keep kb
      refine ⟨_, rfl, _, rfl, pb, _, _, .ref a, rfl, rfl, SqT.of (kab.tup hpb), atI_nat (j := st + i) hvx, a, _, _, .ref q, rfl, rfl, SqT.of (kab.tup ha), atI_nat (j := 0) rfl, _, rfl, ps, _, rfl, .inl ⟨SqL.of his, fun pt hpt => ?_⟩⟩
      have k5 : Kp [] Hb (upd Hb pt (.tup (is.map V.int))) := Kp.new hpt
      have g5 : upd Hb pt (.tup (is.map V.int)) pt = some (.tup (is.map V.int)) := upd_same ..
      generalize upd Hb pt (.tup (is.map V.int)) = H5 at k5 g5
      refine ⟨(by show 2 ≤ sizeLine; decide), fun pp hpp => ?_⟩
      have k6 : Kp [] H5 (upd H5 pp (.tup [.ref q, .ref pt])) := Kp.new hpp
      have g6 : upd H5 pp (.tup [.ref q, .ref pt]) pp = some (.tup [.ref q, .ref pt]) := upd_same ..
      have g5' := k6.tup g5
      generalize upd H5 pp (.tup [.ref q, .ref pt]) = H6 at k6 g6 g5'
      have kb6 := k5.trans k6
      have hd6 := kb6.at hdb (by simp)
      have hl6 : us.length = bs.length := by rw [aus.length, ho.len]
      have kf : Kp [pd] H6 (upd H6 pd (.lst (us.set (st + i) (.ref pp)))) := Kp.put hd6 (by simp)
      refine ⟨_, rfl, _, rfl, pd, _, _, st + i, rfl, rfl, hd6, ixn_nat (by omega), _, _, _, _, us.set (st + i) (.ref pp), bs'.set (st + i) (x.1, is), rfl, upd_same .., ?_, ?_, (kab.trans kb6.up).fresh hpdH, ((Db.keep kb6).less (by omega)).kept kf (by simp [npd.1]) (by simp [npd.2]), ?_⟩
      · exact ((ausb.imp fun _ _ z => z.keep kb6).imp fun _ _ z => z.keep kf).set _ ⟨pp, q, pt, rfl, kf.tup g6, kf.tup (kb6.tup (kab.tup hq)), kf.tup g5'⟩
      · refine ⟨by rw [List.length_set]; exact ho.len, fun jj y y' e1 e2 => ?_⟩
        by_cases hjj : st + i = jj
        · subst hjj
          rw [hx] at e1
          cases e1
          rw [List.getElem?_set_self (by rw [ho.len]; omega)] at e2
          cases e2
          exact ⟨rfl, hio, fun z => by omega, his'⟩
        · rw [List.getElem?_set_ne hjj] at e2
          exact ho.at_ jj y y' e1 e2
      · rw [upd_ne npip]
        exact kb6.at hib (by simp)
  · rintro σ Ha ⟨v6, v8, v9, v10, us, bs', rfl, hda, aus, ho, ka, Da, hia⟩
    refine ⟨_, rfl, pd, _, rfl, .inl ⟨SqL.of hda, fun t ht => ?_⟩⟩
    have kt : Kp [] Ha (upd Ha t (.tup us)) := Kp.new ht
    exact hQ t bs' _ ⟨us, upd_same .., aus.imp fun _ _ z => z.keep kt⟩ ho (ka.trans kt.up) ((Da.keep kt).less (by omega))
end
end WT

set_option Elab.async false
set_option linter.all false
set_option maxRecDepth 100000
set_option maxHeartbeats 4000000
/-! The clocks of names, plainly; rows as data. -/
namespace WT
open PySem PySem.Spec PyProof.Rows L2
def exD : Ex → PyData
  | .name x => .tuple [.str "name", .str x]
  | .num w k => .tuple [.str "num", .int (w : Int), .int (k : Int)]
  | .not a => .tuple [.str "not", exD a]
  | .bin o a b => .tuple [.str (opN o), exD a, exD b]
  | .pick a b c => .tuple [.str "pick", exD a, exD b, exD c]
  | .cut w a => .tuple [.str "cut", .int (w : Int), exD a]
  | .bit k a => .tuple [.str "bit", .int (k : Int), exD a]
theorem exD_dp {K : PySem.W.Frag} {H : Hp} : ∀ {e : Ex} {v : V}, IsEx H e v → Dp K H v (exD e)
  | .name x, v, ⟨a, h1, h2⟩ => h1 ▸ .tup (SqT.of h2) (.cons (.str _) (.cons (.str _) .nil))
  | .num w k, v, ⟨a, h1, h2⟩ => h1 ▸ .tup (SqT.of h2) (.cons (.str _) (.cons (.int _) (.cons (.int _) .nil)))
  | .not e, v, ⟨a, u, h1, h2, h3⟩ => h1 ▸ .tup (SqT.of h2) (.cons (.str _) (.cons (exD_dp h3) .nil))
  | .bin o e f, v, ⟨a, u, u', h1, h2, h3, h4⟩ => h1 ▸ .tup (SqT.of h2) (.cons (.str _) (.cons (exD_dp h3) (.cons (exD_dp h4) .nil)))
  | .pick e f g, v, ⟨a, u, u', u'', h1, h2, h3, h4, h5⟩ => h1 ▸ .tup (SqT.of h2) (.cons (.str _) (.cons (exD_dp h3) (.cons (exD_dp h4) (.cons (exD_dp h5) .nil))))
  | .cut w e, v, ⟨a, u, h1, h2, h3⟩ => h1 ▸ .tup (SqT.of h2) (.cons (.str _) (.cons (.int _) (.cons (exD_dp h3) .nil)))
  | .bit k e, v, ⟨a, u, h1, h2, h3⟩ => h1 ▸ .tup (SqT.of h2) (.cons (.str _) (.cons (.int _) (.cons (exD_dp h3) .nil)))
theorem exD_lay : ∀ {e : Ex}, (∀ x ∈ e.names, strOk' x = true) → (exD e).canLay0 = true
  | .name x, h => by
    have := h x (by simp [Ex.names])
    have w : PyData.canLay0 (.str "name") = true := by decide +kernel
    have w2 : PyData.canLay0 (.str x) = true := this
    simp [exD, PyData.canLay0, PyData.canLayAll0] at w w2 ⊢
    exact ⟨w, w2⟩
  | .num w k, h => by
    have w : PyData.canLay0 (.str "num") = true := by decide +kernel
    simp [exD, PyData.canLay0, PyData.canLayAll0] at w ⊢
    exact w
  | .not a, h => by
    have w : PyData.canLay0 (.str "not") = true := by decide +kernel
    have w1 := exD_lay (e := a) h
    simp [exD, PyData.canLay0, PyData.canLayAll0] at w ⊢
    exact ⟨w, w1⟩
  | .bin o a b, h => by
    have w : PyData.canLay0 (.str (opN o)) = true := by cases o <;> decide +kernel
    have w1 := exD_lay (e := a) fun x hx => h x (by simp [Ex.names, hx])
    have w2 := exD_lay (e := b) fun x hx => h x (by simp [Ex.names, hx])
    simp [exD, PyData.canLay0, PyData.canLayAll0] at w ⊢
    exact ⟨w, w1, w2⟩
  | .pick a b c, h => by
    have w : PyData.canLay0 (.str "pick") = true := by decide +kernel
    have w1 := exD_lay (e := a) fun x hx => h x (by simp [Ex.names, hx])
    have w2 := exD_lay (e := b) fun x hx => h x (by simp [Ex.names, hx])
    have w3 := exD_lay (e := c) fun x hx => h x (by simp [Ex.names, hx])
    simp [exD, PyData.canLay0, PyData.canLayAll0] at w ⊢
    exact ⟨w, w1, w2, w3⟩
  | .cut k a, h => by
    have w : PyData.canLay0 (.str "cut") = true := by decide +kernel
    have w1 := exD_lay (e := a) h
    simp [exD, PyData.canLay0, PyData.canLayAll0] at w ⊢
    exact ⟨w, w1⟩
  | .bit k a, h => by
    have w : PyData.canLay0 (.str "bit") = true := by decide +kernel
    have w1 := exD_lay (e := a) h
    simp [exD, PyData.canLay0, PyData.canLayAll0] at w ⊢
    exact ⟨w, w1⟩
theorem exD_depth : ∀ {e : Ex}, (exD e).depth ≤ e.depth
  | .name x => by simp [exD, PyData.depth, PyData.depthAll, Ex.depth]
  | .num w k => by simp [exD, PyData.depth, PyData.depthAll, Ex.depth]
  | .not a => by
    have := exD_depth (e := a)
    simp only [exD, PyData.depth, PyData.depthAll, Ex.depth]; omega
  | .bin o a b => by
    have := exD_depth (e := a)
    have := exD_depth (e := b)
    simp only [exD, PyData.depth, PyData.depthAll, Ex.depth]; omega
  | .pick a b c => by
    have := exD_depth (e := a)
    have := exD_depth (e := b)
    have := exD_depth (e := c)
    simp only [exD, PyData.depth, PyData.depthAll, Ex.depth]; omega
  | .cut k a => by
    have := exD_depth (e := a)
    simp only [exD, PyData.depth, PyData.depthAll, Ex.depth]; omega
  | .bit k a => by
    have := exD_depth (e := a)
    simp only [exD, PyData.depth, PyData.depthAll, Ex.depth]; omega
def rowD : FRow → PyData
  | .wire p w e => .tuple [.str "wire", .str p, .int (w : Int), exD e]
  | .out p w e => .tuple [.str "out", .str p, .int (w : Int), exD e]
  | _ => .none
theorem rowD_dp {K : PySem.W.Frag} {H : Hp} {r : FRow} {v : V} (hu : isU r = true) (h : IsFRow H v r) : Dp K H v (rowD r) := by
  cases r with
  | wire p w e => obtain ⟨a, u, h1, h2, h3⟩ := h; exact h1 ▸ .tup (SqT.of h2) (.cons (.str _) (.cons (.str _) (.cons (.int _) (.cons (exD_dp h3) .nil))))
  | out p w e => obtain ⟨a, u, h1, h2, h3⟩ := h; exact h1 ▸ .tup (SqT.of h2) (.cons (.str _) (.cons (.str _) (.cons (.int _) (.cons (exD_dp h3) .nil))))
  | inr => cases hu
  | box => cases hu
/-- a row fit for comparing -/
def RowS (r : FRow) : Prop := isU r = true ∧ strOk' r.path = true ∧ ∀ e, r.ex? = some e → e.depth ≤ 3 ∧ ∀ x ∈ e.names, strOk' x = true
theorem rowD_lay {r : FRow} (h : RowS r) : (rowD r).canLay0 = true := by
  obtain ⟨hu, hp, he⟩ := h
  cases r with
  | wire p w e =>
    have w1 : PyData.canLay0 (.str "wire") = true := by decide +kernel
    have w2 : PyData.canLay0 (.str p) = true := hp
    have w3 := exD_lay (he e rfl).2
    simp [rowD, PyData.canLay0, PyData.canLayAll0] at w1 w2 ⊢
    exact ⟨w1, w2, w3⟩
  | out p w e =>
    have w1 : PyData.canLay0 (.str "out") = true := by decide +kernel
    have w2 : PyData.canLay0 (.str p) = true := hp
    have w3 := exD_lay (he e rfl).2
    simp [rowD, PyData.canLay0, PyData.canLayAll0] at w1 w2 ⊢
    exact ⟨w1, w2, w3⟩
  | inr => cases hu
  | box => cases hu
theorem rowD_depth {r : FRow} (h : RowS r) : (rowD r).depth ≤ 4 := by
  obtain ⟨hu, hp, he⟩ := h
  cases r with
  | wire p w e =>
    have := exD_depth (e := e)
    have := (he e rfl).1
    simp only [rowD, PyData.depth, PyData.depthAll]; omega
  | out p w e =>
    have := exD_depth (e := e)
    have := (he e rfl).1
    simp only [rowD, PyData.depth, PyData.depthAll]; omega
  | inr => cases hu
  | box => cases hu
theorem rowD_shaped {r : FRow} (h : RowS r) : SeqAt.shaped (rowD r) = true := by
  unfold SeqAt.shaped
  rw [rowD_lay h, Bool.true_and]
  exact decide_eq_true (by have := rowD_depth h; omega)
theorem rowsD_shaped {l : List FRow} (h : ∀ r ∈ l, RowS r) : SeqAt.shaped (.list (l.map rowD)) = true := by
  have h1 : ∀ {l : List FRow}, (∀ r ∈ l, RowS r) → PyData.canLayAll0 (l.map rowD) = true ∧ PyData.depthAll (l.map rowD) ≤ 4 := by
    intro l
    induction l with
    | nil => intro _; exact ⟨by simp [PyData.canLayAll0], by simp [PyData.depthAll]⟩
    | cons r l ih =>
      intro h
      obtain ⟨a, b⟩ := ih fun x hx => h x (List.mem_cons_of_mem _ hx)
      have c := rowD_lay (h r List.mem_cons_self)
      have d := rowD_depth (h r List.mem_cons_self)
      rw [List.map_cons]
      refine ⟨?_, ?_⟩
      · simp only [PyData.canLayAll0, c, a, Bool.and_self]
      · simp only [PyData.depthAll]; omega
  obtain ⟨a, b⟩ := h1 h
  unfold SeqAt.shaped
  rw [Bool.and_eq_true]
  refine ⟨by simpa only [PyData.canLay0] using a, decide_eq_true ?_⟩
  simp only [PyData.depth]
  omega
theorem rowD_eqv {r s : FRow} (h1 : isU r = true) (h2 : isU s = true) (hs : RowS s) : (r.path ≠ s.path → PyData.eqv (rowD r) (rowD s) = false) ∧ (r = s → PyData.eqv (rowD r) (rowD s) = true) := by
  refine ⟨fun hne => ?_, fun e => by rw [e]; exact SeqAt.eqv_refl _ (rowD_lay hs)⟩
  cases r with
  | wire p w e =>
    cases s with
    | wire p' w' e' =>
      have : (p == p') = false := by simpa using (show p ≠ p' from hne)
      simp only [rowD, PyData.eqv, PyData.eqvAll, this, Bool.false_and, Bool.and_false]
    | out p' w' e' =>
      have : (p == p') = false := by simpa using (show p ≠ p' from hne)
      simp only [rowD, PyData.eqv, PyData.eqvAll, this, Bool.false_and, Bool.and_false]
    | inr => cases h2
    | box => cases h2
  | out p w e =>
    cases s with
    | wire p' w' e' =>
      have : (p == p') = false := by simpa using (show p ≠ p' from hne)
      simp only [rowD, PyData.eqv, PyData.eqvAll, this, Bool.false_and, Bool.and_false]
    | out p' w' e' =>
      have : (p == p') = false := by simpa using (show p ≠ p' from hne)
      simp only [rowD, PyData.eqv, PyData.eqvAll, this, Bool.false_and, Bool.and_false]
    | inr => cases h2
    | box => cases h2
  | inr => cases h1
  | box => cases h1
/-! ### clocks -/
def optV : Option Str → V
  | none => .non
  | some c => .str c
def clOf (kv : List (Key × V)) (x : Str) : Option Str := match valV kv (Sum.inr x) with
  | some (.str c) => some c
  | _ => none
/-- the clock of each name, or none -/
structure ClSol (F : List FRow) (cl : Str → Option Str) : Prop where
  inp : ∀ q ∈ insP F, cl q.1 = some q.2.2
  box : ∀ q ∈ boxR F, cl q.1 = some q.2.2.1
  rule : ∀ p e, Rule F p e → cl p = (e.names.filterMap cl).head?
structure CI (F : List FRow) (kv : List (Key × V)) (ks : List Str) : Prop where
  keys : kv.map (·.1) = ks.map Sum.inr
  val : ∀ x ∈ ks, valV kv (Sum.inr x) = some (optV (clOf kv x))
  sub : ∀ x ∈ ks, x ∈ F.map FRow.path
  nd : ks.Nodup
  inp : ∀ q ∈ insP F, q.1 ∈ ks ∧ clOf kv q.1 = some q.2.2
  box : ∀ q ∈ boxR F, q.1 ∈ ks ∧ clOf kv q.1 = some q.2.2.1
  rule : ∀ p e, Rule F p e → p ∈ ks → (∀ x ∈ e.names, x ∈ ks) ∧ clOf kv p = (e.names.filterMap (clOf kv)).head?
theorem clOf_opt {kv : List (Key × V)} {x : Str} {o : Option Str} (h : valV kv (Sum.inr x) = some (optV o)) : clOf kv x = o := by
  unfold clOf
  rw [h]
  cases o <;> rfl
theorem clOf_congr {kv kv' : List (Key × V)} {x : Str} (h : valV kv (Sum.inr x) = valV kv' (Sum.inr x)) : clOf kv x = clOf kv' x := by
  unfold clOf
  rw [h]
theorem fm_congr {α β : Type} {f g : α → Option β} : ∀ {l : List α}, (∀ x ∈ l, f x = g x) → l.filterMap f = l.filterMap g
  | [], _ => rfl
  | a :: l, h => by
    rw [List.filterMap_cons, List.filterMap_cons, h a List.mem_cons_self, fm_congr fun x hx => h x (List.mem_cons_of_mem _ hx)]
theorem CI.put {F : List FRow} {kv : List (Key × V)} {ks : List Str} (h : CI F kv ks) {r : FRow} {e : Ex} (hr : r ∈ F) (nd : (F.map FRow.path).Nodup) (he : Rule F r.path e) (hx : r.ex? = some e) (hk : r.path ∉ ks) (hn : ∀ x ∈ e.names, x ∈ ks) :
    CI F (putK kv (Sum.inr r.path) (optV (e.names.filterMap (clOf kv)).head?)) (ks ++ [r.path]) := by
  have hnk : (Sum.inr r.path : Key) ∉ kv.map (·.1) := by
    rw [h.keys]
    intro z
    obtain ⟨y, hy, e⟩ := List.mem_map.mp z
    exact hk (Sum.inr.inj e ▸ hy)
  have hv : ∀ x, valV (putK kv (Sum.inr r.path) (optV (e.names.filterMap (clOf kv)).head?)) (Sum.inr x) = if x = r.path then some (optV (e.names.filterMap (clOf kv)).head?) else valV kv (Sum.inr x) := fun x => by
    rw [valV_put]
    by_cases z : x = r.path
    · rw [if_pos (congrArg Sum.inr z), if_pos z]
    · rw [if_neg (fun q => z (Sum.inr.inj q)), if_neg z]
  have hc1 : ∀ x, x ≠ r.path → clOf (putK kv (Sum.inr r.path) (optV (e.names.filterMap (clOf kv)).head?)) x = clOf kv x := fun x z => clOf_congr (by rw [hv, if_neg z])
  have hc2 : clOf (putK kv (Sum.inr r.path) (optV (e.names.filterMap (clOf kv)).head?)) r.path = (e.names.filterMap (clOf kv)).head? := clOf_opt (by rw [hv, if_pos rfl])
  have hne : ∀ {x}, x ∈ ks → x ≠ r.path := fun hx z => hk (z ▸ hx)
  refine ⟨?_, fun x hx => ?_, fun x hx => ?_, ?_, fun q hq => ?_, fun q hq => ?_, fun p e' hp hpk => ?_⟩
  · rw [putK_new hnk, List.map_append, List.map_append, h.keys]
    rfl
  · rcases List.mem_append.mp hx with z | z
    · rw [hv, if_neg (hne z), hc1 x (hne z)]
      exact h.val x z
    · rw [List.mem_singleton.mp z, hv, if_pos rfl, hc2]
  · rcases List.mem_append.mp hx with z | z
    · exact h.sub x z
    · rw [List.mem_singleton.mp z]
      exact List.mem_map_of_mem hr
  · refine List.nodup_append.mpr ⟨h.nd, by simp, fun x hx y hy z => ?_⟩
    rw [List.mem_singleton.mp hy] at z
    exact hne hx z
  · obtain ⟨q1, q2⟩ := h.inp q hq
    exact ⟨List.mem_append_left _ q1, by rw [hc1 _ (hne q1)]; exact q2⟩
  · obtain ⟨q1, q2⟩ := h.box q hq
    exact ⟨List.mem_append_left _ q1, by rw [hc1 _ (hne q1)]; exact q2⟩
  · rcases List.mem_append.mp hpk with z | z
    · obtain ⟨q1, q2⟩ := h.rule p e' hp z
      refine ⟨fun x hx => List.mem_append_left _ (q1 x hx), ?_⟩
      rw [hc1 p (hne z), q2]
      exact congrArg List.head? (fm_congr fun x hx => (hc1 x (hne (q1 x hx))).symm)
    · have hpe := List.mem_singleton.mp z
      subst hpe
      have : e' = e := by
        obtain ⟨w, q⟩ := hp
        rcases q with q | q
        · have := nodup_eq nd hr q rfl
          rw [this] at hx
          exact Option.some.inj hx
        · have := nodup_eq nd hr q rfl
          rw [this] at hx
          exact Option.some.inj hx
      subst this
      refine ⟨fun x hx => List.mem_append_left _ (hn x hx), ?_⟩
      rw [hc2]
      exact congrArg List.head? (fm_congr fun x hx => (hc1 x (hne (hn x hx))).symm)
/-- all are known -/
theorem CI.done {F : List FRow} {kv : List (Key × V)} {ks : List Str} (h : CI F kv ks) (hk : ∀ p ∈ upaths F, p ∈ ks) : ClSol F (clOf kv) :=
  ⟨fun q hq => (h.inp q hq).2, fun q hq => (h.box q hq).2, fun p e hp => (h.rule p e hp (hk p (mem_upaths.mpr ⟨e, hp⟩))).2⟩
theorem valV_app {kvs : List (Key × V)} {q : Key × V} {k : Key} : valV (kvs ++ [q]) k = (valV kvs k).or (if q.1 = k then some q.2 else none) := by
  unfold valV
  rw [List.find?_append]
  cases kvs.find? (fun p => decide (p.1 = k)) with
  | some x => rfl
  | none =>
    by_cases h : q.1 = k
    · simp [h]
    · simp [h]
/-- the ins and boxes -/
def FRow.clk? : FRow → Option Str
  | .inr _ _ c => some c | .box _ _ c _ _ => some c | _ => none
def baseR (F : List FRow) : List (Str × Str) := F.filterMap fun r => r.clk?.map fun c => (r.path, c)
theorem baseR_snoc (l : List FRow) (r : FRow) : baseR (l ++ [r]) = baseR l ++ (match r.clk? with | some c => [(r.path, c)] | none => []) := by
  unfold baseR
  rw [List.filterMap_append]
  cases h : r.clk? with
  | none => simp [h]
  | some c => simp [h]
theorem ci_base {F : List FRow} (nd : (F.map FRow.path).Nodup) : CI F ((baseR F).map toK) ((baseR F).map (·.1)) := by
  have hnd : ((baseR F).map (·.1)).Nodup := fm_nodup (fun r : FRow => r.clk?.map fun c => (r.path, c)) (·.1) (fun r a e => by
    obtain ⟨c, _, rfl⟩ := Option.map_eq_some_iff.mp e
    rfl) nd
  have hkd : (((baseR F).map toK).map (·.1)).Nodup := by
    rw [List.map_map, show ((fun x : Key × V => x.1) ∘ toK) = (Sum.inr : Str → Key) ∘ (fun q : Str × Str => q.1) from rfl, ← List.map_map]
    exact nodup_inr hnd
  have hval : ∀ q ∈ baseR F, valV ((baseR F).map toK) (Sum.inr q.1) = some (.str q.2) := fun q hq => valV_mem (q := toK q) hkd (List.mem_map_of_mem hq)
  have hmem : ∀ r ∈ F, ∀ c, r.clk? = some c → (r.path, c) ∈ baseR F := fun r hr c hc => List.mem_filterMap.mpr ⟨r, hr, by rw [hc]; rfl⟩
  refine ⟨by rw [List.map_map, List.map_map]; rfl, fun x hx => ?_, fun x hx => ?_, hnd, fun q hq => ?_, fun q hq => ?_, fun p e hp hpk => ?_⟩
  · obtain ⟨q, hq, rfl⟩ := List.mem_map.mp hx
    have := hval q hq
    rw [this, clOf_opt (o := some q.2) this]
    rfl
  · obtain ⟨q, hq, rfl⟩ := List.mem_map.mp hx
    obtain ⟨r, hr, e⟩ := List.mem_filterMap.mp hq
    obtain ⟨c, _, rfl⟩ := Option.map_eq_some_iff.mp e
    exact List.mem_map_of_mem hr
  · have := hmem _ (mem_insP.mp hq) q.2.2 rfl
    exact ⟨List.mem_map.mpr ⟨_, this, rfl⟩, clOf_opt (o := some q.2.2) (hval _ this)⟩
  · have := hmem _ (mem_boxR.mp hq) q.2.2.1 rfl
    exact ⟨List.mem_map.mpr ⟨_, this, rfl⟩, clOf_opt (o := some q.2.2.1) (hval _ this)⟩
  · exfalso
    obtain ⟨q, hq, e1⟩ := List.mem_map.mp hpk
    obtain ⟨r, hr, e⟩ := List.mem_filterMap.mp hq
    obtain ⟨c, hc, rfl⟩ := Option.map_eq_some_iff.mp e
    obtain ⟨w, h | h⟩ := hp
    · have := nodup_eq nd hr h e1
      subst this
      cases hc
    · have := nodup_eq nd hr h e1
      subst this
      cases hc
/-- what is left -/
def leftR (F : List FRow) (ks : List Str) : List FRow := F.filter fun r => isU r && !decide (r.path ∈ ks)
def readyR (ks : List Str) (l : List FRow) : List FRow := l.filter fun r => (((r.ex?.map Ex.names).getD []).all fun x => decide (x ∈ ks))
theorem mem_leftR {F : List FRow} {ks : List Str} {r : FRow} : r ∈ leftR F ks ↔ r ∈ F ∧ isU r = true ∧ r.path ∉ ks := by
  unfold leftR
  rw [List.mem_filter]
  simp
theorem isU_ex {r : FRow} (h : isU r = true) : ∃ e, r.ex? = some e := by
  cases r with
  | wire p w e => exact ⟨e, rfl⟩
  | out p w e => exact ⟨e, rfl⟩
  | inr => cases h
  | box => cases h
theorem isU_rule {F : List FRow} {r : FRow} (hr : r ∈ F) {e : Ex} (h : r.ex? = some e) : Rule F r.path e := by
  cases r with
  | wire p w e' => cases h; exact ⟨w, .inl hr⟩
  | out p w e' => cases h; exact ⟨w, .inr hr⟩
  | inr => cases h
  | box => cases h
theorem mem_readyR {ks : List Str} {l : List FRow} {r : FRow} {e : Ex} (he : r.ex? = some e) : r ∈ readyR ks l ↔ r ∈ l ∧ ∀ x ∈ e.names, x ∈ ks := by
  unfold readyR
  rw [List.mem_filter, he]
  simp
/-- something is always ready -/
theorem ready_ne {F : List FRow} {wd rk : Str → Nat} (fo : FlatOk F wd rk) {kv : List (Key × V)} {ks : List Str} (h : CI F kv ks) : ∀ (n : Nat) (r : FRow), r ∈ leftR F ks → rk r.path ≤ n → ∃ r', r' ∈ readyR ks (leftR F ks) := by
  have bk : ∀ x ∈ bpaths F, x ∈ ks := fun x hx => by
    rcases mem_bpaths.mp hx with z | z
    · obtain ⟨q, hq, rfl⟩ := List.mem_map.mp z
      exact (h.inp q hq).1
    · obtain ⟨q, hq, rfl⟩ := List.mem_map.mp z
      exact (h.box q hq).1
  intro n
  induction n with
  | zero =>
    intro r hr hn
    obtain ⟨h1, h2, h3⟩ := mem_leftR.mp hr
    obtain ⟨e, he⟩ := isU_ex h2
    refine ⟨r, (mem_readyR he).mpr ⟨hr, fun x hx => ?_⟩⟩
    rcases (fo.rule _ e (isU_rule h1 he)).2.1 x hx with ⟨_, q⟩ | q
    · omega
    · exact bk x q
  | succ n ih =>
    intro r hr hn
    obtain ⟨h1, h2, h3⟩ := mem_leftR.mp hr
    obtain ⟨e, he⟩ := isU_ex h2
    by_cases hall : ∀ x ∈ e.names, x ∈ ks
    · exact ⟨r, (mem_readyR he).mpr ⟨hr, hall⟩⟩
    · obtain ⟨x, hx, hxk⟩ : ∃ x, x ∈ e.names ∧ x ∉ ks := by
        apply Classical.byContradiction
        intro hc
        refine hall fun x hx => Classical.byContradiction fun z => hc ⟨x, hx, z⟩
      rcases (fo.rule _ e (isU_rule h1 he)).2.1 x hx with ⟨q1, q2⟩ | q
      · obtain ⟨r', hr', e'⟩ := List.mem_map.mp q1
        obtain ⟨g1, g2⟩ := List.mem_filter.mp hr'
        subst e'
        exact ih r' (mem_leftR.mpr ⟨g1, g2, hxk⟩) (by omega)
      · exact absurd (bk x q) hxk
theorem left_nil {F : List FRow} {ks : List Str} (h : leftR F ks = []) : ∀ p ∈ upaths F, p ∈ ks := fun p hp => by
  obtain ⟨r, hr, rfl⟩ := List.mem_map.mp hp
  obtain ⟨g1, g2⟩ := List.mem_filter.mp hr
  apply Classical.byContradiction
  intro z
  have := mem_leftR.mpr ⟨g1, g2, z⟩
  rw [h] at this
  cases this
theorem left_next {F : List FRow} (nd : (F.map FRow.path).Nodup) {ks : List Str} {l : List FRow} (hl : ∀ r ∈ l, r ∈ F) : (leftR F ks).filter (fun r => !decide (r.path ∈ l.map FRow.path)) = leftR F (ks ++ l.map FRow.path) := by
  unfold leftR
  rw [List.filter_filter]
  refine List.filter_congr fun r hr => ?_
  simp only [List.mem_append]
  by_cases h1 : r.path ∈ ks <;> by_cases h2 : r.path ∈ l.map FRow.path <;> cases isU r <;> simp [h1, h2]
end WT

set_option Elab.async false
set_option linter.all false
set_option maxRecDepth 100000
set_option maxHeartbeats 8000000
/-! clock_of. -/
namespace WT
open PySem PySem.Spec PyProof.Rows L2
abbrev s_clock_of : Stmt := topS 35
abbrev N_clock_of : List Str := ["_law_flat_here", "_law_found", "_law_row", "_law_left", "_law_ready", "_law_x", "_law_some"]
abbrev P_clock_of : List Str := ["_law_flat_here"]
theorem sc_clock_of : FnScope N_clock_of P_clock_of (defScope s_clock_of) := ⟨rfl, rfl, rfl, by decide +kernel, rfl, by decide +kernel, by decide +kernel⟩
section
variable {X : Cx} (K : PySem.W.Frag)
theorem eqNilK (hu : X.A.units < cLine) (h : X.K = K := by rfl) : OpR X (compareOp .Eq) (rEqNil K) := h ▸ op_eqNil hu
theorem notInDK (hu : X.A.units + 65 < cLine) (h : X.K = K := by rfl) : OpR X (compareOp .NotIn) (rNotInD K) := h ▸ op_notInD hu
end
theorem hu65 {A : Around} {k : Nat} (hr : Room k A) : A.units + 65 < cLine := by have := hr.un; omega
def spClock : Sp := fun vs H Q _ => ∃ (pf : Addr) (F : List FRow) (wd rk : Str → Nat), vs = [.ref pf] ∧ Flat H pf F ∧ FlatOk F wd rk ∧ (∀ r ∈ F, strOk' r.path = true) ∧
  ∀ (p : Addr) (kv : List (Key × V)) (ks : List Str) H', H' p = some (.dK kv) → CI F kv ks → ClSol F (clOf kv) → Kp [] H H' → Q (.ref p) H'
theorem left_base {F : List FRow} (nd : (F.map FRow.path).Nodup) : leftR F ((baseR F).map (·.1)) = F.filter isU := by
  unfold leftR
  refine List.filter_congr fun r hr => ?_
  cases hu : isU r with
  | false => rfl
  | true =>
    have : r.path ∉ (baseR F).map (·.1) := fun z => by
      obtain ⟨q, hq, e1⟩ := List.mem_map.mp z
      obtain ⟨r', hr', e⟩ := List.mem_filterMap.mp hq
      obtain ⟨c, hc, rfl⟩ := Option.map_eq_some_iff.mp e
      have := nodup_eq nd hr' hr e1
      subst this
      cases r' <;> cases hc <;> cases hu
    simp [this]
theorem base_count : ∀ l : List FRow, (baseR l).length + (l.filter isU).length ≤ l.length
  | [] => Nat.le_refl _
  | .inr p w c :: l => by
    have ih := base_count l
    have e1 : baseR (.inr p w c :: l) = (p, c) :: baseR l := rfl
    have e2 : (FRow.inr p w c :: l).filter isU = l.filter isU := rfl
    rw [e1, e2, List.length_cons, List.length_cons]; omega
  | .box p w c k e :: l => by
    have ih := base_count l
    have e1 : baseR (.box p w c k e :: l) = (p, c) :: baseR l := rfl
    have e2 : (FRow.box p w c k e :: l).filter isU = l.filter isU := rfl
    rw [e1, e2, List.length_cons, List.length_cons]; omega
  | .wire p w e :: l => by
    have ih := base_count l
    have e1 : baseR (.wire p w e :: l) = baseR l := rfl
    have e2 : (FRow.wire p w e :: l).filter isU = .wire p w e :: l.filter isU := rfl
    rw [e1, e2, List.length_cons, List.length_cons]; omega
  | .out p w e :: l => by
    have ih := base_count l
    have e1 : baseR (.out p w e :: l) = baseR l := rfl
    have e2 : (FRow.out p w e :: l).filter isU = .out p w e :: l.filter isU := rfl
    rw [e1, e2, List.length_cons, List.length_cons]; omega
theorem any_rd {F : List FRow} (nd : (F.map FRow.path).Nodup) {rd : List FRow} {r : FRow} (hr : r ∈ F) (hu : isU r = true) (hs : RowS r) (hrd : ∀ x ∈ rd, x ∈ F ∧ isU x = true) : ((rd.map rowD).any fun z => PyData.eqv z (rowD r)) = decide (r.path ∈ rd.map FRow.path) := by
  cases h : decide (r.path ∈ rd.map FRow.path) with
  | true =>
    obtain ⟨x, hx, e⟩ := List.mem_map.mp (of_decide_eq_true h)
    have := nodup_eq nd (hrd x hx).1 hr e
    exact List.any_eq_true.mpr ⟨rowD x, List.mem_map_of_mem hx, (rowD_eqv (hrd x hx).2 hu hs).2 this⟩
  | false =>
    rw [List.any_eq_false]
    intro z hz
    obtain ⟨x, hx, rfl⟩ := List.mem_map.mp hz
    have hne : x.path ≠ r.path := fun e => (of_decide_eq_false h) (e ▸ List.mem_map_of_mem hx)
    rw [(rowD_eqv (hrd x hx).2 hu hs).1 hne]
    simp
theorem rows_dp {K : PySem.W.Frag} {H : Hp} : ∀ {vs : List V} {l : List FRow}, AllV (IsFRow H) vs l → (∀ r ∈ l, isU r = true) → DpAll K H vs (l.map rowD)
  | [], [], _, _ => .nil
  | _ :: _, r :: _, h, hu => .cons (rowD_dp (hu r List.mem_cons_self) h.1) (rows_dp h.2 fun x hx => hu x (List.mem_cons_of_mem _ hx))
  | [], _ :: _, h, _ => h.elim
  | _ :: _, [], h, _ => h.elim
theorem row_u {H : Hp} {r : FRow} {v : V} {e : Ex} (he : r.ex? = some e) (h : IsFRow H v r) : ∃ a u, v = .ref a ∧ H a = some (.tup [.str r.word, .str r.path, .int (r.width : Int), u]) ∧ IsEx H e u := by
  cases r with
  | wire p w e' => cases he; exact h
  | out p w e' => cases he; exact h
  | inr => cases he
  | box => cases he
theorem ready_snoc {ks : List Str} {l : List FRow} {r : FRow} {e : Ex} (he : r.ex? = some e) : readyR ks (l ++ [r]) = readyR ks l ++ (if (e.names.filter fun x => decide (x ∉ ks)).isEmpty = true then [r] else []) := by
  unfold readyR
  rw [List.filter_append]
  have : (((r.ex?.map Ex.names).getD []).all fun x => decide (x ∈ ks)) = (e.names.filter fun x => decide (x ∉ ks)).isEmpty := by
    rw [he]
    show (e.names.all fun x => decide (x ∈ ks)) = _
    induction e.names with
    | nil => rfl
    | cons x l ih =>
      rw [List.all_cons, ih]
      by_cases h : x ∈ ks <;> simp [h]
  rw [List.filter_cons, this]
  cases (e.names.filter fun x => decide (x ∉ ks)).isEmpty <;> simp
section
variable {P : Program} {w : World} {K : PySem.W.Frag} {mg : Str → Option Value} {base : Heap}
theorem cal_clock (S : Std K mg "_law_clock_of" s_clock_of) (T : Frees mg) (cn : Cal P w K mg base "_law_names_in" 3 P_names_in (spNamesIn 3)) : Cal P w K mg base "_law_clock_of" 4 P_clock_of spClock := by
  obtain ⟨f, fd, F, m⟩ := S
  obtain ⟨fn, dn, G_names_in, m_names_in, k_names_in, b_names_in⟩ := cn
  refine ⟨f, fd, ?_, m, F.kp, F.bindsN fun _ _ _ _ _ _ us hl => match us, hl with | [_], _ => rfl⟩
  have sc := sc_clock_of
  refine F.ok sc (fun vs H Q E h => by obtain ⟨_, _, _, _, rfl, _⟩ := h; rfl) fun cdv A outer s H vs Q E hr h => ⟨_, PSs.nox (pss_cons (ps_set (i := 1) sc.nd rfl (Or.inr rfl) (pe_callTy (call_dictP rfl) rfl T.dict (by decide +kernel) (pa_cons (pe_lc (own := [("_law_row", 2)]) rfl sc.nd (PI.toK (t' := iTup K _) (pi_tup (pv 0))) (blkOk_by (N := N_clock_of) (sc := defScope s_clock_of) (by decide +kernel)) (fun _ _ _ _ _ => (pg_name (i := 2) sc.nd rfl (Or.inl rfl))) (fun _ _ _ _ _ => pts_one (pt_cmpR (oIn K) (pe_ix (ixt K) (pv 2) pe_int (fun _ _ => rfl)) (pe_tup (pa_cons pe_str (pa_cons pe_str pa_nil))) (by rfl))) (fun _ _ _ _ _ => (pe_tup (pa_cons (pe_ix (ixt K) (pv 2) pe_int (fun _ _ => rfl)) (pa_cons (pe_ix (ixt K) (pv 2) pe_int (fun _ _ => rfl)) pa_nil))))) pa_nil)))
 (pss_cons (ps_setLc (i := 3) (own := [("_law_row", 2)]) rfl sc.nd rfl rfl (sw_true rfl rfl rfl (by decide +kernel)) (PI.toK (t' := iTup K _) (pi_tup (pv 0))) (blkOk_by (N := N_clock_of) (sc := defScope s_clock_of) (by decide +kernel)) (fun _ _ _ _ _ => (pg_name (i := 2) sc.nd rfl (Or.inl rfl))) (fun _ _ _ _ _ => pts_one (pt_cmpR (oIn K) (pe_ix (ixt K) (pv 2) pe_int (fun _ _ => rfl)) (pe_tup (pa_cons pe_str (pa_cons pe_str pa_nil))) (by rfl))) (fun _ _ _ _ _ => (pv 2)))
 (pss_cons (ps_while PassesOwn.never (pt_cmpR (op_neNil (Nat.lt_of_succ_lt (hu_of hr))) (pv 3) (pe_lst pa_nil) (nomark _))
 (pss_cons (ps_set (i := 4) sc.nd rfl (Or.inr rfl) (pe_lc (own := [("_law_row", 2)]) rfl sc.nd (PI.toK (t' := iList K _) (pi_list (pv 3))) (blkOk_by (N := N_clock_of) (sc := defScope s_clock_of) (by decide +kernel)) (fun _ _ _ _ _ => (pg_name (i := 2) sc.nd rfl (Or.inl rfl))) (fun _ _ _ _ _ => pts_one (pt_cmpR (eqNilK K (Nat.lt_of_succ_lt (hu_of hr))) (pe_lc (own := [("_law_x", 5)]) rfl sc.nd (PI.toK (t' := iList K _) (pi_list (pe_call G_names_in (hr.mono (by decide)) rfl m_names_in k_names_in b_names_in .nil pass0 (pa_cons (pe_ix (ixt K) (pv 2) (pe_un un_neg pe_int) (fun _ _ => rfl)) pa_nil)))) (blkOk_by (N := N_clock_of) (sc := ⟨.function, [(Str.ofString ".0", .local), (Str.ofString "_law_row", .local), (Str.ofString "_law_names_in", .globalImplicit), (Str.ofString "_law_found", .cell)], false, false, []⟩) (by decide +kernel)) (fun _ _ _ _ _ => (pg_name (i := 5) sc.nd rfl (Or.inl rfl))) (fun _ _ _ _ _ => pts_one (pt_cmp (pc_dnotin (hu_of hr) (pv 5) (pv 1)))) (fun _ _ _ _ _ => (pv 5))) (pe_lst pa_nil) (nomark _))) (fun _ _ _ _ _ => (pv 2))))
 (pss_cons (ps_for PassesOwn.never rfl (PI.toK (t' := iList K _) (pi_list (pv 4))) (pg_name (i := 2) sc.nd rfl (Or.inl rfl))
 (pss_cons (ps_setLc (i := 6) (own := [("_law_x", 5)]) rfl sc.nd rfl rfl (sw_true rfl rfl rfl (by decide +kernel)) (PI.toK (t' := iList K _) (pi_list (pe_call G_names_in (hr.mono (by decide)) rfl m_names_in k_names_in b_names_in .nil pass0 (pa_cons (pe_ix (ixt K) (pv 2) (pe_un un_neg pe_int) (fun _ _ => rfl)) pa_nil)))) (blkOk_by (N := N_clock_of) (sc := defScope s_clock_of) (by decide +kernel)) (fun _ _ _ _ _ => (pg_name (i := 5) sc.nd rfl (Or.inl rfl))) (fun _ _ _ _ _ => pts_one (pt_cmpR op_notN (pe_dget (hu_of hr) (pv 1) (pv 5) (fun _ _ => rfl)) pe_non (nomark _))) (fun _ _ _ _ _ => (pe_dget (hu_of hr) (pv 1) (pv 5) (fun _ _ => rfl))))
 (pss_one (ps_dput (hu_of hr) (pv 1) (pe_ix (ixt K) (pv 2) pe_int (fun _ _ => rfl)) (pe_ix (ixl K) (pe_op op_cat (pv 6) (pe_lst (pa_cons pe_non pa_nil))) pe_int (fun _ _ => rfl)) rfl))))
 (pss_one (ps_setLc (i := 3) (own := [("_law_row", 2)]) rfl sc.nd rfl rfl (sw_true rfl rfl rfl (by decide +kernel)) (PI.toK (t' := iList K _) (pi_list (pv 3))) (blkOk_by (N := N_clock_of) (sc := defScope s_clock_of) (by decide +kernel)) (fun _ _ _ _ _ => (pg_name (i := 2) sc.nd rfl (Or.inl rfl))) (fun _ _ _ _ _ => pts_one (pt_cmpR (notInDK K (hu65 hr)) (pv 2) (pv 4) (by rfl))) (fun _ _ _ _ _ => (pv 2)))))))
 (pss_one (ps_ret (pv 1)))))), ?_⟩
  obtain ⟨pf, Fl, wd, rk, rfl, ⟨vf, hpf, avf⟩, fo, hstr, hQ⟩ := h
  have hlen := fo.len
  have hrs : ∀ r ∈ Fl, isU r = true → RowS r := fun r hr hu => ⟨hu, hstr r hr, fun e he => by
    obtain ⟨g1, g2, _⟩ := fo.rule _ e (isU_rule hr he)
    refine ⟨g1, fun x hx => ?_⟩
    have hm : x ∈ Fl.map FRow.path := by
      rcases g2 x hx with ⟨q, _⟩ | q
      · obtain ⟨r', h', e'⟩ := List.mem_map.mp q
        exact e' ▸ List.mem_map_of_mem (List.mem_filter.mp h').1
      · obtain ⟨r', h', e'⟩ := List.mem_map.mp q
        exact e' ▸ List.mem_map_of_mem (List.mem_filter.mp h').1
    obtain ⟨r', h', e'⟩ := List.mem_map.mp hm
    exact e' ▸ hstr r' h'⟩
  -- the ins and boxes
  refine ⟨_, rfl, pf, rfl, ⟨_, SqT.of hpf⟩, fun DD hDD => ?_⟩
  refine lc_tup (xs := vf) (fun i H' => ∃ ts : List Addr, H' DD = some (.lst (ts.map V.ref)) ∧ Paired (fun p (kv : Key × V) => H' p = some (.tup [kV kv.1, kv.2])) ts ((baseR (Fl.take i)).map toK) ∧ Kp [] H H') ⟨[], upd_same .., .nil, Kp.new hDD⟩ (fun i H' _ ⟨_, _, _, k⟩ => SqT.of (k.at hpf (by simp))) ?_ ?_
  · rintro i v H' hv ⟨ts, h1, pr, k⟩
    obtain ⟨r, hr0, hrow⟩ := avf.get hv
    have hi : i < 40 := by
      have := (List.getElem?_eq_some_iff.mp hr0).1
      omega
    have hlb : (ts.map V.ref).length < sizeLine := by
      rw [List.length_map, pr.length, List.length_map]
      unfold baseR
      have := List.length_filterMap_le (fun r : FRow => r.clk?.map fun c => (r.path, c)) (Fl.take i)
      rw [List.length_take] at this
      exact Nat.lt_of_le_of_lt (show _ ≤ 40 by omega) (by decide)
    rw [take_snoc hr0, baseR_snoc]
    have skip : ∀ (Hb : Hp), Kp [] H' Hb → ∃ ts : List Addr, Hb DD = some (.lst (ts.map V.ref)) ∧ Paired (fun p (kv : Key × V) => Hb p = some (.tup [kV kv.1, kv.2])) ts (((baseR (Fl.take i)) ++ []).map toK) ∧ Kp [] H Hb := fun Hb kb => ⟨ts, kb.at h1 (by simp), by rw [List.append_nil]; exact paired_imp (fun p kv z => kb.tup z) pr, k.trans kb⟩
    have put : ∀ (Hb : Hp) (p c : Str) (tt : Addr), Kp [] H' Hb → Hb tt = none → ∃ acc, upd Hb tt (.tup [.str p, .str c]) DD = some (.lst acc) ∧ acc.length < sizeLine ∧ ∃ ts : List Addr, upd (upd Hb tt (.tup [.str p, .str c])) DD (.lst (acc ++ [.ref tt])) DD = some (.lst (ts.map V.ref)) ∧ Paired (fun q (kv : Key × V) => upd (upd Hb tt (.tup [.str p, .str c])) DD (.lst (acc ++ [.ref tt])) q = some (.tup [kV kv.1, kv.2])) ts (((baseR (Fl.take i)) ++ [(p, c)]).map toK) ∧ Kp [] H (upd (upd Hb tt (.tup [.str p, .str c])) DD (.lst (acc ++ [.ref tt]))) := fun Hb p c tt kb ht => by
      have kt : Kp [] Hb (upd Hb tt (.tup [.str p, .str c])) := Kp.new ht
      have gt : upd Hb tt (.tup [.str p, .str c]) tt = some (.tup [.str p, .str c]) := upd_same ..
      have hd := kt.at (kb.at h1 (by simp)) (by simp)
      generalize upd Hb tt (.tup [.str p, .str c]) = Hc at kt gt hd
      have kD : Kp [DD] Hc (upd Hc DD (.lst (ts.map V.ref ++ [.ref tt]))) := Kp.put hd (by simp)
      refine ⟨_, hd, hlb, ts ++ [tt], by rw [upd_same, List.map_append]; rfl, ?_, ((k.trans kb).trans kt).fresh hDD⟩
      rw [List.map_append]
      exact (paired_imp (fun q kv z => kD.tup (kt.tup (kb.tup z))) pr).snoc (kD.tup gt)
    have kt : ∀ {t : Addr}, H' t = none → Kp [] H' (upd H' t (.tup [.str "in", .str "box"])) := fun ht => Kp.new ht
    cases r with
    | inr p w c =>
      obtain ⟨a, rfl, ha⟩ := hrow
      refine ⟨rfl, _, rfl, a, _, _, .str "in", rfl, rfl, SqT.of (k.tup ha), atI_nat (j := 0) rfl, (by show 2 ≤ sizeLine; decide), fun t ht => ⟨t, _, rfl, .inr (SqT.of (upd_same ..)), rfl, rfl, _, rfl, iteT ?_⟩⟩
      have ha' := (kt ht).tup (k.tup ha)
      exact ⟨_, rfl, a, _, _, .str p, rfl, rfl, SqT.of ha', atI_nat (j := 1) rfl, _, rfl, a, _, _, .str c, rfl, rfl, SqT.of ha', atI_nat (j := 3) rfl, (by show 2 ≤ sizeLine; decide), fun tt htt => put _ p c tt (kt ht) htt⟩
    | box p w c k' e =>
      obtain ⟨a, u, rfl, ha, _⟩ := hrow
      refine ⟨rfl, _, rfl, a, _, _, .str "box", rfl, rfl, SqT.of (k.tup ha), atI_nat (j := 0) rfl, (by show 2 ≤ sizeLine; decide), fun t ht => ⟨t, _, rfl, .inr (SqT.of (upd_same ..)), rfl, rfl, _, rfl, iteT ?_⟩⟩
      have ha' := (kt ht).tup (k.tup ha)
      exact ⟨_, rfl, a, _, _, .str p, rfl, rfl, SqT.of ha', atI_nat (j := 1) rfl, _, rfl, a, _, _, .str c, rfl, rfl, SqT.of ha', atI_nat (j := 3) rfl, (by show 2 ≤ sizeLine; decide), fun tt htt => put _ p c tt (kt ht) htt⟩
    | wire p w e =>
      obtain ⟨a, u, rfl, ha, _⟩ := hrow
      exact ⟨rfl, _, rfl, a, _, _, .str "wire", rfl, rfl, SqT.of (k.tup ha), atI_nat (j := 0) rfl, (by show 2 ≤ sizeLine; decide), fun t ht => ⟨t, _, rfl, .inr (SqT.of (upd_same ..)), rfl, rfl, _, rfl, iteF (skip _ (kt ht))⟩⟩
    | out p w e =>
      obtain ⟨a, u, rfl, ha, _⟩ := hrow
      exact ⟨rfl, _, rfl, a, _, _, .str "out", rfl, rfl, SqT.of (k.tup ha), atI_nat (j := 0) rfl, (by show 2 ≤ sizeLine; decide), fun t ht => ⟨t, _, rfl, .inr (SqT.of (upd_same ..)), rfl, rfl, _, rfl, iteF (skip _ (kt ht))⟩⟩
  rintro H1 ⟨ts, h1, pr, k1⟩
  rw [avf.length, List.take_length] at pr
  refine ⟨DD, ts, _, rfl, SqL.of h1, paired_imp (fun p kv z => SqT.of z) pr, fun pd hpd => ?_⟩
  have ci0 := ci_base fo.nd
  have nd0 : (((baseR Fl).map toK).map (·.1)).Nodup := by rw [ci0.keys]; exact nodup_inr ci0.nd
  have em : mergeK [] ((baseR Fl).map toK) = (baseR Fl).map toK := by
    rw [mergeK_nodup (by rw [List.nil_append]; exact nd0)]; simp
  rw [em]
  have k2 : Kp [] H1 (upd H1 pd (.dK ((baseR Fl).map toK))) := Kp.new hpd
  have g2 : upd H1 pd (.dK ((baseR Fl).map toK)) pd = some (.dK ((baseR Fl).map toK)) := upd_same ..
  generalize upd H1 pd (.dK ((baseR Fl).map toK)) = H2 at k2 g2
  have k02 := k1.trans k2
  have hpdH : H pd = none := k1.free hpd (by simp)
  -- the others
  refine ⟨_, rfl, pf, rfl, ⟨_, SqT.of (k02.at hpf (by simp))⟩, fun pl hpl => ?_⟩
  refine lc_tup (xs := vf) (fun i H' => ∃ vl, H' pl = some (.lst vl) ∧ AllV (IsFRow H) vl ((Fl.take i).filter isU) ∧ Kp [] H2 H') ⟨[], upd_same .., trivial, Kp.new hpl⟩ (fun i H' _ ⟨_, _, _, k⟩ => SqT.of ((k02.trans k).at hpf (by simp))) ?_ ?_
  · rintro i v H' hv ⟨vl, h1, ab, k⟩
    obtain ⟨r, hr0, hrow⟩ := avf.get hv
    have kk := k02.trans k
    have hi : i < 40 := by
      have := (List.getElem?_eq_some_iff.mp hr0).1
      omega
    have hlb : vl.length < sizeLine := by
      rw [ab.length]
      have := List.length_filter_le isU (Fl.take i)
      rw [List.length_take] at this
      exact Nat.lt_of_le_of_lt (show _ ≤ 40 by omega) (by decide)
    rw [take_snoc hr0, List.filter_append]
    have kt : ∀ {t : Addr}, H' t = none → Kp [] H' (upd H' t (.tup [.str "wire", .str "out"])) := fun ht => Kp.new ht
    cases r with
    | inr p w c =>
      obtain ⟨a, rfl, ha⟩ := hrow
      exact ⟨rfl, _, rfl, a, _, _, .str "in", rfl, rfl, SqT.of (kk.tup ha), atI_nat (j := 0) rfl, (by show 2 ≤ sizeLine; decide), fun t ht => ⟨t, _, rfl, .inr (SqT.of (upd_same ..)), rfl, rfl, _, rfl, iteF ⟨vl, (kt ht).at h1 (by simp), by rw [show ([FRow.inr p w c] : List FRow).filter isU = [] from rfl, List.append_nil]; exact ab, k.trans (kt ht)⟩⟩⟩
    | box p w c k' e =>
      obtain ⟨a, u, rfl, ha, _⟩ := hrow
      exact ⟨rfl, _, rfl, a, _, _, .str "box", rfl, rfl, SqT.of (kk.tup ha), atI_nat (j := 0) rfl, (by show 2 ≤ sizeLine; decide), fun t ht => ⟨t, _, rfl, .inr (SqT.of (upd_same ..)), rfl, rfl, _, rfl, iteF ⟨vl, (kt ht).at h1 (by simp), by rw [show ([FRow.box p w c k' e] : List FRow).filter isU = [] from rfl, List.append_nil]; exact ab, k.trans (kt ht)⟩⟩⟩
    | wire p w e =>
      obtain ⟨a, u, rfl, ha, hu⟩ := hrow
      exact ⟨rfl, _, rfl, a, _, _, .str "wire", rfl, rfl, SqT.of (kk.tup ha), atI_nat (j := 0) rfl, (by show 2 ≤ sizeLine; decide), fun t ht => ⟨t, _, rfl, .inr (SqT.of (upd_same ..)), rfl, rfl, _, rfl, iteT ⟨_, rfl, vl, (kt ht).at h1 (by simp), hlb, _, upd_same .., ab.snoc ⟨a, u, rfl, ha, hu⟩, (k.trans (kt ht)).fresh hpl⟩⟩⟩
    | out p w e =>
      obtain ⟨a, u, rfl, ha, hu⟩ := hrow
      exact ⟨rfl, _, rfl, a, _, _, .str "out", rfl, rfl, SqT.of (kk.tup ha), atI_nat (j := 0) rfl, (by show 2 ≤ sizeLine; decide), fun t ht => ⟨t, _, rfl, .inr (SqT.of (upd_same ..)), rfl, rfl, _, rfl, iteT ⟨_, rfl, vl, (kt ht).at h1 (by simp), hlb, _, upd_same .., ab.snoc ⟨a, u, rfl, ha, hu⟩, (k.trans (kt ht)).fresh hpl⟩⟩⟩
  rintro H3 ⟨vl, h3, avl, k23⟩
  rw [avf.length, List.take_length, ← left_base fo.nd] at avl
  have g3 := k23.at g2 (by simp)
  have k03 := k02.trans k23
  have hcount : ((baseR Fl).map (·.1)).length + (leftR Fl ((baseR Fl).map (·.1))).length ≤ 40 := by
    rw [List.length_map]
    rw [left_base fo.nd]
    have := base_count Fl
    omega
  generalize hks : (baseR Fl).map (·.1) = ks0 at ci0 hcount avl
  generalize (baseR Fl).map toK = kv0 at ci0 g3
  -- on and on
  obtain ⟨W, hW⟩ : ∃ W : Nat → L2.St → Hp → Prop, W = fun n σ H' => ∃ (v2 v4 v5 v6 : Option V) (pl : Addr) (kv : List (Key × V)) (ks : List Str) (vl : List V), σ = [some (.ref pf), some (.ref pd), v2, some (.ref pl), v4, v5, v6] ∧ H' pd = some (.dK kv) ∧ CI Fl kv ks ∧ H' pl = some (.lst vl) ∧ AllV (IsFRow H) vl (leftR Fl ks) ∧ Kp [] H H' ∧ n = (leftR Fl ks).length ∧ ks.length + (leftR Fl ks).length ≤ 40 := ⟨_, rfl⟩
  refine ⟨W, ⟨(leftR Fl ks0).length, by rw [hW]; exact ⟨_, _, _, _, pl, kv0, ks0, vl, rfl, g3, ci0, h3, avl, k03, rfl, hcount⟩⟩, ?_⟩
  intro n σ Ha hwn
  rw [hW] at hwn
  obtain ⟨v2, v4, v5, v6, pl, kv, ks, vl, rfl, hda, ci, hla, avl, ka, rfl, hc40⟩ := hwn
  refine ⟨_, rfl, (by show 0 ≤ sizeLine; decide), fun pn hpn => ⟨pl, pn, _, rfl, rfl, SqL.of ((Kp.new (l := []) hpn).at hla (by simp)), SqL.of (upd_same ..), _, rfl, ?_⟩⟩
  have k4 := Kp.new (l := []) (o := .lst []) hpn
  have hd4 : upd Ha pn (.lst []) pd = _ := k4.at hda (by simp)
  have hl4 : upd Ha pn (.lst []) pl = _ := k4.at hla (by simp)
  have ka4 := ka.trans k4
  clear k4 hpn
  generalize upd Ha pn (.lst []) = H4 at hd4 hl4 ka4
  cases hlf : leftR Fl ks with
  | nil =>
    rw [hlf] at avl
    have hvl : vl = [] := List.length_eq_zero_iff.mp avl.length
    subst hvl
    refine iteF ⟨_, rfl, ?_⟩
    exact hQ pd kv ks H4 hd4 ci (ci.done (left_nil hlf)) ka4
  | cons r0 lrest =>
  rw [show (!vl.isEmpty) = true from by
    have := avl.length
    rw [hlf] at this
    cases vl with
    | nil => simp at this
    | cons a b => rfl]
  have hLen : (leftR Fl ks).length = (r0 :: lrest).length := by rw [hlf]
  refine iteT ⟨fun σ' H' => ∃ n', n' < (r0 :: lrest).length ∧ W n' σ' H', fun σ' H' h => h, ?_⟩
  have hlU : ∀ r ∈ leftR Fl ks, r ∈ Fl ∧ isU r = true := fun r hr => ⟨(mem_leftR.mp hr).1, (mem_leftR.mp hr).2.1⟩
  have hlne : ∃ r', r' ∈ readyR ks (leftR Fl ks) := ready_ne fo ci (rk r0.path) r0 (by rw [hlf]; exact List.mem_cons_self) (Nat.le_refl _)
  clear hlf
  -- what is ready
  refine ⟨_, rfl, pl, rfl, ⟨_, SqL.of hl4⟩, fun Dr hDr => ?_⟩
  have nDrp : pd ≠ Dr := ne_of_none hd4 hDr
  have nDrl : pl ≠ Dr := ne_of_none hl4 hDr
  refine lc_list (xs := vl) (fun i H' => ∃ vr, H' Dr = some (.lst vr) ∧ AllV (IsFRow H) vr (readyR ks ((leftR Fl ks).take i)) ∧ Kp [] H4 H') ⟨[], upd_same .., trivial, Kp.new hDr⟩ (fun i H' _ ⟨_, _, _, k⟩ => SqL.of (k.at hl4 (by simp))) ?_ ?_
  · rintro i v H' hv ⟨vr, h1, avr, k⟩
    obtain ⟨r, hr0, hrow⟩ := avl.get hv
    have hi : i < 40 := by
      have := (List.getElem?_eq_some_iff.mp hr0).1
      omega
    obtain ⟨hrF, hrU⟩ := hlU r (List.mem_of_getElem? hr0)
    obtain ⟨e, he⟩ := isU_ex hrU
    obtain ⟨hed, _, _⟩ := fo.rule _ e (isU_rule hrF he)
    obtain ⟨a, u, rfl, ha, hu⟩ := row_u he hrow
    have kk := ka4.trans k
    rw [take_snoc hr0, ready_snoc he]
    refine ⟨rfl, _, rfl, _, rfl, a, _, _, u, rfl, rfl, SqT.of (kk.tup ha), rfl, by decide, by decide, u, e, rfl, hu.keep kk, hed, fun pp H5 hpp npp k5 => ⟨pp, rfl, ⟨_, SqL.of hpp⟩, fun D5 hD5 => ?_⟩⟩
    have hd5 : ∀ {H6 : Hp}, Kp [] H5 H6 → H6 pd = some (.dK kv) := fun k6 => k6.at (k5.at (k.at hd4 (by simp)) (by simp)) (by simp)
    have hnl : e.names.length ≤ 27 := Nat.le_trans (names_len hed) (by decide)
    refine lc_list (xs := e.names.map V.str) (fun j H' => H' D5 = some (.lst (((e.names.take j).filter fun x => decide (x ∉ ks)).map V.str)) ∧ Kp [] H5 H') ⟨upd_same .., Kp.new hD5⟩ (fun j H' _ ⟨_, k6⟩ => SqL.of (k6.at hpp (by simp))) ?_ ?_
    · rintro j w H6 hw ⟨h6, k6⟩
      rw [List.getElem?_map] at hw
      obtain ⟨x, hx, rfl⟩ := Option.map_eq_some_iff.mp hw
      have hvx : (valV kv (Sum.inr x)).isSome = decide (x ∈ ks) := by
        by_cases hxk : x ∈ ks
        · rw [ci.val x hxk, decide_eq_true hxk]; rfl
        · rw [decide_eq_false hxk]
          unfold valV
          cases hq : kv.find? (fun p => decide (p.1 = Sum.inr x)) with
          | none => rfl
          | some q =>
            have h1 := List.mem_of_find?_eq_some hq
            have h2' := List.find?_some hq
            have h2 := of_decide_eq_true h2'
            have : (Sum.inr x : Key) ∈ kv.map (·.1) := h2 ▸ List.mem_map_of_mem h1
            rw [ci.keys] at this
            obtain ⟨y, hy, e'⟩ := List.mem_map.mp this
            exact absurd (Sum.inr.inj e' ▸ hy) hxk
      refine ⟨rfl, _, rfl, _, rfl, pd, valV kv (Sum.inr x), rfl, DGet.k (k := Sum.inr x) (hd5 k6), _, rfl, ?_⟩
      rw [hvx, take_snoc hx, List.filter_append]
      by_cases hxk : x ∈ ks
      · rw [decide_eq_true hxk]
        refine iteF ⟨?_, k6⟩
        simpa [hxk] using h6
      · rw [decide_eq_false hxk]
        refine iteT ⟨_, rfl, _, h6, ?_, ?_, k6.fresh hD5⟩
        · rw [List.length_map]
          have := List.length_filter_le (fun x => decide (x ∉ ks)) (e.names.take j)
          rw [List.length_take] at this
          exact Nat.lt_of_le_of_lt (show _ ≤ 27 by omega) (by decide)
        · rw [upd_same, List.map_append]
          simp [hxk]
    rintro H6 ⟨h6, k6⟩
    rw [show (e.names.map V.str).length = e.names.length by simp, List.take_length] at h6
    refine ⟨(by show 0 ≤ sizeLine; decide), fun p7 hp7 => ⟨D5, p7, _, rfl, rfl, SqL.of ((Kp.new (l := []) hp7).at h6 (by simp)), SqL.of (upd_same ..), _, rfl, ?_⟩⟩
    have k7 := ((k5.trans k6).trans (Kp.new (l := []) (o := .lst []) hp7))
    have h7 := k7.at h1 (by simp)
    rw [show ((e.names.filter fun x => decide (x ∉ ks)).map V.str).isEmpty = (e.names.filter fun x => decide (x ∉ ks)).isEmpty from by cases e.names.filter fun x => decide (x ∉ ks) <;> rfl]
    cases (e.names.filter fun x => decide (x ∉ ks)).isEmpty with
    | true =>
      refine iteT ⟨_, rfl, vr, h7, ?_, _, upd_same .., avr.snoc hrow, (k.trans k7).fresh hDr⟩
      rw [avr.length]
      have h8 : (readyR ks ((leftR Fl ks).take i)).length ≤ ((leftR Fl ks).take i).length := List.length_filter_le ..
      rw [List.length_take] at h8
      exact Nat.lt_of_le_of_lt (show _ ≤ 40 by omega) (by decide)
    | false => exact iteF ⟨vr, h7, by simpa using avr, k.trans k7⟩
  rintro H5 ⟨vr, h5, avr, k5⟩
  rw [avl.length, List.take_length] at avr
  have ka5 := ka4.trans k5
  have hd5 := k5.at hd4 (by simp)
  have hl5 := k5.at hl4 (by simp)
  generalize hrd : readyR ks (leftR Fl ks) = rd at avr hlne
  have hrdm : ∀ r ∈ rd, r ∈ leftR Fl ks ∧ ∀ e, r.ex? = some e → ∀ x ∈ e.names, x ∈ ks := fun r hr => by
    rw [← hrd] at hr
    refine ⟨(List.mem_filter.mp hr).1, fun e he => ((mem_readyR he).mp hr).2⟩
  have hrdnd : (rd.map FRow.path).Nodup := by
    have s1 : List.Sublist rd Fl := by
      rw [← hrd]
      exact List.Sublist.trans (List.filter_sublist ..) (List.filter_sublist ..)
    exact List.Nodup.sublist (s1.map _) fo.nd
  have hrdl : rd.length ≤ (leftR Fl ks).length := by rw [← hrd]; exact List.length_filter_le ..
  -- their clocks
  refine ⟨_, rfl, Dr, rfl, ⟨_, SqL.of h5⟩, ?_⟩
  refine for_list (xs := vr) (fun i σ H' => ∃ (v2 v5 v6 : Option V) (kv' : List (Key × V)), σ = [some (.ref pf), some (.ref pd), v2, some (.ref pl), some (.ref Dr), v5, v6] ∧ H' pd = some (.dK kv') ∧ CI Fl kv' (ks ++ (rd.take i).map FRow.path) ∧ H' Dr = some (.lst vr) ∧ H' pl = some (.lst vl) ∧ Kp [] H H') ⟨_, _, _, kv, rfl, hd5, by simpa using ci, h5, hl5, ka5⟩ (fun i σ H' _ ⟨_, _, _, _, _, _, _, h, _⟩ => SqL.of h) ?_ ?_
  · rintro i v σ Hb hv ⟨v2, v5, v6, kv', rfl, hdb, cib, hrb, hlb, kb⟩
    obtain ⟨r, hr0, hrow⟩ := avr.get hv
    obtain ⟨hrl, hrn⟩ := hrdm r (List.mem_of_getElem? hr0)
    obtain ⟨hrF, hrU, hrk⟩ := mem_leftR.mp hrl
    obtain ⟨e, he⟩ := isU_ex hrU
    have hrule := isU_rule hrF he
    obtain ⟨hed, _, _⟩ := fo.rule _ e hrule
    obtain ⟨a, u, rfl, ha, hu⟩ := row_u he hrow
    have hnl : e.names.length ≤ 27 := Nat.le_trans (names_len hed) (by decide)
    have hnew : r.path ∉ ks ++ (rd.take i).map FRow.path := fun z => by
      rcases List.mem_append.mp z with z | z
      · exact hrk z
      · exact nodup_take hrdnd hr0 z
    have hin : ∀ x ∈ e.names, x ∈ ks ++ (rd.take i).map FRow.path := fun x hx => List.mem_append_left _ (hrn e he x hx)
    rw [take_snoc hr0, List.map_append, ← List.append_assoc]
    refine ⟨_, rfl, _, rfl, a, _, _, u, rfl, rfl, SqT.of (kb.tup ha), rfl, by decide, by decide, u, e, rfl, hu.keep kb, hed, fun pp H6 hpp npp k6 => ⟨pp, rfl, ⟨_, SqL.of hpp⟩, fun D6 hD6 => ?_⟩⟩
    have hd6 : ∀ {H7 : Hp}, Kp [] H6 H7 → H7 pd = some (.dK kv') := fun k7 => k7.at (k6.at hdb (by simp)) (by simp)
    refine lc_list (xs := e.names.map V.str) (fun j H' => H' D6 = some (.lst (((e.names.take j).filterMap (clOf kv')).map V.str)) ∧ Kp [] H6 H') ⟨upd_same .., Kp.new hD6⟩ (fun j H' _ ⟨_, k7⟩ => SqL.of (k7.at hpp (by simp))) ?_ ?_
    · rintro j w H7 hw ⟨h7, k7⟩
      rw [List.getElem?_map] at hw
      obtain ⟨x, hx, rfl⟩ := Option.map_eq_some_iff.mp hw
      have hvx := cib.val x (hin x (List.mem_of_getElem? hx))
      have dg : DGet H7 pd (.str x) (some (optV (clOf kv' x))) := by
        rw [← hvx]
        exact DGet.k (k := Sum.inr x) (hd6 k7)
      refine ⟨rfl, _, rfl, _, rfl, pd, _, rfl, dg, ?_⟩
      rw [take_snoc hx, List.filterMap_append]
      cases hcx : clOf kv' x with
      | none =>
        refine ⟨rfl, _, rfl, iteF ⟨?_, k7⟩⟩
        simpa [hcx] using h7
      | some c =>
        rw [hcx] at dg
        refine ⟨rfl, _, rfl, iteT ⟨_, rfl, _, rfl, pd, _, rfl, dg, _, h7, ?_, ?_, k7.fresh hD6⟩⟩
        · rw [List.length_map]
          have := List.length_filterMap_le (clOf kv') (e.names.take j)
          rw [List.length_take] at this
          exact Nat.lt_of_le_of_lt (show _ ≤ 27 by omega) (by decide)
        · rw [upd_same, List.map_append]
          simp [hcx, optV]
    rintro H7 ⟨h7, k7⟩
    rw [show (e.names.map V.str).length = e.names.length by simp, List.take_length] at h7
    have kb7 := (kb.trans k6).trans k7
    refine ⟨_, rfl, (by show 1 ≤ sizeLine; decide), fun p1 hp1 => ?_⟩
    have k8 : Kp [] H7 (upd H7 p1 (.lst [.non])) := Kp.new hp1
    have g8 : upd H7 p1 (.lst [.non]) p1 = some (.lst [.non]) := upd_same ..
    have h8 := k8.at h7 (by simp)
    generalize upd H7 p1 (.lst [.non]) = H8 at k8 g8 h8
    have hfl : (e.names.filterMap (clOf kv')).length ≤ 27 := Nat.le_trans (List.length_filterMap_le ..) hnl
    refine ⟨D6, p1, _, _, rfl, rfl, h8, g8, ?_, fun p2 hp2 => ?_⟩
    · rw [List.length_map]
      exact Nat.le_trans (show _ + 1 ≤ 28 by omega) (by decide)
    have k9 : Kp [] H8 (upd H8 p2 (.lst ((e.names.filterMap (clOf kv')).map V.str ++ [.non]))) := Kp.new hp2
    have g9 : upd H8 p2 (.lst ((e.names.filterMap (clOf kv')).map V.str ++ [.non])) p2 = some (.lst ((e.names.filterMap (clOf kv')).map V.str ++ [.non])) := upd_same ..
    generalize upd H8 p2 (.lst ((e.names.filterMap (clOf kv')).map V.str ++ [.non])) = H9 at k9 g9
    have kb9 := kb7.trans (k8.trans k9)
    have k69 := ((k6.trans k7).trans k8).trans k9
    have hd9 := k69.at hdb (by simp)
    have hval : ((e.names.filterMap (clOf kv')).map V.str ++ [.non])[0]? = some (optV (e.names.filterMap (clOf kv')).head?) := by
      cases e.names.filterMap (clOf kv') <;> rfl
    refine ⟨p2, _, _, _, rfl, rfl, SqL.of g9, atI_nat (j := 0) hval, _, rfl, _, rfl, a, _, _, .str r.path, rfl, rfl, SqT.of (kb9.tup ha), atI_nat (j := 1) rfl, pd, _, rfl, DPut.k (k := Sum.inr r.path) hd9 ?_, ?_⟩
    · have h10 := congrArg List.length cib.keys
      rw [List.length_map, List.length_map, List.length_append, List.length_map, List.length_take] at h10
      rw [h10]
      exact Nat.lt_of_le_of_lt (show _ ≤ 80 by omega) (by decide)
    · have kf : Kp [pd] H9 (upd H9 pd (.dK (putK kv' (Sum.inr r.path) (optV (e.names.filterMap (clOf kv')).head?)))) := Kp.put hd9 (by simp)
      have nl : pl ≠ pd := fun z => by rw [z, hdb] at hlb; cases hlb
      have nr : Dr ≠ pd := fun z => by rw [z, hdb] at hrb; cases hrb
      exact ⟨_, _, _, _, rfl, upd_same .., cib.put hrF fo.nd hrule he hnew hin, kf.at (k69.at hrb (by simp)) (by simp [nr]), kf.at (k69.at hlb (by simp)) (by simp [nl]), kb9.fresh hpdH⟩
  rintro σ Hb ⟨v2, v5, v6, kv', rfl, hdb, cib, hrb, hlb, kb⟩
  rw [show vr.length = rd.length from avr.length, List.take_length] at cib
  -- what is left
  refine ⟨_, rfl, pl, rfl, ⟨_, SqL.of hlb⟩, fun Dl hDl => ?_⟩
  refine lc_list (xs := vl) (fun i H' => ∃ vn, H' Dl = some (.lst vn) ∧ AllV (IsFRow H) vn (((leftR Fl ks).take i).filter fun r => !decide (r.path ∈ rd.map FRow.path)) ∧ Kp [] Hb H') ⟨[], upd_same .., trivial, Kp.new hDl⟩ (fun i H' _ ⟨_, _, _, k⟩ => SqL.of (k.at hlb (by simp))) ?_ ?_
  · rintro i v H' hv ⟨vn, h1, avn, k⟩
    obtain ⟨r, hr0, hrow⟩ := avl.get hv
    have hi : i < 40 := by
      have := (List.getElem?_eq_some_iff.mp hr0).1
      omega
    obtain ⟨hrF, hrU⟩ := hlU r (List.mem_of_getElem? hr0)
    have kk := kb.trans k
    have hrdU : ∀ x ∈ rd, x ∈ Fl ∧ isU x = true := fun x hx => hlU x (hrdm x hx).1
    refine ⟨rfl, _, rfl, _, rfl, rowD r, rd.map rowD, rowD_dp hrU (hrow.keep kk), .lst (SqL.of (k.at hrb (by simp))) (rows_dp (avr.imp fun _ _ z => z.keep kk) fun x hx => (hrdU x hx).2), rowD_shaped (hrs r hrF hrU), rowsD_shaped (fun x hx => hrs x (hrdU x hx).1 (hrdU x hx).2), _, rfl, ?_⟩
    rw [any_rd fo.nd hrF hrU (hrs r hrF hrU) hrdU, take_snoc hr0, List.filter_append]
    by_cases hm : r.path ∈ rd.map FRow.path
    · rw [decide_eq_true hm]
      refine iteF ⟨vn, h1, ?_, k⟩
      rw [show ([r] : List FRow).filter (fun r => !decide (r.path ∈ rd.map FRow.path)) = [] from by rw [List.filter_cons_of_neg (by rw [decide_eq_true hm]; decide)]; rfl, List.append_nil]
      exact avn
    · rw [decide_eq_false hm]
      refine iteT ⟨_, rfl, vn, h1, ?_, _, upd_same .., ?_, k.fresh hDl⟩
      · rw [avn.length]
        have := List.length_filter_le (fun r : FRow => !decide (r.path ∈ rd.map FRow.path)) ((leftR Fl ks).take i)
        rw [List.length_take] at this
        exact Nat.lt_of_le_of_lt (show _ ≤ 40 by omega) (by decide)
      · rw [show ([r] : List FRow).filter (fun r => !decide (r.path ∈ rd.map FRow.path)) = [r] from by rw [List.filter_cons_of_pos (by rw [decide_eq_false hm]; decide)]; rfl]
        exact avn.snoc hrow
  · rintro H6 ⟨vn, h6, avn, k6⟩
    rw [avl.length, List.take_length, left_next fo.nd (fun r hr => (hlU r (hrdm r hr).1).1)] at avn
    have hlen2 : (leftR Fl (ks ++ rd.map FRow.path)).length + rd.length = (leftR Fl ks).length := by
      rw [← left_next fo.nd (fun r hr => (hlU r (hrdm r hr).1).1)]
      have hp : (leftR Fl ks).length = ((leftR Fl ks).filter fun r => !decide (r.path ∈ rd.map FRow.path)).length + ((leftR Fl ks).filter fun r => decide (r.path ∈ rd.map FRow.path)).length := by
        have key : ∀ (l : List FRow) (q : FRow → Bool), l.length = (l.filter fun r => !q r).length + (l.filter q).length := by
          intro l q
          induction l with
          | nil => rfl
          | cons a l ih =>
            cases hq : q a
            · rw [List.filter_cons_of_pos (by rw [hq]; rfl), List.filter_cons_of_neg (by rw [hq]; decide), List.length_cons, List.length_cons]; omega
            · rw [List.filter_cons_of_neg (by rw [hq]; decide), List.filter_cons_of_pos hq, List.length_cons, List.length_cons]; omega
        exact key _ _
      have he : ((leftR Fl ks).filter fun r => decide (r.path ∈ rd.map FRow.path)) = rd := by
        rw [← hrd]
        refine List.filter_congr fun r hr => ?_
        obtain ⟨e, he⟩ := isU_ex (hlU r hr).2
        have hb : (((r.ex?.map Ex.names).getD []).all fun x => decide (x ∈ ks)) = decide (∀ x ∈ e.names, x ∈ ks) := by
          rw [he]
          show (e.names.all fun x => decide (x ∈ ks)) = _
          rw [Bool.eq_iff_iff]
          simp
        rw [hb]
        refine decide_eq_decide.mpr ⟨fun h => ?_, fun h => ?_⟩
        · obtain ⟨x, hx, e'⟩ := List.mem_map.mp h
          have hx' := (List.mem_filter.mp hx).1
          have := nodup_eq fo.nd (hlU x hx').1 (hlU r hr).1 e'
          subst this
          exact ((mem_readyR he).mp hx).2
        · exact List.mem_map_of_mem ((mem_readyR he).mpr ⟨hr, h⟩)
      rw [he] at hp
      omega
    have hrdpos : 0 < rd.length := by
      obtain ⟨r', hr'⟩ := hlne
      exact List.length_pos_of_mem hr'
    refine ⟨(leftR Fl (ks ++ rd.map FRow.path)).length, by omega, ?_⟩
    rw [hW]
    refine ⟨_, _, _, _, Dl, kv', ks ++ rd.map FRow.path, vn, rfl, k6.at hdb (by simp), cib, h6, avn, kb.trans k6, rfl, ?_⟩
    rw [List.length_append, List.length_map]
    omega
end
end WT

set_option Elab.async false
set_option linter.all false
set_option maxRecDepth 100000
set_option maxHeartbeats 4000000
/-! A module at its place. -/
namespace WT
open PySem PySem.Spec PyProof.Rows L2
theorem perm4 {α : Type} (A B C D : List α) : (A ++ B ++ C ++ D).Perm ((C ++ A) ++ (B ++ D)) := by
  have h : (A ++ B ++ C).Perm (C ++ (A ++ B)) := List.perm_append_comm
  have := h.append_right D
  simpa [List.append_assoc] using this
def evRows (M : Mod) : List MRow := (M.ins.map fun e => .inr e.1 e.2.1 e.2.2) ++ (M.bs.map bRow ++ (M.cs.map cRow ++ (M.ss.map Step.row ++ M.os.map oRow)))
theorem rows_perm (M : Mod) : M.rows.Perm (M.a.ticks.map MRow.clock ++ evRows M) := by
  unfold Mod.rows evRows
  rw [List.append_assoc]
  refine List.Perm.append_left _ (List.Perm.append_left _ ?_)
  refine (perm4 _ _ _ _).trans ?_
  rw [List.take_append_drop, List.take_append_drop]
  unfold Mod.inner
  have h1 : ((M.ss.map Step.row ++ M.cs.map cRow) ++ M.bs.map bRow).Perm (M.bs.map bRow ++ (M.cs.map cRow ++ M.ss.map Step.row)) := List.perm_append_comm.trans (List.Perm.append_left _ List.perm_append_comm)
  have := h1.append_right (M.os.map oRow)
  simpa [List.append_assoc] using this
theorem flat_perm {M : Mod} {rec : Str → Str → List Str → List Ex → List FRow} {ah : Str} {to : Str → Str} {given : Option (List Ex)} {ins : List Str} : (M.rows.flatMap (flatRow rec ah to given ins)).Perm ((evRows M).flatMap (flatRow rec ah to given ins)) := by
  refine ((rows_perm M).flatMap_right _).trans ?_
  rw [List.flatMap_append]
  have : (M.a.ticks.map MRow.clock).flatMap (flatRow rec ah to given ins) = [] := by
    rw [List.flatMap_eq_nil_iff]
    intro r hr
    obtain ⟨x, _, rfl⟩ := List.mem_map.mp hr
    rfl
  rw [this, List.nil_append]
/-- what is given to the ins -/
def GivC (M : Mod) (X : List EnT) (to : Str → Str) (r : Nat) : Option (List Ex) → Prop
  | none => ∀ e ∈ M.ins, to e.2.2 = e.2.2
  | some gv => ∀ (i : Nat) e, M.ins[i]? = some e → ∃ g, gv[i]? = some g ∧ g.depth ≤ 3 ∧ Ty (Nm X (to e.2.2) r) g e.2.1
def insAn (M : Mod) (ah : Str) (to : Str → Str) (r : Nat) : Option (List Ex) → List An
  | none => M.ins.map fun e => ⟨.inr (ah ++ e.1) e.2.1 e.2.2, e.2.2, 0, false⟩
  | some gv => M.ins.map fun e => ⟨.wire (ah ++ e.1) e.2.1 (gv.getD ((M.ins.map (·.1)).idxOf e.1) (.num 0 0)), to e.2.2, r, false⟩
def bsAn (M : Mod) (ah : Str) (to : Str → Str) : List An := M.bs.map fun b => ⟨.box (ah ++ b.1.1) b.1.2.1 (to b.1.2.2.1) b.1.2.2.2 (b.2.pre ah), to b.1.2.2.1, 0, false⟩
def csAn (M : Mod) (ah : Str) (to : Str → Str) : List An := M.cs.flatMap fun x => [⟨.box (ah ++ x.1 ++ ".one") 1 (to x.2.1) x.2.2.1 (.name (ah ++ x.2.2.2)), to x.2.1, 0, true⟩, ⟨.box (ah ++ x.1) 1 (to x.2.1) x.2.2.1 (.name (ah ++ x.1 ++ ".one")), to x.2.1, 0, false⟩]
def osAn (M : Mod) (ah : Str) (to : Str → Str) (r : Nat) : Option (List Ex) → List An
  | none => M.os.map fun o => ⟨.out (ah ++ o.1) o.2.1 (o.2.2.2.pre ah), to o.2.2.1, r, false⟩
  | some _ => M.os.map fun o => ⟨.wire (ah ++ o.1) o.2.1 (o.2.2.2.pre ah), to o.2.2.1, r, false⟩
theorem idxOf_nodup : ∀ {l : List Str} {i : Nat} {x : Str}, l.Nodup → l[i]? = some x → l.idxOf x = i
  | a :: l, 0, x, _, h => by
    simp at h
    subst h
    simp [List.idxOf_cons]
  | a :: l, i + 1, x, hn, h => by
    rw [List.nodup_cons] at hn
    have hx : x ∈ l := List.mem_of_getElem? (by simpa using h)
    have : a ≠ x := fun e => hn.1 (e ▸ hx)
    rw [List.idxOf_cons, show (a == x) = false from by simpa using this, cond_false, idxOf_nodup hn.2 (by simpa using h)]
  | [], _, _, _, h => by simp at h
theorem flatMap_one {α β : Type} {g : α → β} : ∀ {l : List α}, (l.flatMap fun a => [g a]) = l.map g
  | [] => rfl
  | a :: l => by rw [List.flatMap_cons, List.map_cons, flatMap_one]; rfl
theorem flatMap_map' {α β γ : Type} {g : α → β} {f : β → List γ} : ∀ {l : List α}, (l.map g).flatMap f = l.flatMap fun a => f (g a)
  | [] => rfl
  | a :: l => by rw [List.map_cons, List.flatMap_cons, List.flatMap_cons, flatMap_map']
section
variable {bel : List Bel} {M : Mod} {rec : Str → Str → List Str → List Ex → List FRow} {j r : Nat} {ah : Str} {to : Str → Str} {given : Option (List Ex)} {X : List EnT}
theorem insAn_row : (insAn M ah to r given).map An.row = (M.ins.map fun e => MRow.inr e.1 e.2.1 e.2.2).flatMap (flatRow rec ah to given (M.ins.map (·.1))) := by
  rw [flatMap_map']
  cases given with
  | none => rw [show (fun e : Ent => flatRow rec ah to none (M.ins.map (·.1)) (MRow.inr e.1 e.2.1 e.2.2)) = fun e => [FRow.inr (ah ++ e.1) e.2.1 e.2.2] from rfl, flatMap_one]; unfold insAn; rw [List.map_map]; rfl
  | some gv => rw [show (fun e : Ent => flatRow rec ah to (some gv) (M.ins.map (·.1)) (MRow.inr e.1 e.2.1 e.2.2)) = fun e => [FRow.wire (ah ++ e.1) e.2.1 (gv.getD ((M.ins.map (·.1)).idxOf e.1) (.num 0 0))] from rfl, flatMap_one]; unfold insAn; rw [List.map_map]; rfl
theorem bsAn_row : (bsAn M ah to).map An.row = (M.bs.map bRow).flatMap (flatRow rec ah to given (M.ins.map (·.1))) := by
  rw [flatMap_map']
  rw [show (fun b : Bx × Ex => flatRow rec ah to given (M.ins.map (·.1)) (bRow b)) = fun b => [FRow.box (ah ++ b.1.1) b.1.2.1 (to b.1.2.2.1) b.1.2.2.2 (b.2.pre ah)] from rfl, flatMap_one]; unfold bsAn; rw [List.map_map]; rfl
theorem csAn_row : (csAn M ah to).map An.row = (M.cs.map cRow).flatMap (flatRow rec ah to given (M.ins.map (·.1))) := by
  rw [flatMap_map']
  unfold csAn
  rw [List.map_flatMap]
  rfl
theorem osAn_row : (osAn M ah to r given).map An.row = (M.os.map oRow).flatMap (flatRow rec ah to given (M.ins.map (·.1))) := by
  rw [flatMap_map']
  cases given with
  | none => rw [show (fun o : Out => flatRow rec ah to none (M.ins.map (·.1)) (oRow o)) = fun o => [FRow.out (ah ++ o.1) o.2.1 (o.2.2.2.pre ah)] from rfl, flatMap_one]; unfold osAn; rw [List.map_map]; rfl
  | some gv => rw [show (fun o : Out => flatRow rec ah to (some gv) (M.ins.map (·.1)) (oRow o)) = fun o => [FRow.wire (ah ++ o.1) o.2.1 (o.2.2.2.pre ah)] from rfl, flatMap_one]; unfold osAn; rw [List.map_map]; rfl
theorem insAn_len : (insAn M ah to r given).length = M.ins.length := by
  unfold insAn
  cases given <;> simp
theorem insAn_real (hr : 1 ≤ r) (hg : GivC M X to r given) : Real ((insAn M ah to r given).map An.ent) ah to (r + (insAn M ah to r given).length) M.ins := fun e he => by
  have hl : 0 < M.ins.length := List.length_pos_of_mem he
  rw [insAn_len]
  cases given with
  | none =>
    refine ⟨0, by omega, List.mem_map.mpr ⟨⟨.inr (ah ++ e.1) e.2.1 e.2.2, e.2.2, 0, false⟩, List.mem_map.mpr ⟨e, he, rfl⟩, ?_⟩⟩
    have h2 : to e.2.2 = e.2.2 := hg e he
    rw [h2]
    rfl
  | some gv =>
    exact ⟨r, by omega, List.mem_map.mpr ⟨_, List.mem_map.mpr ⟨e, he, rfl⟩, rfl⟩⟩
theorem insAn_ok (hM : ModOk bel M) (hr : 1 ≤ r) (hg : GivC M X to r given) : ∀ a ∈ insAn M ah to r given, AnOk X a ∧ a.k ≤ r := by
  intro a ha
  have hnd : (M.ins.map (·.1)).Nodup := by
    have := hM.nd
    unfold Mod.names at this
    exact (List.nodup_append.mp (List.nodup_append.mp this).2.1).1
  cases given with
  | none =>
    obtain ⟨e, he, rfl⟩ := List.mem_map.mp ha
    obtain ⟨q1, q2, q3⟩ := hM.insOk e he
    exact ⟨⟨rfl, q2, rfl, rfl⟩, Nat.zero_le _⟩
  | some gv =>
    obtain ⟨e, he, rfl⟩ := List.mem_map.mp ha
    obtain ⟨i, hi⟩ := List.getElem?_of_mem he
    obtain ⟨g, g1, g2, g3⟩ := hg i e hi
    have hidx : (M.ins.map (·.1)).idxOf e.1 = i := idxOf_nodup hnd (by rw [List.getElem?_map, hi]; rfl)
    have hgd : gv.getD ((M.ins.map (·.1)).idxOf e.1) (.num 0 0) = g := by
      rw [hidx, List.getD_eq_getElem?_getD, g1]
      rfl
    refine ⟨⟨rfl, hr, ?_, ?_⟩, Nat.le_refl _⟩
    · rw [hgd]; exact g2
    · rw [hgd]; exact g3
theorem mod_inst (hM : ModOk bel M) (hb : BelPl bel) (HR : HRec bel rec j) (hr : 1 ≤ r) (hg : GivC M X to r given) : ∃ ann : List An,
    (ann.map An.row).Perm (M.rows.flatMap (flatRow rec ah to given (M.ins.map (·.1)))) ∧ (∀ a ∈ ann, AnOk (X ++ ann.map An.ent) a) ∧ (∀ a ∈ ann, a.k < r + ann.length) ∧
    (∀ o ∈ M.os, Nm (ann.map An.ent) (to o.2.2.1) (r + ann.length) (ah ++ o.1) o.2.1) ∧
    (∀ q ∈ M.rows.flatMap (flatRow rec ah to given (M.ins.map (·.1))), ∃ t : Str, q.path = ah ++ t ∧ t.length ≤ 14 * (j + 1) ∧ strOk' t = true) ∧ ((M.rows.flatMap (flatRow rec ah to given (M.ins.map (·.1)))).map FRow.path).Nodup := by
  generalize hA : insAn M ah to r given ++ (bsAn M ah to ++ csAn M ah to) = A
  have hAl : (insAn M ah to r given).length ≤ A.length := by rw [← hA, List.length_append]; omega
  have hR1 : Real (X ++ A.map An.ent) ah to (r + A.length) M.L1 := by
    unfold Mod.L1
    refine Real.append ((insAn_real hr hg).mono (fun e he => ?_) (by omega)) (Real.append (fun e he => ?_) (fun e he => ?_))
    · refine List.mem_append_right _ ?_
      rw [← hA, List.map_append]
      exact List.mem_append_left _ he
    · obtain ⟨b', hb', rfl⟩ := List.mem_map.mp he
      obtain ⟨b, hb1, rfl⟩ := List.mem_map.mp hb'
      refine ⟨0, by omega, List.mem_append_right _ ?_⟩
      rw [← hA, List.map_append, List.map_append]
      exact List.mem_append_right _ (List.mem_append_left _ (List.mem_map.mpr ⟨_, List.mem_map.mpr ⟨b, hb1, rfl⟩, rfl⟩))
    · obtain ⟨x, hx, rfl⟩ := List.mem_map.mp he
      refine ⟨0, by omega, List.mem_append_right _ ?_⟩
      rw [← hA, List.map_append, List.map_append]
      exact List.mem_append_right _ (List.mem_append_right _ (List.mem_map.mpr ⟨_, List.mem_flatMap.mpr ⟨x, hx, List.mem_cons_of_mem _ List.mem_cons_self⟩, rfl⟩))
  obtain ⟨sa, p1, o1, k1, r1, n1⟩ := steps_inst (ins := M.ins.map (·.1)) (given := given) HR hb (show 1 ≤ r + A.length by omega) hM.ssOk hR1
  generalize hO : osAn M ah to (r + A.length + sa.length) given = O
  have hOl : O.length = M.os.length := by rw [← hO]; unfold osAn; cases given <;> simp
  have hOm : ∀ o ∈ M.os, ∃ a ∈ O, a.ent = (ah ++ o.1, o.2.1, to o.2.2.1, r + A.length + sa.length, false) := fun o ho => by
    rw [← hO]
    cases given with
    | none => exact ⟨_, List.mem_map.mpr ⟨o, ho, rfl⟩, rfl⟩
    | some gv => exact ⟨_, List.mem_map.mpr ⟨o, ho, rfl⟩, rfl⟩
  have hLen : (A ++ (sa ++ O)).length = A.length + (sa.length + O.length) := by rw [List.length_append, List.length_append]
  have hE : ∀ e ∈ (X ++ A.map An.ent) ++ sa.map An.ent, e ∈ X ++ (A ++ (sa ++ O)).map An.ent := fun e he => by
    rw [List.map_append, List.map_append]
    rw [List.append_assoc] at he
    rcases List.mem_append.mp he with z | z
    · exact List.mem_append_left _ z
    · refine List.mem_append_right _ ?_
      rcases List.mem_append.mp z with z | z
      · exact List.mem_append_left _ z
      · exact List.mem_append_right _ (List.mem_append_left _ z)
  have hperm : ((A ++ (sa ++ O)).map An.row).Perm ((evRows M).flatMap (flatRow rec ah to given (M.ins.map (·.1)))) := by
    unfold evRows
    rw [← hA, ← hO, List.map_append, List.map_append, List.map_append, List.map_append, insAn_row (rec := rec), bsAn_row (rec := rec) (given := given), csAn_row (rec := rec) (given := given), osAn_row (rec := rec), List.flatMap_append, List.flatMap_append, List.flatMap_append, List.flatMap_append, List.append_assoc, List.append_assoc]
    refine List.Perm.append_left _ (List.Perm.append_left _ (List.Perm.append_left _ (List.Perm.append_right _ ?_)))
    rw [flatMap_map']
    exact p1
  have hL2 : Real (X ++ (A ++ (sa ++ O)).map An.ent) ah to (r + A.length + sa.length) M.L2 := by
    unfold Mod.L2
    exact r1.mono hE (Nat.le_refl _)
  -- what each row is like
  have hrow : ∀ x ∈ evRows M, ((flatRow rec ah to given (M.ins.map (·.1)) x).map FRow.path).Nodup ∧ (∀ q ∈ flatRow rec ah to given (M.ins.map (·.1)) x, ∃ t : Str, q.path = ah ++ (x.nm ++ t) ∧ (t = "" ∨ ∃ t' : Str, t = "." ++ t') ∧ t.length ≤ 14 * j + 4 ∧ strOk' t = true) ∧ plain x.nm = true := by
    obtain ⟨q1, q2, q3, q4, q5, q6⟩ := hM.pn
    have one : ∀ (p : Str) (q : FRow), q.path = ah ++ p → ∃ t : Str, q.path = ah ++ (p ++ t) ∧ (t = "" ∨ ∃ t' : Str, t = "." ++ t') ∧ t.length ≤ 14 * j + 4 ∧ strOk' t = true := fun p q e => ⟨"", by rw [app_nil']; exact e, .inl rfl, Nat.zero_le _, by decide +kernel⟩
    intro x hx
    unfold evRows at hx
    simp only [List.mem_append, List.mem_map] at hx
    rcases hx with ⟨e, he, rfl⟩ | ⟨b, hb', rfl⟩ | ⟨y, hy, rfl⟩ | ⟨s, hs, rfl⟩ | ⟨o, ho, rfl⟩
    · refine ⟨?_, fun q hq => ?_, q2 e he⟩
      · cases given <;> simp [flatRow]
      · cases given with
        | none => rw [List.mem_singleton.mp hq]; exact one e.1 _ rfl
        | some gv => rw [List.mem_singleton.mp hq]; exact one e.1 _ rfl
    · refine ⟨by simp [flatRow], fun q hq => ?_, q3 b hb'⟩
      rw [List.mem_singleton.mp hq]; exact one b.1.1 _ rfl
    · refine ⟨?_, fun q hq => ?_, q4 y hy⟩
      · show ([ah ++ y.1 ++ ".one", ah ++ y.1] : List Str).Nodup
        have : ah ++ y.1 ++ ".one" ≠ ah ++ y.1 := fun e => by
          have := congrArg Str.length e
          rw [app_len] at this
          have h4 : (".one" : Str).length = 4 := rfl
          omega
        simp [this]
      · rcases List.mem_cons.mp hq with e | e
        · rw [e]
          exact ⟨".one", by rw [← app_assoc']; rfl, .inr ⟨"one", by decide +kernel⟩, by show 4 ≤ _; omega, by decide +kernel⟩
        · rw [List.mem_singleton.mp e]; exact one y.1 _ rfl
    · obtain ⟨g1, g2⟩ := n1 s hs
      refine ⟨g1, fun q hq => ?_, ?_⟩
      · obtain ⟨t, h1, h2, h3, h4⟩ := g2 q hq
        refine ⟨t, ?_, h2, by omega, h4⟩
        rw [h1]
        cases s <;> rfl
      · have := q5 s hs
        cases s <;> exact this
    · refine ⟨?_, fun q hq => ?_, q6 o ho⟩
      · cases given <;> simp [flatRow]
      · cases given with
        | none => rw [List.mem_singleton.mp hq]; exact one o.1 _ rfl
        | some gv => rw [List.mem_singleton.mp hq]; exact one o.1 _ rfl
  have hnames : ((evRows M).map MRow.nm).Nodup := by
    have h1 := hM.nd
    unfold Mod.names at h1
    have h2 := (List.nodup_append.mp h1).2.1
    have e : (evRows M).map MRow.nm = M.ins.map (·.1) ++ (M.bs.map (·.1.1) ++ (M.cs.map (·.1) ++ (M.ss.map Step.nm ++ M.os.map (·.1)))) := by
      have e5 : (M.ss.map Step.row).map MRow.nm = M.ss.map Step.nm := by
        rw [List.map_map]
        refine List.map_congr_left fun s _ => ?_
        cases s <;> rfl
      unfold evRows
      rw [List.map_append, List.map_append, List.map_append, List.map_append, e5, List.map_map, List.map_map, List.map_map, List.map_map]
      rfl
    rw [e]
    exact h2
  have hperm2 := flat_perm (M := M) (rec := rec) (ah := ah) (to := to) (given := given) (ins := M.ins.map (·.1))
  refine ⟨A ++ (sa ++ O), hperm.trans hperm2.symm, fun a ha => ?_, fun a ha => ?_, fun o ho => ?_, fun q hq => ?_, ?_⟩
  · rcases List.mem_append.mp ha with z | z
    · rw [← hA] at z
      rcases List.mem_append.mp z with z | z
      · exact ((insAn_ok hM hr hg) a z).1.mono fun e he => List.mem_append_left _ he
      · rcases List.mem_append.mp z with z | z
        · obtain ⟨b, hb1, rfl⟩ := List.mem_map.mp z
          obtain ⟨⟨w1, w2, w3, w4⟩, w5, w6⟩ := hM.bxOk b hb1
          exact ⟨rfl, rfl, by rw [pre_depth]; exact w6, w4, fun h => (by cases h), (hL2.ty w5).imp fun x _ u ⟨k, _, h2⟩ => ⟨_, k, false, h2, fun _ => rfl⟩⟩
        · obtain ⟨x, hx, hz⟩ := List.mem_flatMap.mp z
          obtain ⟨c1, c2, d, c3, c4, c5⟩ := hM.crOk x hx
          rcases List.mem_cons.mp hz with e | e
          · subst e
            obtain ⟨k, _, hk⟩ := (hR1.mono (fun e he => hE e (List.mem_append_left _ he)) (Nat.le_refl _)) (x.2.2.2, 1, d) c5
            exact ⟨rfl, rfl, by show 1 ≤ 3; decide, by show x.2.2.1 < 2 ^ 1; omega, fun _ => ⟨ah ++ x.1, rfl⟩, ⟨by decide, _, k, false, hk, fun h => (by cases h)⟩⟩
          · rw [List.mem_singleton] at e
            subst e
            refine ⟨rfl, rfl, by show 1 ≤ 3; decide, by show x.2.2.1 < 2 ^ 1; omega, fun h => (by cases h), ⟨by decide, to x.2.1, 0, true, List.mem_append_right _ ?_, fun _ => rfl⟩⟩
            rw [← hA, List.map_append, List.map_append, List.map_append]
            exact List.mem_append_left _ (List.mem_append_right _ (List.mem_append_right _ (List.mem_map.mpr ⟨_, List.mem_flatMap.mpr ⟨x, hx, List.mem_cons_self⟩, rfl⟩)))
    · rcases List.mem_append.mp z with z | z
      · exact (o1 a z).mono hE
      · rw [← hO] at z
        cases given with
        | none =>
          obtain ⟨o, ho, rfl⟩ := List.mem_map.mp z
          obtain ⟨w1, w2, w3, w4, w5⟩ := hM.osOk o ho
          exact ⟨rfl, by show 1 ≤ r + A.length + sa.length; omega, by rw [pre_depth]; exact w5, hL2.ty w4⟩
        | some gv =>
          obtain ⟨o, ho, rfl⟩ := List.mem_map.mp z
          obtain ⟨w1, w2, w3, w4, w5⟩ := hM.osOk o ho
          exact ⟨rfl, by show 1 ≤ r + A.length + sa.length; omega, by rw [pre_depth]; exact w5, hL2.ty w4⟩
  · rw [hLen]
    rcases List.mem_append.mp ha with z | z
    · rw [← hA] at z
      rcases List.mem_append.mp z with z | z
      · have h1 := ((insAn_ok hM hr hg) a z).2
        have h2 := List.length_pos_of_mem z
        omega
      · have : a.k = 0 := by
          rcases List.mem_append.mp z with z | z
          · obtain ⟨b, hb1, rfl⟩ := List.mem_map.mp z; rfl
          · obtain ⟨x, hx, hz⟩ := List.mem_flatMap.mp z
            rcases List.mem_cons.mp hz with e | e
            · subst e; rfl
            · rw [List.mem_singleton] at e; subst e; rfl
        omega
    · rcases List.mem_append.mp z with z | z
      · have := k1 a z; omega
      · have h2 := List.length_pos_of_mem z
        have : a.k = r + A.length + sa.length := by
          rw [← hO] at z
          cases given with
          | none => obtain ⟨o, ho, rfl⟩ := List.mem_map.mp z; rfl
          | some gv => obtain ⟨o, ho, rfl⟩ := List.mem_map.mp z; rfl
        omega
  · obtain ⟨a, ha, e⟩ := hOm o ho
    refine ⟨r + A.length + sa.length, ?_, ?_⟩
    · rw [hLen]
      have := List.length_pos_of_mem ha
      omega
    · rw [List.map_append, List.map_append]
      exact List.mem_append_right _ (List.mem_append_right _ (e ▸ List.mem_map_of_mem ha))
  · obtain ⟨x, hx, hqx⟩ := List.mem_flatMap.mp (hperm2.mem_iff.mp hq)
    obtain ⟨_, g2, g3⟩ := hrow x hx
    obtain ⟨t, h1, h2, h3, h4⟩ := g2 q hqx
    refine ⟨x.nm ++ t, h1, ?_, strOk_app (plain_str g3) h4⟩
    rw [app_len]
    have := plain_len g3
    omega
  · refine (hperm2.map FRow.path).nodup_iff.mpr ?_
    refine fm_nd (ah := ah) (nm := MRow.nm) hnames (fun x hx => (hrow x hx).1) (fun x hx q hq => ?_) (fun x hx => (hrow x hx).2.2)
    obtain ⟨t, h1, h2, _⟩ := (hrow x hx).2.1 q hq
    exact ⟨t, h1, h2⟩
end
end WT

set_option Elab.async false
set_option linter.all false
set_option maxRecDepth 100000
set_option maxHeartbeats 4000000
/-! The flat design of a chain of modules. -/
namespace WT
open PySem PySem.Spec PyProof.Rows L2
theorem getD_idx {tk : List Str} {l : List Str} {c : Str} (h : tk.length = l.length) (hc : c ∈ l) (d d' : Str) : tk.getD (l.idxOf c) d = tk.getD (l.idxOf c) d' := by
  have : l.idxOf c < tk.length := by rw [h]; exact List.idxOf_lt_length_iff.mpr hc
  rw [List.getD_eq_getElem?_getD, List.getD_eq_getElem?_getD, List.getElem?_eq_getElem this]
  rfl
theorem flat_def {md : Md} {nm ah : Str} {ticks : List Str} {given : Option (List Ex)} {M : Mod} {j : Nat} (h : md.lookup nm = some M.rows) : flatRows md (j + 1) nm ah ticks given = M.rows.flatMap (flatRow (fun m ah' tk gv => flatRows md j m ah' tk (some gv)) ah (toOf M.a.ticks ticks given) given (M.ins.map (·.1))) := by
  show ((md.lookup nm).getD []).flatMap (flatRow (fun m ah' tk gv => flatRows md j m ah' tk (some gv)) ah (toOf (clocksOf ((md.lookup nm).getD [])) ticks given) given (insOf ((md.lookup nm).getD []))) = _
  rw [h]
  simp only [Option.getD_some]
  rw [Mod.clocks, Mod.insn]
theorem chain_bel {pre : List Link} (hc : Chain [] pre) : BelPl (belOf pre) := by
  have := hc.bel (fun b hb => by simp [belOf] at hb)
  simpa using this
/-- the parts below do what is asked of them -/
theorem chain_rec {md : Md} : ∀ (n : Nat) {pre : List Link}, pre.length ≤ n → Chain [] pre → (∀ q ∈ pre, md.lookup q.1 = some q.2.1.rows) → ∀ {j : Nat}, n ≤ j → HRec (belOf pre) (fun m ah' tk gv => flatRows md j m ah' tk (some gv)) j := by
  intro n
  induction n with
  | zero =>
    intro pre hl _ _ j _ m F z hm
    have hp : pre = [] := List.length_eq_zero_iff.mp (by omega)
    subst hp
    simp [belOf] at hm
  | succ n ih =>
    intro pre hl hc hmd j hj m F z hm ah tk gv X r hr htk hgv
    obtain ⟨j, rfl⟩ : ∃ k, j = k + 1 := ⟨j - 1, by omega⟩
    obtain ⟨lk, hlk, e⟩ := List.mem_map.mp hm
    injection e with e1 e2
    injection e2 with e2 e3
    subst e1
    subst e2
    obtain ⟨a1, a2, h3, hM⟩ := hc.at hlk
    rw [List.nil_append] at hM
    have hal : a1.length ≤ n := by
      have := congrArg List.length h3
      simp at this
      omega
    have hca : Chain [] a1 := by
      have key : ∀ (l l2 pre : List Link), Chain pre (l ++ l2) → Chain pre l := by
        intro l
        induction l with
        | nil => intro _ _ _; trivial
        | cons x l ihl => intro l2 pre h; exact ⟨h.1, h.2.1, ihl l2 _ h.2.2⟩
      exact key a1 _ [] (by rw [← h3]; exact hc)
    have hmd1 : ∀ q ∈ a1, md.lookup q.1 = some q.2.1.rows := fun q hq => hmd q (by rw [h3]; exact List.mem_append_left _ hq)
    have HR := ih hal hca hmd1 (j := j) (by omega)
    have hto : ∀ c ∈ lk.2.1.a.ticks, toOf lk.2.1.a.ticks tk (some gv) c = tk.getD (lk.2.1.a.ticks.idxOf c) "" := fun c hc => by
      unfold toOf
      show tk.getD _ c = _
      exact getD_idx htk hc _ _
    have hg : GivC lk.2.1 X (toOf lk.2.1.a.ticks tk (some gv)) r (some gv) := fun i e he => by
      obtain ⟨g, g1, g2, g3⟩ := hgv.2 i (e.1, e.2.1, lk.2.1.a.ticks.idxOf e.2.2) (by show (lk.2.1.ins.map _)[i]? = _; rw [List.getElem?_map, he]; rfl)
      refine ⟨g, g1, g2, ?_⟩
      rw [hto _ (hM.insOk e (List.mem_of_getElem? he)).2.2]
      exact g3
    obtain ⟨ann, p1, p2, p3, p4, p5, p6⟩ := mod_inst (ah := ah) hM (chain_bel hca) HR hr hg
    refine ⟨ann, ?_⟩
    have hR := flat_def (ah := ah) (ticks := tk) (given := some gv) (j := j) (hmd lk hlk)
    exact {
      perm := by show (ann.map An.row).Perm (flatRows md (j + 1) lk.1 ah tk (some gv)); rw [hR]; exact p1
      ok := p2
      rk := p3
      outs := fun o ho => by
        obtain ⟨o', ho', rfl⟩ := List.mem_map.mp ho
        have := p4 o' ho'
        rw [hto _ (hM.osOk o' ho').2.2.1] at this
        exact this
      pth := by show ∀ q ∈ flatRows md (j + 1) lk.1 ah tk (some gv), _; rw [hR]; exact p5
      nd := by show ((flatRows md (j + 1) lk.1 ah tk (some gv)).map FRow.path).Nodup; rw [hR]; exact p6 }
/-- what the flat design is like, with its clocks -/
structure ClkOk (F : List FRow) (dc : Str → Str) (wk : Str → Prop) : Prop where
  inp : ∀ q ∈ insP F, dc q.1 = q.2.2 ∧ ¬ wk q.1
  rule : ∀ p e, Rule F p e → ¬ wk p ∧ ∀ x ∈ e.names, dc x = dc p ∧ ¬ wk x
  box : ∀ q ∈ boxR F, dc q.1 = q.2.2.1 ∧ (¬ wk q.1 → ∀ x ∈ q.2.2.2.2.names, dc x = q.2.2.1) ∧ (wk q.1 → ∃ z : Str, q.1 = z ++ ".one")
def lookA (ann : List An) (x : Str) : Option An := ann.find? fun a => decide (a.row.path = x)
theorem lookA_of {ann : List An} (nd : (ann.map fun a => a.row.path).Nodup) {a : An} (ha : a ∈ ann) : lookA ann a.row.path = some a := by
  unfold lookA
  induction ann with
  | nil => cases ha
  | cons b l ih =>
    rw [List.map_cons, List.nodup_cons] at nd
    rw [List.find?_cons]
    rcases List.mem_cons.mp ha with e | e
    · subst e; simp
    · have : b.row.path ≠ a.row.path := fun z => nd.1 (z ▸ List.mem_map_of_mem (f := fun a : An => a.row.path) e)
      rw [decide_eq_false this]
      exact ih nd.2 e
theorem design_flat {md : Md} {top : Str} (h : DesignOk md top) : ∃ (wd rk : Str → Nat) (dc : Str → Str) (wk : Str → Prop), FlatOk (flatOf md top) wd rk ∧ (∀ r ∈ flatOf md top, strOk' r.path = true) ∧ InW (flatOf md top) ∧ ClkOk (flatOf md top) dc wk := by
  obtain ⟨pre, M, hnd, hpl, hc, hM, hmd, htop, hlen⟩ := h
  have HR := chain_rec 2 hpl hc hmd (j := 2) (Nat.le_refl _)
  have hR : flatOf md top = _ := flat_def (ah := "") (ticks := []) (given := none) (j := 2) htop
  obtain ⟨ann, p1, p2, p3, _, p5, p6⟩ := mod_inst (ah := "") (to := toOf M.a.ticks [] none) (given := none) (X := []) (r := 1) hM (chain_bel hc) HR (Nat.le_refl _) (fun e _ => rfl)
  rw [← hR] at p1 p5 p6
  generalize flatOf md top = F at *
  have ndA : (ann.map fun a => a.row.path).Nodup := by
    have := (p1.map FRow.path).nodup_iff.mpr p6
    rwa [List.map_map] at this
  have annlen : ann.length ≤ 40 := by
    have := p1.length_eq
    rw [List.length_map] at this
    omega
  have hget : ∀ r ∈ F, ∃ a ∈ ann, a.row = r := fun r hr => List.mem_map.mp (p1.mem_iff.mpr hr)
  have hin : ∀ a ∈ ann, a.row ∈ F := fun a ha => p1.mem_iff.mp (List.mem_map_of_mem ha)
  generalize hwd : (fun x => ((lookA ann x).map fun a => a.row.width).getD 0) = wd
  generalize hrk : (fun x => ((lookA ann x).map fun a => a.k).getD 0) = rk
  generalize hdc : (fun x => ((lookA ann x).map fun a => a.c).getD ("" : Str)) = dc
  generalize hwk : (fun x => ((lookA ann x).map fun a => a.wk) = some true) = wk
  have wd_of : ∀ a ∈ ann, wd a.row.path = a.row.width := fun a ha => by rw [← hwd]; simp only [lookA_of ndA ha]; rfl
  have rk_of : ∀ a ∈ ann, rk a.row.path = a.k := fun a ha => by rw [← hrk]; simp only [lookA_of ndA ha]; rfl
  have dc_of : ∀ a ∈ ann, dc a.row.path = a.c := fun a ha => by rw [← hdc]; simp only [lookA_of ndA ha]; rfl
  have wk_of : ∀ a ∈ ann, wk a.row.path ↔ a.wk = true := fun a ha => by rw [← hwk]; simp only [lookA_of ndA ha]; simp
  have ent_of : ∀ {x u c k b}, (x, u, c, k, b) ∈ ([] : List EnT) ++ ann.map An.ent → ∃ a ∈ ann, a.row.path = x ∧ a.row.width = u ∧ a.c = c ∧ a.k = k ∧ a.wk = b := fun {x u c k b} hx => by
    rw [List.nil_append] at hx
    obtain ⟨a, ha, e⟩ := List.mem_map.mp hx
    unfold An.ent at e
    simp only [Prod.mk.injEq] at e
    exact ⟨a, ha, e.1, e.2.1, e.2.2.1, e.2.2.2.1, e.2.2.2.2⟩
  have hwidth : ∀ r ∈ F, r.width ≤ 64 := fun r hr => by
    obtain ⟨a, ha, rfl⟩ := hget r hr
    have := p2 a ha
    unfold AnOk at this
    cases hrow : a.row with
    | inr p w c => rw [hrow] at this; have := this.2.1; show w ≤ 64; omega
    | wire p w e => rw [hrow] at this; exact this.2.2.2.le
    | out p w e => rw [hrow] at this; exact this.2.2.2.le
    | box p w c i e => rw [hrow] at this; exact this.2.2.2.2.2.le
  -- a rule's names
  have hrule : ∀ p e, Rule F p e → ∃ a ∈ ann, a.row.path = p ∧ a.wk = false ∧ 1 ≤ a.k ∧ e.depth ≤ 3 ∧ Ty (Nm ([] ++ ann.map An.ent) a.c a.k) e a.row.width := fun p e hp => by
    obtain ⟨w, h | h⟩ := hp
    · obtain ⟨a, ha, hr⟩ := hget _ h
      have := p2 a ha
      unfold AnOk at this
      rw [hr] at this
      exact ⟨a, ha, by rw [hr]; rfl, this.1, this.2.1, this.2.2.1, by rw [hr]; exact this.2.2.2⟩
    · obtain ⟨a, ha, hr⟩ := hget _ h
      have := p2 a ha
      unfold AnOk at this
      rw [hr] at this
      exact ⟨a, ha, by rw [hr]; rfl, this.1, this.2.1, this.2.2.1, by rw [hr]; exact this.2.2.2⟩
  have hboxr : ∀ p w c i e, FRow.box p w c i e ∈ F → ∃ a ∈ ann, a.row.path = p ∧ a.c = c ∧ e.depth ≤ 3 ∧ i < 2 ^ w ∧ (a.wk = true → ∃ q : Str, p = q ++ ".one") ∧ Ty (fun x u => ∃ c' k b, (x, u, c', k, b) ∈ ([] : List EnT) ++ ann.map An.ent ∧ (a.wk = false → c' = c)) e w := fun p w c i e h => by
    obtain ⟨a, ha, hr⟩ := hget _ h
    have := p2 a ha
    unfold AnOk at this
    rw [hr] at this
    exact ⟨a, ha, by rw [hr]; rfl, this.1, this.2.2.1, this.2.2.2.1, this.2.2.2.2.1, this.2.2.2.2.2⟩
  refine ⟨wd, rk, dc, wk, ?_, fun r hr => ?_, fun q hq => ?_, ?_⟩
  · exact {
      nd := p6
      len := hlen
      wdr := fun r hr => by
        obtain ⟨a, ha, rfl⟩ := hget r hr
        exact ⟨wd_of a ha, hwidth _ (hin a ha)⟩
      plen := fun r hr => by
        obtain ⟨t, e, h2, _⟩ := p5 r hr
        rw [e, app_len]
        have : ("" : Str).length = 0 := rfl
        omega
      rule := fun p e hp => by
        obtain ⟨a, ha, e1, e2, e3, e4, e5⟩ := hrule p e hp
        refine ⟨e4, fun x hx => ?_, ?_⟩
        · obtain ⟨u, k, hk, hm⟩ := e5.mem x hx
          obtain ⟨b, hb, b1, b2, b3, b4, b5⟩ := ent_of hm
          rcases mem_bu (F := F) (x := x) (b1 ▸ List.mem_map_of_mem (hin b hb)) with q | q
          · exact .inr q
          · refine .inl ⟨q, ?_⟩
            rw [← b1, rk_of b hb, b4, ← e1, rk_of a ha]
            exact hk
        · rw [← e1, wd_of a ha]
          refine e5.imp fun x hx u hu => ?_
          obtain ⟨k, hk, hm⟩ := hu
          obtain ⟨b, hb, b1, b2, b3, b4, b5⟩ := ent_of hm
          exact ⟨b1 ▸ List.mem_map_of_mem (hin b hb), by rw [← b1, wd_of b hb, b2]⟩
      rkb := fun p hp => by
        obtain ⟨e, he⟩ := mem_upaths.mp hp
        obtain ⟨a, ha, e1, _⟩ := hrule p e he
        rw [← e1, rk_of a ha]
        have := p3 a ha
        omega
      box := fun p w c i e h => by
        obtain ⟨a, ha, e1, e2, e3, e4, e5, e6⟩ := hboxr p w c i e h
        refine ⟨e3, e6.imp fun x hx u hu => ?_, e4⟩
        obtain ⟨c', k, b', hm, _⟩ := hu
        obtain ⟨b, hb, b1, b2, b3, b4, b5⟩ := ent_of hm
        exact ⟨b1 ▸ List.mem_map_of_mem (hin b hb), by rw [← b1, wd_of b hb, b2]⟩ }
  · obtain ⟨t, e, _, h3⟩ := p5 r hr
    rw [e]
    exact strOk_app (by decide +kernel) h3
  · obtain ⟨a, ha, hr⟩ := hget _ (mem_insP.mp hq)
    have := p2 a ha
    unfold AnOk at this
    rw [hr] at this
    have := this.2.1
    omega
  · exact {
      inp := fun q hq => by
        obtain ⟨a, ha, hr⟩ := hget _ (mem_insP.mp hq)
        have := p2 a ha
        unfold AnOk at this
        rw [hr] at this
        have hp : a.row.path = q.1 := by rw [hr]; rfl
        refine ⟨by rw [← hp, dc_of a ha, this.1], fun z => ?_⟩
        rw [← hp, wk_of a ha, this.2.2.1] at z
        cases z
      rule := fun p e hp => by
        obtain ⟨a, ha, e1, e2, e3, e4, e5⟩ := hrule p e hp
        refine ⟨fun z => ?_, fun x hx => ?_⟩
        · rw [← e1, wk_of a ha, e2] at z
          cases z
        · obtain ⟨u, k, hk, hm⟩ := e5.mem x hx
          obtain ⟨b, hb, b1, b2, b3, b4, b5⟩ := ent_of hm
          refine ⟨by rw [← b1, dc_of b hb, b3, ← e1, dc_of a ha], fun z => ?_⟩
          rw [← b1, wk_of b hb, b5] at z
          cases z
      box := fun q hq => by
        obtain ⟨a, ha, e1, e2, e3, e4, e5, e6⟩ := hboxr _ _ _ _ _ (mem_boxR.mp hq)
        refine ⟨by rw [← e1, dc_of a ha, e2], fun z x hx => ?_, fun z => ?_⟩
        · have hf : a.wk = false := by
            cases hw : a.wk with
            | false => rfl
            | true => exact absurd ((wk_of a ha).mpr hw) (by rw [e1]; exact z)
          obtain ⟨u, c', k, b', hm, hc'⟩ := e6.mem x hx
          obtain ⟨b, hb, b1, b2, b3, b4, b5⟩ := ent_of hm
          rw [← b1, dc_of b hb, b3, hc' hf]
        · rw [← e1, wk_of a ha] at z
          exact e5 z }
end WT

set_option Elab.async false
set_option linter.all false
set_option maxRecDepth 100000
set_option maxHeartbeats 4000000
/-! No clock's ins reach another's names, plainly. -/
namespace WT
open PySem PySem.Spec PyProof.Rows L2
theorem stands_at {F : List FRow} {wd : Str → Nat} : ∀ {bs : Beats} {S : List Int} {t : Nat}, (stands F wd S bs)[t]? = (bs[t]?).map fun b => (goS F wd S (bs.take t), b.2)
  | [], _, _ => rfl
  | b :: bs, S, 0 => rfl
  | b :: bs, S, t + 1 => by
    show (stands F wd (nextS F wd (solV F wd S b.2) S b.1) bs)[t]? = _
    rw [stands_at]
    rfl
theorem Vs_at {F : List FRow} {wd : Str → Nat} {bs : Beats} {t : Nat} : (Vs F wd bs)[t]? = (bs[t]?).map fun b => solV F wd (goS F wd (init0 F) (bs.take t)) b.2 := by
  unfold Vs
  rw [List.getElem?_map, stands_at]
  cases bs[t]? <;> rfl
/-- two solutions that agree at the base of a closed part agree on it -/
theorem agree {F : List FRow} {wd rk : Str → Nat} (fo : FlatOk F wd rk) {V V' : Str → Int} (so : Sol F wd V) (so' : Sol F wd V') (Pd : Str → Prop) (hb : ∀ p ∈ bpaths F, Pd p → V p = V' p) (hr : ∀ p e, Rule F p e → Pd p → ∀ x ∈ e.names, Pd x) : ∀ p ∈ F.map FRow.path, Pd p → V p = V' p := by
  have key : ∀ (n : Nat) (p : Str), p ∈ upaths F → rk p < n → Pd p → V p = V' p := by
    intro n
    induction n with
    | zero => intro p _ h; omega
    | succ n ih =>
      intro p hp hn hd
      obtain ⟨e, he⟩ := mem_upaths.mp hp
      rw [so.rule p e he, so'.rule p e he]
      refine ev_congr fun x hx => ?_
      rcases (fo.rule p e he).2.1 x hx with ⟨q1, q2⟩ | q
      · exact ih x q1 (by omega) (hr p e he hd x hx)
      · exact hb x q (hr p e he hd x hx)
  intro p hp hd
  rcases mem_bu hp with q | q
  · exact hb p q hd
  · exact key 300 p q (fo.rkb p q) hd
theorem go_len {F : List FRow} {wd rk : Str → Nat} (fo : FlatOk F wd rk) {bs : Beats} (hi : ∀ x ∈ bs, InsOk F x.2) (t : Nat) : StOk F (goS F wd (init0 F) (bs.take t)) := go_ok fo (st_init fo) fun x hx => hi x (List.mem_of_mem_take hx)
theorem zip_at {α β : Type} {l : List α} {m : List β} {i : Nat} {a : α} {b : β} (h1 : l[i]? = some a) (h2 : m[i]? = some b) : (a, b) ∈ l.zip m := List.mem_of_getElem? (i := i) (by rw [List.getElem?_zip_eq_some]; exact ⟨h1, h2⟩)
section
variable {F : List FRow} {wd rk : Str → Nat} {dc : Str → Str} {wk : Str → Prop} {C : Str} {s : Nat} {bs bs' : Beats}
theorem Oth.ins' (ho : Oth F C s bs bs') (hi : ∀ x ∈ bs, InsOk F x.2) : ∀ x ∈ bs', InsOk F x.2 := fun x hx => by
  obtain ⟨i, hix⟩ := List.getElem?_of_mem hx
  have hl := (List.getElem?_eq_some_iff.mp hix).1
  exact (ho.at_ i _ x (List.getElem?_eq_getElem (by rw [← ho.len]; exact hl)) hix).2.1
theorem Oth.take (ho : Oth F C s bs bs') {t : Nat} (ht : t ≤ s) : bs'.take t = bs.take t := by
  refine List.ext_getElem? fun i => ?_
  rw [List.getElem?_take, List.getElem?_take]
  by_cases hi : i < t
  · rw [if_pos hi, if_pos hi]
    cases h : bs[i]? with
    | none =>
      rw [List.getElem?_eq_none_iff] at h ⊢
      rw [ho.len]; exact h
    | some x =>
      have hl := (List.getElem?_eq_some_iff.mp h).1
      have h2 : bs'[i]? = some (bs'[i]'(by rw [ho.len]; exact hl)) := List.getElem?_eq_getElem _
      rw [h2, (ho.at_ i x _ h h2).2.2.1 (by omega)]
  · rw [if_neg hi, if_neg hi]
abbrev StT (F : List FRow) (wd : Str → Nat) (bs : Beats) (t : Nat) : List Int := goS F wd (init0 F) (bs.take t)
theorem StT_succ {t : Nat} {x : List Str × List Int} (hx : bs[t]? = some x) : StT F wd bs (t + 1) = nextS F wd (solV F wd (StT F wd bs t) x.2) (StT F wd bs t) x.1 := by
  show goS F wd (init0 F) (bs.take (t + 1)) = _
  rw [take_snoc hx, goS_snoc]
theorem next_at {V : Str → Int} {S : List Int} {cl : List Str} {i : Nat} {q : BoxR} {v : Int} (hq : (boxR F)[i]? = some q) (hv : S[i]? = some v) : (nextS F wd V S cl)[i]? = some (if q.2.2.1 ∈ cl then q.2.2.2.2.ev wd V else v) := by
  unfold nextS
  rw [List.getElem?_map, show ((boxR F).zip S)[i]? = some (q, v) from by rw [List.getElem?_zip_eq_some]; exact ⟨hq, hv⟩]
  rfl
/-- boxes of another clock -/
def BEq (F : List FRow) (wd : Str → Nat) (wk : Str → Prop) (C : Str) (s : Nat) (bs bs' : Beats) (t : Nat) : Prop := ∀ (i : Nat) (q : BoxR), (boxR F)[i]? = some q → q.2.2.1 ≠ C → (cnt q.2.2.1 bs s t = 0 ∨ (cnt q.2.2.1 bs s t ≤ 1 ∧ ¬ wk q.1)) → (StT F wd bs t)[i]? = (StT F wd bs' t)[i]?
/-- names of another clock -/
def NEq (F : List FRow) (wd : Str → Nat) (dc : Str → Str) (wk : Str → Prop) (C : Str) (s : Nat) (bs bs' : Beats) (t : Nat) : Prop := ∀ x x', bs[t]? = some x → bs'[t]? = some x' → ∀ p ∈ F.map FRow.path, dc p ≠ C → (cnt (dc p) bs s t = 0 ∨ (cnt (dc p) bs s t ≤ 1 ∧ ¬ wk p)) → solV F wd (StT F wd bs t) x.2 p = solV F wd (StT F wd bs' t) x'.2 p
theorem names_eq (fo : FlatOk F wd rk) (ck : ClkOk F dc wk) (ho : Oth F C s bs bs') (hi : ∀ x ∈ bs, InsOk F x.2) {t : Nat} (hB : BEq F wd wk C s bs bs' t) : NEq F wd dc wk C s bs bs' t := by
  intro x x' hx hx' p hp hpc hcnt
  have hi' := ho.ins' hi
  have hI := hi x (List.mem_of_getElem? hx)
  have hI' := hi' x' (List.mem_of_getElem? hx')
  have hS := go_len (wd := wd) fo hi t
  have hS' := go_len (wd := wd) fo hi' t
  obtain ⟨o1, o2, o3, o4⟩ := ho.at_ t x x' hx hx'
  generalize hD : dc p = D at hpc hcnt
  refine agree fo (sol_ok fo hS hI) (sol_ok fo hS' hI') (fun y => dc y = D ∧ (cnt D bs s t = 0 ∨ (cnt D bs s t ≤ 1 ∧ ¬ wk y))) (fun y hy hd => ?_) (fun y e he hd z hz => ?_) p hp ⟨hD, hcnt⟩
  · rcases mem_bpaths.mp hy with h | h
    · obtain ⟨q, hq, rfl⟩ := List.mem_map.mp h
      obtain ⟨i, hqi⟩ := List.getElem?_of_mem hq
      have hil := (List.getElem?_eq_some_iff.mp hqi).1
      have hv : x.2[i]? = some (x.2[i]'(by rw [hI.1]; exact hil)) := List.getElem?_eq_getElem _
      have hne : q.2.2 ≠ C := by rw [← (ck.inp q hq).1, hd.1]; exact hpc
      have hv' := o4 i q hqi hne
      rw [hv] at hv'
      rw [solV_in fo hS hI (zip_at hqi hv), solV_in fo hS' hI' (zip_at hqi hv')]
    · obtain ⟨q, hq, rfl⟩ := List.mem_map.mp h
      obtain ⟨i, hqi⟩ := List.getElem?_of_mem hq
      have hil := (List.getElem?_eq_some_iff.mp hqi).1
      have hv : (StT F wd bs t)[i]? = some ((StT F wd bs t)[i]'(by rw [hS.1]; exact hil)) := List.getElem?_eq_getElem _
      have hclk := (ck.box q hq).1
      have hv' := hB i q hqi (by rw [← hclk, hd.1]; exact hpc) (by rw [← hclk, hd.1]; exact hd.2)
      rw [hv] at hv'
      rw [solV_box fo hS hI (zip_at hqi hv), solV_box fo hS' hI' (zip_at hqi hv'.symm)]
  · obtain ⟨w1, w2⟩ := ck.rule y e he
    obtain ⟨w3, w4⟩ := w2 z hz
    refine ⟨w3.trans hd.1, ?_⟩
    rcases hd.2 with h | ⟨h, _⟩
    · exact .inl h
    · exact .inr ⟨h, w4⟩
theorem boxes_eq (fo : FlatOk F wd rk) (ck : ClkOk F dc wk) (ho : Oth F C s bs bs') (hi : ∀ x ∈ bs, InsOk F x.2) : ∀ t, t ≤ bs.length → BEq F wd wk C s bs bs' t := by
  intro t
  induction t with
  | zero => intro _ i q _ _ _; rfl
  | succ t ih =>
    intro ht i q hq hne hcnt
    by_cases hts : t + 1 ≤ s
    · show (goS F wd (init0 F) (bs.take (t + 1)))[i]? = (goS F wd (init0 F) (bs'.take (t + 1)))[i]?
      rw [ho.take hts]
    have hB := ih (by omega)
    have hN := names_eq fo ck ho hi hB
    have hi' := ho.ins' hi
    have hx : bs[t]? = some (bs[t]'(by omega)) := List.getElem?_eq_getElem _
    have hx' : bs'[t]? = some (bs'[t]'(by rw [ho.len]; omega)) := List.getElem?_eq_getElem _
    generalize (bs[t]'(by omega)) = x at hx
    generalize (bs'[t]'(by rw [ho.len]; omega)) = x' at hx'
    have o1 := (ho.at_ t x x' hx hx').1
    have hS := go_len (wd := wd) fo hi t
    have hS' := go_len (wd := wd) fo hi' t
    have hil := (List.getElem?_eq_some_iff.mp hq).1
    have hv : (StT F wd bs t)[i]? = some ((StT F wd bs t)[i]'(by rw [hS.1]; exact hil)) := List.getElem?_eq_getElem _
    have hv' : (StT F wd bs' t)[i]? = some ((StT F wd bs' t)[i]'(by rw [hS'.1]; exact hil)) := List.getElem?_eq_getElem _
    rw [StT_succ hx, StT_succ hx', next_at hq hv, next_at hq hv', o1]
    have hqm := List.mem_of_getElem? hq
    have hst := cnt_step (D := q.2.2.1) hx (show s ≤ t by omega)
    rw [hst] at hcnt
    by_cases hc : q.2.2.1 ∈ x.1
    · rw [if_pos hc, if_pos hc]
      rw [if_pos hc] at hcnt
      have hw : cnt q.2.2.1 bs s t = 0 ∧ ¬ wk q.1 := by
        rcases hcnt with h | ⟨h, h2⟩
        · omega
        · exact ⟨by omega, h2⟩
      refine congrArg some (ev_congr fun y hy => ?_)
      have hdy := (ck.box q hqm).2.1 hw.2 y hy
      obtain ⟨_, hty, _⟩ := fo.box _ _ _ _ _ (mem_boxR.mp hqm)
      obtain ⟨u, hu⟩ := hty.mem y hy
      exact hN x x' hx hx' y hu.1 (by rw [hdy]; exact hne) (.inl (by rw [hdy]; exact hw.1))
    · rw [if_neg hc, if_neg hc]
      rw [if_neg hc, Nat.add_zero] at hcnt
      have := hB i q hq hne hcnt
      rw [hv, hv'] at this
      exact this
/-- the clock found is the clock declared -/
theorem cl_dc (fo : FlatOk F wd rk) (ck : ClkOk F dc wk) {cl : Str → Option Str} (cs : ClSol F cl) : ∀ p ∈ F.map FRow.path, ∀ D, cl p = some D → D = dc p := by
  have hb : ∀ p ∈ bpaths F, ∀ D, cl p = some D → D = dc p := fun p hp D h => by
    rcases mem_bpaths.mp hp with z | z
    · obtain ⟨q, hq, rfl⟩ := List.mem_map.mp z
      rw [cs.inp q hq] at h
      rw [(ck.inp q hq).1]
      exact (Option.some.inj h).symm
    · obtain ⟨q, hq, rfl⟩ := List.mem_map.mp z
      rw [cs.box q hq] at h
      rw [(ck.box q hq).1]
      exact (Option.some.inj h).symm
  have key : ∀ (n : Nat) (p : Str), p ∈ upaths F → rk p < n → ∀ D, cl p = some D → D = dc p := by
    intro n
    induction n with
    | zero => intro p _ h; omega
    | succ n ih =>
      intro p hp hn D hD
      obtain ⟨e, he⟩ := mem_upaths.mp hp
      rw [cs.rule p e he] at hD
      obtain ⟨x, hx, hxD⟩ := List.mem_filterMap.mp (List.mem_of_head? hD)
      rw [← ((ck.rule p e he).2 x hx).1]
      rcases (fo.rule p e he).2.1 x hx with ⟨q1, q2⟩ | q
      · exact ih x q1 (by omega) D hxD
      · exact hb x q D hxD
  intro p hp D hD
  rcases mem_bu hp with q | q
  · exact hb p q D hD
  · exact key 300 p q (fo.rkb p q) D hD
def lastOne (p : Str) : Bool := decide (V.str (cutS p (some (-4)) none) = V.str ".one")
theorem lastOne_app (z : Str) : lastOne (z ++ ".one") = true := by
  unfold lastOne
  refine decide_eq_true (congrArg V.str (str_of_list ?_))
  unfold cutS
  have h1 : (z ++ ".one").length = z.length + 4 := by rw [app_len]; rfl
  have h2 : HT.sIx (z ++ ".one").length 0 (some (-4)) = z.length := by
    show (if (-4 : Int) < 0 then ((-4 : Int) + ((z ++ ".one").length : Int)).toNat else min (-4 : Int).toNat (z ++ ".one").length) = z.length
    rw [if_pos (by decide), h1]
    omega
  rw [h2, HT.sIx_none, h1]
  show ((((z ++ ".one").cps.toList.drop z.length).take (z.length + 4 - z.length)).toArray).toList = _
  rw [app_list, List.drop_left' (by show z.cps.toList.length = z.cps.size; simp), show z.length + 4 - z.length = 4 by omega]
  decide +kernel
/-- what the law asks of a path -/
def NonInt (F : List FRow) (wd : Str → Nat) (C : Str) (s : Nat) (bs bs' : Beats) : Prop := ∀ cl, ClSol F cl → ∀ p ∈ F.map FRow.path, cl p ≠ some C → ∀ (t : Nat) V V', (Vs F wd bs)[t]? = some V → (Vs F wd bs')[t]? = some V' → (∀ D, cl p = some D → cnt D bs s t < (if lastOne p = true then 1 else 2)) → V p = V' p
theorem nonint (fo : FlatOk F wd rk) (ck : ClkOk F dc wk) (ho : Oth F C s bs bs') (hi : ∀ x ∈ bs, InsOk F x.2) : NonInt F wd C s bs bs' := by
  intro cl cs p hp hpc t V V' hV hV' hcnt
  rw [Vs_at] at hV hV'
  obtain ⟨x, hx, rfl⟩ := Option.map_eq_some_iff.mp hV
  obtain ⟨x', hx', rfl⟩ := Option.map_eq_some_iff.mp hV'
  have htl := (List.getElem?_eq_some_iff.mp hx).1
  have hi' := ho.ins' hi
  cases hcl : cl p with
  | some D =>
    have hD := cl_dc fo ck cs p hp D hcl
    have hN := names_eq fo ck ho hi (boxes_eq fo ck ho hi t (by omega))
    have hc := hcnt D hcl
    refine hN x x' hx hx' p hp (by rw [← hD]; exact fun z => hpc (by rw [hcl, z])) ?_
    rw [← hD]
    cases hl : lastOne p with
    | true =>
      rw [hl] at hc
      simp at hc
      exact .inl hc
    | false =>
      rw [hl] at hc
      simp at hc
      refine .inr ⟨by omega, fun hw => ?_⟩
      rcases mem_bu hp with q | q
      · rcases mem_bpaths.mp q with z | z
        · obtain ⟨q', hq', rfl⟩ := List.mem_map.mp z
          exact (ck.inp q' hq').2 hw
        · obtain ⟨q', hq', rfl⟩ := List.mem_map.mp z
          obtain ⟨z, hz⟩ := (ck.box q' hq').2.2 hw
          rw [hz, lastOne_app] at hl
          cases hl
      · obtain ⟨e, he⟩ := mem_upaths.mp q
        exact (ck.rule p e he).1 hw
  | none =>
    have hI := hi x (List.mem_of_getElem? hx)
    have hI' := hi' x' (List.mem_of_getElem? hx')
    refine agree fo (sol_ok fo (go_len (wd := wd) fo hi t) hI) (sol_ok fo (go_len (wd := wd) fo hi' t) hI') (fun y => cl y = none) (fun y hy hd => ?_) (fun y e he hd z hz => ?_) p hp hcl
    · rcases mem_bpaths.mp hy with h | h
      · obtain ⟨q, hq, rfl⟩ := List.mem_map.mp h
        rw [cs.inp q hq] at hd
        cases hd
      · obtain ⟨q, hq, rfl⟩ := List.mem_map.mp h
        rw [cs.box q hq] at hd
        cases hd
    · rw [cs.rule y e he, List.head?_eq_none_iff, List.filterMap_eq_nil_iff] at hd
      exact hd z hz
theorem before_eq (ho : Oth F C s bs bs') : (Vs F wd bs').take s = (Vs F wd bs).take s := by
  refine List.ext_getElem? fun i => ?_
  rw [List.getElem?_take, List.getElem?_take]
  by_cases hi : i < s
  · rw [if_pos hi, if_pos hi, Vs_at, Vs_at]
    have h1 := ho.take (t := i) (by omega)
    have h2 : bs'[i]? = bs[i]? := by
      have := congrArg (fun l : Beats => l[i]?) (ho.take (t := i + 1) (by omega))
      simpa [List.getElem?_take] using this
    rw [h1, h2]
  · rw [if_neg hi, if_neg hi]
end
end WT

set_option Elab.async false
set_option linter.all false
set_option maxRecDepth 100000
set_option maxHeartbeats 8000000
/-! right. -/
namespace WT
open PySem PySem.Spec PyProof.Rows L2
abbrev s_right : Stmt := topS 38
abbrev N_right : List Str := ["_law_flat_here", "_law_rows", "_law_other", "_law_clock", "_law_start", "_law_goes", "_law_path", "_law_many", "_law_stay"]
abbrev P_right : List Str := ["_law_flat_here", "_law_rows", "_law_other", "_law_clock", "_law_start"]
theorem sc_right : FnScope N_right P_right (defScope s_right) := ⟨rfl, rfl, rfl, by decide +kernel, rfl, by decide +kernel, by decide +kernel⟩
theorem slA_take {Q : VK} {H : Hp} {a : Addr} {xs : List V} {k : Nat} (h : H a = some (.tup xs)) (hQ : ∀ p H', H' p = some (.tup (xs.take k)) → Kp [] H H' → Q (.ref p) H') :
    (HT.sIx xs.length 0 none = 0 ∧ HT.sIx xs.length xs.length (some (k : Int)) = xs.length → Q (.ref a) H) ∧ (¬ (HT.sIx xs.length 0 none = 0 ∧ HT.sIx xs.length xs.length (some (k : Int)) = xs.length) → ∀ p, H p = none → Q (.ref p) (upd H p (.tup (cutV xs none (some (k : Int)))))) := by
  refine ⟨fun z => ?_, fun _ p hp => ?_⟩
  · refine hQ a H ?_ (Kp.refl _ _)
    have := z.2
    rw [HT.sIx_nat] at this
    rw [List.take_of_length_le (by omega)]
    exact h
  · refine hQ p _ ?_ (Kp.new hp)
    rw [upd_same, cutV_hi]
/-- t[:k] of a tuple, tracked -/
def rSlTk : V → Option Int → Option Int → Hp → VK → Prop := fun x lo hi H Q => ∃ a xs, ∃ k : Nat, x = .ref a ∧ lo = none ∧ hi = some (k : Int) ∧ H a = some (.tup xs) ∧ ∀ p H', H' p = some (.tup (xs.take k)) → Kp [] H H' → Q (.ref p) H'
theorem sl_tk {X : Cx} : SlR X rSlTk := by
  intro pins s σ H x v vl vu lo hi sl Q I rx hs pl pu h
  obtain ⟨a, xs, k, rfl, rfl, rfl, ha, hQ⟩ := h
  exact sl_tupA pins s σ H (.ref a) v vl vu none (some (k : Int)) sl Q I rx hs pl pu ⟨a, xs, rfl, SqT.of ha, slA_take ha hQ⟩
theorem ints_dp {K : PySem.W.Frag} {H : Hp} : ∀ l : List Int, DpAll K H (l.map V.int) (l.map PyData.int)
  | [] => .nil
  | i :: l => .cons (.int i) (ints_dp l)
theorem ints_lay : ∀ l : List Int, PyData.canLayAll0 (l.map PyData.int) = true
  | [] => by simp [PyData.canLayAll0]
  | i :: l => by rw [List.map_cons]; simp only [PyData.canLayAll0, PyData.canLay0, ints_lay l, Bool.and_self]
theorem ints_depth : ∀ l : List Int, PyData.depthAll (l.map PyData.int) = 0
  | [] => by simp [PyData.depthAll]
  | i :: l => by rw [List.map_cons]; simp only [PyData.depthAll, PyData.depth, ints_depth l]; rfl
theorem ints_shaped (l : List Int) : SeqAt.shaped (.tuple (l.map PyData.int)) = true := by
  unfold SeqAt.shaped
  rw [Bool.and_eq_true]
  refine ⟨by simpa only [PyData.canLay0] using ints_lay l, decide_eq_true ?_⟩
  simp only [PyData.depth, ints_depth]
  omega
abbrev rowI (l : List Int) : PyData := .tuple (l.map PyData.int)
theorem rows_lay : ∀ l : List (List Int), PyData.canLayAll0 (l.map rowI) = true
  | [] => by simp [PyData.canLayAll0]
  | i :: l => by rw [List.map_cons]; simp only [PyData.canLayAll0, PyData.canLay0, ints_lay i, rows_lay l, Bool.and_self]
theorem rows_depth : ∀ l : List (List Int), PyData.depthAll (l.map rowI) ≤ 1
  | [] => by simp [PyData.depthAll]
  | i :: l => by
    have := rows_depth l
    rw [List.map_cons]; simp only [PyData.depthAll, PyData.depth, ints_depth]; omega
theorem rows_shaped (l : List (List Int)) : SeqAt.shaped (.tuple (l.map rowI)) = true := by
  unfold SeqAt.shaped
  rw [Bool.and_eq_true]
  refine ⟨by simpa only [PyData.canLay0] using rows_lay l, decide_eq_true ?_⟩
  have := rows_depth l
  simp only [PyData.depth]
  omega
theorem rowsI_dp {K : PySem.W.Frag} {H : Hp} : ∀ {vs : List V} {l : List (List Int)}, AllV (IsInts H) vs l → DpAll K H vs (l.map rowI)
  | [], [], _ => .nil
  | _ :: _, i :: l, ⟨⟨a, h1, h2⟩, h⟩ => .cons (h1 ▸ .tup (SqT.of h2) (ints_dp i)) (rowsI_dp h)
  | [], _ :: _, h => h.elim
  | _ :: _, [], h => h.elim
theorem eqv_same {d : PyData} (h : SeqAt.shaped d = true) : PyData.eqv d d = true := SeqAt.eqv_refl d (SeqAt.canLay_of_shaped h)
theorem nodup_len : ∀ {ks l : List Str}, ks.Nodup → (∀ x ∈ ks, x ∈ l) → ks.length ≤ l.length
  | [], _, _, _ => Nat.zero_le _
  | x :: ks, l, hn, hs => by
    rw [List.nodup_cons] at hn
    have hx := hs x List.mem_cons_self
    have := nodup_len (ks := ks) (l := l.erase x) hn.2 fun y hy => (List.mem_erase_of_ne (fun e => hn.1 (by rw [← e]; exact hy))).mpr (hs y (List.mem_cons_of_mem _ hy))
    rw [List.length_erase_of_mem hx] at this
    have := List.length_pos_of_mem hx
    rw [List.length_cons]
    omega
def spRight (C Pt : Addr) : Sp := fun vs H Q _ => ∃ (pf pb pb' : Addr) (F : List FRow) (wd rk : Str → Nat) (cC : Str) (s : Nat) (bs bs' : Beats), vs = [.ref pf, .ref pb, .ref pb', .str cC, .int (s : Int)] ∧ Flat H pf F ∧ FlatOk F wd rk ∧ (∀ r ∈ F, strOk' r.path = true) ∧ BeatsT H pb bs ∧ BeatsT H pb' bs' ∧
  (∀ x ∈ bs, InsOk F x.2) ∧ (∀ x ∈ bs', InsOk F x.2) ∧ bs'.length = bs.length ∧ bs.length ≤ 100 ∧ s ≤ bs.length ∧ NonInt F wd cC s bs bs' ∧ LamX.TabS H Pt qlB ∧ ∀ H', LamX.TabS H' Pt qlB → Kp [Pt] H H' → Q (.bl true) H'
section
variable {P : Program} {w : World} {K : PySem.W.Frag} {mg : Str → Option Value} {base : Heap} {C Pt : Addr}
theorem cal_right (S : Std K mg "_law_right" s_right) (T : Frees mg) (cc : Cal P w K mg base "_law_clock_of" 4 P_clock_of spClock) (cs : Cal P w K mg base "_law_stays_till" 1 P_stays_till spStays) (cw : Cal P w K mg base "wave_of" 15 P_wave_of (spWave C Pt)) : Cal P w K mg base "_law_right" 16 P_right (spRight C Pt) := by
  obtain ⟨f, fd, F, m⟩ := S
  obtain ⟨fc, dc, G_clock_of, m_clock_of, k_clock_of, b_clock_of⟩ := cc
  obtain ⟨fs, ds, G_stays_till, m_stays_till, k_stays_till, b_stays_till⟩ := cs
  obtain ⟨fw, dw, G_wave_of, m_wave_of, k_wave_of, b_wave_of⟩ := cw
  refine ⟨f, fd, ?_, m, F.kp, F.bindsN fun _ _ _ _ _ _ us hl => match us, hl with | [_, _, _, _, _], _ => rfl⟩
  have sc := sc_right
  refine F.ok sc (fun vs H Q E h => by obtain ⟨_, _, _, _, _, _, _, _, _, _, rfl, _⟩ := h; rfl) fun cdv A outer s H vs Q E hr h => ⟨_, PSs.nox (pss_cons (ps_set (i := 5) sc.nd rfl (Or.inl rfl) (pe_call G_clock_of (hr.mono (by decide)) rfl m_clock_of k_clock_of b_clock_of .nil pass0 (pa_cons (pv 0) pa_nil)))
 (pss_cons (ps_for PassesOwn.never rfl (PI.toK (t' := iList K _) (pi_list (pe_callB (call_sortedD rfl) rfl T.sorted (by decide +kernel) (pa_cons (pv 5) pa_nil)))) (pg_name (i := 6) sc.nd rfl (Or.inl rfl))
 (pss_one (ps_if (pt_cmpR op_ne (pe_dget (hu_of hr) (pv 5) (pv 6) (fun _ _ => rfl)) (pv 3) (nomark _)) (pss_cons (ps_set (i := 7) sc.nd rfl (Or.inl rfl) (pe_ix (ixl K) (pe_lst (pa_cons pe_int (pa_cons pe_int pa_nil))) (pe_callTy call_int1 rfl T.int (by decide +kernel) (pa_cons (pe_cmpR op_eq (pe_slice sl_str (pv 6) (po_some (pe_un un_neg pe_int)) po_none) pe_str (nomark _)) pa_nil)) (fun _ _ => rfl)))
 (pss_cons (ps_set (i := 8) sc.nd rfl (Or.inl rfl) (pe_callB (cLen K) rfl T.len (by decide +kernel) (pa_cons (pv 1) pa_nil)))
 (C8.pss_cut (ps_if (pt_cmpR op_notN (pe_dget (hu_of hr) (pv 5) (pv 6) (fun _ _ => rfl)) pe_non (nomark _)) (pss_one (ps_set (i := 8) sc.nd rfl (Or.inl rfl) (pe_call G_stays_till (hr.mono (by decide)) rfl m_stays_till k_stays_till b_stays_till .nil pass0 (pa_cons (pv 1) (pa_cons (pv 4) (pa_cons (pe_dget (hu_of hr) (pv 5) (pv 6) (fun _ _ => rfl)) (pa_cons (pv 7) pa_nil))))))) pss_nil)
 (pss_one (ps_if (pt_cmpR (op_neD hr.units) (pe_slice sl_tk (pe_call G_wave_of (hr.mono (by decide)) rfl m_wave_of k_wave_of b_wave_of .nil pass0 (pa_cons (pv 0) (pa_cons (pv 1) (pa_cons (pv 6) pa_nil)))) po_none (po_some (pv 8))) (pe_slice sl_tk (pe_call G_wave_of (hr.mono (by decide)) rfl m_wave_of k_wave_of b_wave_of .nil pass0 (pa_cons (pv 0) (pa_cons (pv 2) (pa_cons (pv 6) pa_nil)))) po_none (po_some (pv 8))) (nomark _)) (pss_one (ps_ret pe_bl)) pss_nil))))) pss_nil)))
 (pss_one (ps_ret pe_bl)))), ?_⟩
  obtain ⟨pf, pb, pb', Fl, wd, rk, cC, st, bs, bs', rfl, hF, fo, hstr, hB, hB', hbi, hbi', hbl', hbl, hst, hNI, hT, hQ⟩ := h
  have hlen := fo.len
  have noPt : ∀ {q : Addr} {H' : Hp} {o : HO}, LamX.TabS H' Pt qlB → H' q = some o → (∀ ps, o ≠ .tbl ps) → q ∉ [Pt] := fun t e n z => by
    obtain ⟨ps, h⟩ := tab_tbl t
    rw [List.mem_singleton.mp z, h] at e
    exact n ps (Option.some.inj e).symm
  refine ⟨_, rfl, pf, Fl, wd, rk, rfl, hF, fo, hstr, fun pg kv ks H1 hpg ci cls k1 => ?_⟩
  have hT1 := tab_keep hT k1
  have hks : ks.length ≤ 40 := by
    have := nodup_len ci.nd ci.sub
    rw [List.length_map] at this
    omega
  refine ⟨_, rfl, pg, kv, ks, rfl, .inl hpg, ci.keys, by omega, fun ys p hys _ hp => ?_⟩
  have k2 : Kp [] H1 (upd H1 p (.lst (ys.map V.str))) := Kp.new hp
  have g2 : upd H1 p (.lst (ys.map V.str)) p = some (.lst (ys.map V.str)) := upd_same ..
  generalize upd H1 p (.lst (ys.map V.str)) = H2 at k2 g2
  have hpg2 := k2.at hpg (by simp)
  refine ⟨p, rfl, ⟨_, SqL.of g2⟩, ?_⟩
  refine for_list (xs := ys.map V.str) (fun i σ H' => ∃ (v6 v7 v8 : Option V), σ = [some (.ref pf), some (.ref pb), some (.ref pb'), some (.str cC), some (.int (st : Int)), some (.ref pg), v6, v7, v8] ∧ H' pg = some (.dK kv) ∧ LamX.TabS H' Pt qlB ∧ Kp [Pt] H H' ∧ H' p = some (.lst (ys.map V.str)))
    ⟨_, _, _, rfl, hpg2, tab_keep hT1 k2, (k1.trans k2).up, g2⟩ (fun i σ H' _ ⟨_, _, _, _, _, _, _, h⟩ => SqL.of h) ?_ ?_
  · rintro i v σ Ha hv ⟨v6, v7, v8, rfl, hga, hTa, ka, hpa⟩
    rw [List.getElem?_map] at hv
    obtain ⟨y, hy, rfl⟩ := Option.map_eq_some_iff.mp hv
    have hyk : y ∈ ks := hys.mem_iff.mp (List.mem_of_getElem? hy)
    have hyF := ci.sub y hyk
    have hyv := ci.val y hyk
    have dg : ∀ {H' : Hp}, H' pg = some (.dK kv) → DGet H' pg (.str y) (some (optV (clOf kv y))) := fun e => by
      rw [← hyv]
      exact DGet.k (k := Sum.inr y) e
    have hylen : y.length ≤ 1000 := by
      obtain ⟨r, hr, e⟩ := List.mem_map.mp hyF
      exact e ▸ fo.plen r hr
    have hsc : scal (optV (clOf kv y)) (.str cC) = true := by cases clOf kv y <;> rfl
    refine ⟨_, rfl, _, rfl, pg, _, rfl, dg hga, _, rfl, hsc, _, rfl, ?_⟩
    by_cases hsame : clOf kv y = some cC
    · rw [hsame, show (!decide (optV (some cC) = V.str cC)) = false from by simp [optV]]
      exact iteF ⟨_, _, _, rfl, hga, hTa, ka, hpa⟩
    have hdiff : (!decide (optV (clOf kv y) = V.str cC)) = true := by
      cases hcl : clOf kv y with
      | none => rfl
      | some D =>
        have : D ≠ cC := fun e => hsame (by rw [hcl, e])
        simp [optV, this]
    rw [hdiff]
    refine iteT ?_
    have hbla : BeatsT Ha pb bs := hB.keep ka
    -- many
    refine ⟨(by show 2 ≤ sizeLine; decide), fun l hl => ?_⟩
    have k3 : Kp [] Ha (upd Ha l (.lst [.int 2, .int 1])) := Kp.new hl
    have g3 : upd Ha l (.lst [.int 2, .int 1]) l = some (.lst [.int 2, .int 1]) := upd_same ..
    generalize upd Ha l (.lst [.int 2, .int 1]) = H3 at k3 g3
    have hT3 := tab_keep hTa k3
    have ka3 := ka.trans k3.up
    have hg3 := k3.at hga (by simp)
    have hp3 := k3.at hpa (by simp)
    obtain ⟨vb, hvb, avb⟩ := hB.keep ka3
    have hvl := avb.length
    obtain ⟨many, hmany, hmany1⟩ : ∃ many : Nat, many = (if lastOne y = true then 1 else 2) ∧ 1 ≤ many := ⟨_, rfl, by split <;> decide⟩
    have hsel : atI ([V.int 2, V.int 1] : List V) (if lastOne y = true then 1 else 0) = some (.int (many : Int)) := by
      rw [hmany]
      cases lastOne y <;> rfl
    refine ⟨_, rfl, 4, rfl, _, rfl, y, rfl, Nat.le_trans hylen (by decide), rfl, .inr ⟨_, rfl, l, _, _, .int (many : Int), rfl, rfl, SqL.of g3, hsel, ?_⟩⟩
    -- how many stay
    refine ⟨_, rfl, pb, _, rfl, .inr (SqT.of hvb), ?_⟩
    rw [hvl]
    refine ⟨fun σ' H' => ∃ (stay : Nat), σ' = [some (.ref pf), some (.ref pb), some (.ref pb'), some (.str cC), some (.int (st : Int)), some (.ref pg), some (.str y), some (.int (many : Int)), some (.int (stay : Int))] ∧ stay ≤ bs.length ∧ (∀ D, clOf kv y = some D → ∀ t < stay, cnt D bs st t < many) ∧ H' pg = some (.dK kv) ∧ LamX.TabS H' Pt qlB ∧ Kp [Pt] H H' ∧ H' p = some (.lst (ys.map V.str)), ?_, ?_⟩
    · refine ⟨_, rfl, _, rfl, pg, _, rfl, dg hg3, rfl, _, rfl, ?_⟩
      cases hcl : clOf kv y with
      | none => exact iteF ⟨bs.length, rfl, Nat.le_refl _, (fun D e => by cases e), hg3, hT3, ka3, hp3⟩
      | some D =>
        refine iteT ⟨_, rfl, _, rfl, _, rfl, _, rfl, pg, _, rfl, by have := dg hg3; rw [hcl] at this; exact this, _, rfl, pb, bs, D, st, many, rfl, ⟨vb, hvb, avb⟩, hbl, hst, hmany1, fun rr H4 hrl hrc k4 => ?_⟩
        exact ⟨rr, rfl, hrl, (fun D' e => by cases e; exact hrc), k4.at hg3 (by simp), tab_keep hT3 k4, ka3.trans k4.up, k4.at hp3 (by simp)⟩
    rintro σ4 H4 ⟨stay, rfl, hsl, hsc', hg4, hT4, ka4, hp4⟩
    -- the waves
    refine ⟨_, rfl, _, rfl, _, rfl, pf, pb, y, Fl, wd, rk, bs, rfl, hF.keep ka4, hB.keep ka4, fo, hbi, hbl, hT4, hyF, fun w1 H5 hw1 hT5 k5 => ⟨_, rfl, _, rfl, w1, _, stay, rfl, rfl, rfl, hw1, fun q1 H6 hq1 k6 => ?_⟩⟩
    have ka5 := ka4.trans k5
    have hT6 := tab_keep hT5 k6
    have ka6 := ka5.trans k6.up
    refine ⟨_, rfl, _, rfl, _, rfl, pf, pb', y, Fl, wd, rk, bs', rfl, hF.keep ka6, hB'.keep ka6, fo, hbi', by omega, hT6, hyF, fun w2 H7 hw2 hT7 k7 => ⟨_, rfl, _, rfl, w2, _, stay, rfl, rfl, rfl, hw2, fun q2 H8 hq2 k8 => ?_⟩⟩
    have ka7 := ka6.trans k7
    have hT8 := tab_keep hT7 k8
    have ka8 := ka7.trans k8.up
    have hq1' : H8 q1 = some (.tup ((((Vs Fl wd bs).map fun V => V y).map V.int).take stay)) := k8.tup (k7.tup hq1)
    have hsame2 : (((Vs Fl wd bs').map fun V => V y).take stay) = (((Vs Fl wd bs).map fun V => V y).take stay) := by
      refine List.ext_getElem? fun t => ?_
      rw [List.getElem?_take, List.getElem?_take]
      by_cases ht : t < stay
      · rw [if_pos ht, if_pos ht, List.getElem?_map, List.getElem?_map]
        have h1 : (Vs Fl wd bs)[t]? = some ((Vs Fl wd bs)[t]'(by rw [Vs_length]; omega)) := List.getElem?_eq_getElem _
        have h2 : (Vs Fl wd bs')[t]? = some ((Vs Fl wd bs')[t]'(by rw [Vs_length]; omega)) := List.getElem?_eq_getElem _
        rw [h1, h2]
        exact congrArg some (hNI (clOf kv) cls y hyF hsame t _ _ h1 h2 fun D hD => by rw [← hmany]; exact hsc' D hD t ht).symm
      · rw [if_neg ht, if_neg ht]
    rw [← List.map_take] at hq1' hq2
    rw [hsame2] at hq2
    generalize (((Vs Fl wd bs).map fun V => V y).take stay) = W at hq1' hq2
    refine ⟨rowI W, rowI W, .tup (SqT.of hq1') (ints_dp W), .tup (SqT.of hq2) (ints_dp W), ints_shaped W, ints_shaped W, _, rfl, ?_⟩
    rw [eqv_same (ints_shaped W)]
    refine iteF ⟨_, _, _, rfl, ?_, hT8, ka8, ?_⟩
    · exact k8.at (k7.at (k6.at (k5.at hg4 (noPt hT4 hg4 fun _ e => by cases e)) (by simp)) (noPt hT6 (k6.at (k5.at hg4 (noPt hT4 hg4 fun _ e => by cases e)) (by simp)) fun _ e => by cases e)) (by simp)
    · exact k8.at (k7.at (k6.at (k5.at hp4 (noPt hT4 hp4 fun _ e => by cases e)) (by simp)) (noPt hT6 (k6.at (k5.at hp4 (noPt hT4 hp4 fun _ e => by cases e)) (by simp)) fun _ e => by cases e)) (by simp)
  · rintro σ Ha ⟨v6, v7, v8, rfl, hga, hTa, ka, hpa⟩
    exact hQ Ha hTa ka
end
end WT

set_option Elab.async false
set_option linter.all false
set_option maxRecDepth 100000
set_option maxHeartbeats 8000000
/-! law. -/
namespace WT
open PySem PySem.Spec PyProof.Rows L2
abbrev s_law : Stmt := topS 39
abbrev N_law : List Str := ["_law_script", "_law_deck_here", "_law_turn", "_law_made", "_law_top", "_law_flat_here", "_law_ticks", "_law_row", "_law_rows", "_law_start", "_law_clock", "_law_other"]
abbrev P_law : List Str := ["_law_script"]
theorem sc_law : FnScope N_law P_law (defScope s_law) := ⟨rfl, rfl, rfl, by decide +kernel, rfl, by decide +kernel, by decide +kernel⟩
theorem clocksOf_len (l : List MRow) : (clocksOf l).length ≤ l.length := List.length_filterMap_le ..
theorem design_parts {md : Md} {top : Str} (h : DesignOk md top) : WfM md 3 top ∧ ∃ M : Mod, md.lookup top = some M.rows ∧ 1 ≤ M.a.ticks.length ∧ M.a.ticks.length ≤ 3 ∧ M.rows.length ≤ 19 ∧ (flatOf md top).length ≤ 40 := by
  obtain ⟨pre, M, hnd, hpl, hc, hM, hmd, htop, hlen⟩ := h
  exact ⟨chain_wf 2 hpl hc hmd (by omega) hM htop, M, htop, hM.t1, hM.t3, hM.rlen, hlen⟩
theorem tab_deck {H H' : Hp} {Pt d c : Addr} {n : Nat} (h : LamX.TabS H Pt qlB) (D : Deck H d c n) (k : Kp [d, c] H H') : LamX.TabS H' Pt qlB := by
  obtain ⟨cs, sd, a, h1, h2, _⟩ := D
  obtain ⟨ps, hp⟩ := tab_tbl h
  refine tabS_kp h k ?_ fun c' e hc => ?_
  · simp only [List.mem_cons, List.not_mem_nil, or_false, not_or]
    exact ⟨(fun z => by rw [z, h1] at hp; cases hp), (fun z => by rw [z, h2] at hp; cases hp)⟩
  · simp only [List.mem_cons, List.not_mem_nil, or_false] at hc
    rcases hc with z | z
    · rw [z, h1] at e; cases e
    · rw [z, h2] at e; cases e
theorem deck_tab {H H' : Hp} {Pt d c : Addr} {n : Nat} (D : Deck H d c n) (h : LamX.TabS H Pt qlB) (k : Kp [Pt] H H') : Deck H' d c n := by
  obtain ⟨ps, hp⟩ := tab_tbl h
  refine D.kept k ?_ ?_
  · obtain ⟨cs, sd, a, h1, h2, _⟩ := D
    intro z
    rw [List.mem_singleton.mp z, hp] at h1
    cases h1
  · obtain ⟨cs, sd, a, h1, h2, _⟩ := D
    intro z
    rw [List.mem_singleton.mp z, hp] at h2
    cases h2
def spLaw (K : PySem.W.Frag) (Pt : Addr) : Sp := fun vs H Q _ => ∃ (a : Addr) (ns : List Int), vs = [.ref a] ∧ SqL K H a (ns.map V.int) ∧ ns.length ≤ 63 ∧ (∀ z ∈ ns, z.natAbs < 2 ^ bits) ∧ LamX.TabS H Pt qlB ∧ ∀ H', Q (.bl true) H'
section
variable {P : Program} {w : World} {K : PySem.W.Frag} {mg : Str → Option Value} {base : Heap} {C Pt : Addr}
theorem cal_law {f : Addr} {fd : FuncData} (F : FnP K "law" s_law f fd) (m : mg "law" = some (.ref f)) (T : Frees mg) (cde : Cal P w K mg base "_law_deck" 1 P_deck (spDeckK K)) (cdraw : Cal P w K mg base "_law_draw" 1 P_draw spDraw) (cpick : Cal P w K mg base "_law_pick" 2 P_pick spPick)
    (cdes : CalD P w K mg base "_law_design" 9 P_design [.int 8] spDesign) (cfl : Cal P w K mg base "_law_flat" 7 P_flat spFlat) (cdb : Cal P w K mg base "_law_drawn_beats" 2 P_drawn_beats spDrawn) (cot : Cal P w K mg base "_law_otherwise" 2 P_otherwise spOther)
    (cri : Cal P w K mg base "_law_right" 16 P_right (spRight C Pt)) (cto : Cal P w K mg base "told" 15 P_told (spTold C Pt)) : FnOk P w K mg base CX0 17 f fd P_law (spLaw K Pt) := by
  obtain ⟨fde, dde, G_deck, m_deck, k_deck, b_deck⟩ := cde
  obtain ⟨fdraw, ddraw, G_draw, m_draw, k_draw, b_draw⟩ := cdraw
  obtain ⟨fpick, dpick, G_pick, m_pick, k_pick, b_pick⟩ := cpick
  obtain ⟨fdes, ddes, dsv, G_design, m_design, k_design, b_design, v_design⟩ := cdes
  obtain ⟨ffl, dfl, G_flat, m_flat, k_flat, b_flat⟩ := cfl
  obtain ⟨fdb, ddb, G_drawn_beats, m_drawn_beats, k_drawn_beats, b_drawn_beats⟩ := cdb
  obtain ⟨fot, dot, G_otherwise, m_otherwise, k_otherwise, b_otherwise⟩ := cot
  obtain ⟨fri, dri, G_right, m_right, k_right, b_right⟩ := cri
  obtain ⟨fto, dto, G_told, m_told, k_told, b_told⟩ := cto
  have sc := sc_law
  refine F.ok sc (fun vs H Q E h => by obtain ⟨_, _, rfl, _⟩ := h; rfl) fun cdv A outer s H vs Q E hr h => ⟨_, PSs.nox (pss_cons (ps_set (i := 1) sc.nd rfl (Or.inl rfl) (pe_call G_deck (hr.mono (by decide)) rfl m_deck k_deck b_deck .nil pass0 (pa_cons (pv 0) pa_nil)))
 (pss_cons (ps_for PassesOwn.never rfl (pi_range1 rfl T.range (pa_cons pe_int pa_nil)) (pg_name (i := 2) sc.nd rfl (Or.inl rfl))
 (pss_cons (ps_asg (pe_call G_design (hr.mono (by decide)) rfl m_design k_design b_design v_design pass0 (pa_cons (pv 1) pa_nil)) (PG.toK (t' := gTup K 2 _) (pg_tup rfl (pgs_cons (pg_name (i := 3) sc.nd rfl (Or.inl rfl)) (pgs_cons (pg_name (i := 4) sc.nd rfl (Or.inl rfl)) pgs_nil)))))
 (pss_cons (ps_set (i := 5) sc.nd rfl (Or.inl rfl) (pe_call G_flat (hr.mono (by decide)) rfl m_flat k_flat b_flat .nil pass0 (pa_cons (pv 3) (pa_cons (pv 4) pa_nil))))
 (pss_cons (ps_setLc (i := 6) (own := [("_law_row", 7)]) rfl sc.nd rfl rfl (sw_true rfl rfl rfl (by decide +kernel)) (PI.toK (t' := iList K _) (pi_list (pe_dget (hu_of hr) (pv 3) (pv 4) (fun _ _ => rfl)))) (blkOk_by (N := N_law) (sc := defScope s_law) (by decide +kernel)) (fun _ _ _ _ _ => (pg_name (i := 7) sc.nd rfl (Or.inl rfl))) (fun _ _ _ _ _ => pts_one (pt_cmpR op_eq (pe_ix (ixt K) (pv 7) pe_int (fun _ _ => rfl)) pe_str (nomark _))) (fun _ _ _ _ _ => (pe_ix (ixt K) (pv 7) pe_int (fun _ _ => rfl))))
 (pss_cons (ps_set (i := 8) sc.nd rfl (Or.inl rfl) (pe_call G_drawn_beats (hr.mono (by decide)) rfl m_drawn_beats k_drawn_beats b_drawn_beats .nil pass0 (pa_cons (pv 1) (pa_cons (pv 5) (pa_cons (pv 6) (pa_cons (pe_op op_add pe_int (pe_call G_draw (hr.mono (by decide)) rfl m_draw k_draw b_draw .nil pass0 (pa_cons (pv 1) (pa_cons pe_int pa_nil)))) pa_nil))))))
 (pss_cons (ps_par (i := 9) (j := 10) rfl sc.nd rfl rfl (by decide) rfl rfl (pa_cons (pe_call G_draw (hr.mono (by decide)) rfl m_draw k_draw b_draw .nil pass0 (pa_cons (pv 1) (pa_cons (pe_callB (cLen K) rfl T.len (by decide +kernel) (pa_cons (pv 8) pa_nil)) pa_nil))) (pa_cons (pe_call G_pick (hr.mono (by decide)) rfl m_pick k_pick b_pick .nil pass0 (pa_cons (pv 1) (pa_cons (pv 6) pa_nil))) pa_nil)) (by rfl))
 (pss_cons (ps_set (i := 11) sc.nd rfl (Or.inl rfl) (pe_call G_otherwise (hr.mono (by decide)) rfl m_otherwise k_otherwise b_otherwise .nil pass0 (pa_cons (pv 1) (pa_cons (pv 5) (pa_cons (pv 8) (pa_cons (pv 10) (pa_cons (pv 9) pa_nil)))))))
 (pss_one (ps_if (PW.pt (pw_or (pt_not (pt_val (pe_call G_right (hr.mono (by decide)) rfl m_right k_right b_right .nil pass0 (pa_cons (pv 5) (pa_cons (pv 8) (pa_cons (pv 11) (pa_cons (pv 10) (pa_cons (pv 9) pa_nil)))))))) (pw_or1 (pt_cmpR (op_neD hr.units) (pe_slice sl_tk (pe_call G_told (hr.mono (by decide)) rfl m_told k_told b_told .nil pass0 (pa_cons (pv 5) (pa_cons (pv 8) pa_nil))) po_none (po_some (pv 9))) (pe_slice sl_tk (pe_call G_told (hr.mono (by decide)) rfl m_told k_told b_told .nil pass0 (pa_cons (pv 5) (pa_cons (pv 11) pa_nil))) po_none (po_some (pv 9))) (nomark _))))) (pss_one (ps_ret pe_bl)) pss_nil)))))))))
 (pss_one (ps_ret pe_bl)))), ?_⟩
  obtain ⟨a, ns, rfl, ha, hl, hbits, hT, hQ⟩ := h
  refine ⟨_, rfl, a, ns, rfl, ha, hl, hbits, fun d c H1 D1 k1 => ?_⟩
  have hT1 := tab_keep hT k1
  refine ⟨2, rfl, by decide, by decide, ?_⟩
  refine for_range (n := 2) (fun i σ H' => ∃ (v2 v3 v4 v5 v6 v7 v8 v9 v10 v11 : Option V), σ = [some (.ref a), some (.ref d), v2, v3, v4, v5, v6, v7, v8, v9, v10, v11] ∧ Deck H' d c (4000 * (2 - i)) ∧ LamX.TabS H' Pt qlB) ⟨_, _, _, _, _, _, _, _, _, _, rfl, D1.less (by decide), hT1⟩ ?_ ?_
  · rintro i σ Ha hi ⟨v2, v3, v4, v5, v6, v7, v8, v9, v10, v11, rfl, Da, hTa⟩
    obtain ⟨n, hn, hn'⟩ : ∃ n, 4000 * (2 - i) = n + 4000 ∧ 4000 * (2 - (i + 1)) = n := ⟨4000 * (2 - (i + 1)), by omega, rfl⟩
    rw [hn] at Da
    rw [hn']
    refine ⟨_, rfl, d, c, n + 2078, rfl, Da, fun t pm top md H2 ht hmade _ hdes k2 D2 => ⟨t, _, rfl, SqT.of ht, rfl, _, _, rfl, _, _, rfl, rfl, ?_⟩⟩
    have hT2 := tab_deck hTa Da k2
    obtain ⟨wf, M, hlk, ht1, ht3, hrl, hfl⟩ := design_parts hdes
    obtain ⟨wd, rk, dc, wk, fo, hstr, hiw, ck⟩ := design_flat hdes
    refine ⟨_, rfl, _, rfl, pm, top, md, rfl, hmade, wf, fun pf us H3 hpf avf k3 => ?_⟩
    have hT3 := tab_keep hT2 k3
    have D3 := D2.keep k3
    have hF3 : Flat H3 pf (flatOf md top) := ⟨us, hpf, avf⟩
    generalize flatOf md top = Fl at hF3 fo hstr hiw ck hfl
    obtain ⟨kvs, hpm, hmd⟩ := hmade.keep k3
    obtain ⟨q, hqv, vr, hq, avr⟩ := hmd top M.rows hlk
    have hvl : vr.length ≤ 19 := by rw [avr.length]; exact hrl
    have dg : DGet H3 pm (.str top) (some (.ref q)) := by rw [← hqv]; exact DGet.k (k := Sum.inr top) hpm
    -- the clocks
    refine ⟨_, rfl, _, rfl, pm, .ref q, rfl, dg, q, rfl, ⟨_, SqL.of hq⟩, fun pt hpt => ?_⟩
    have npt := D3.ne hpt
    refine lc_list (xs := vr) (fun i H' => H' pt = some (.lst ((clocksOf (M.rows.take i)).map V.str)) ∧ Kp [] H3 H') ⟨upd_same .., Kp.new hpt⟩ (fun i H' _ h => SqL.of (h.2.at hq (by simp))) ?_ ?_
    · rintro j v H' hv ⟨h1, h2⟩
      obtain ⟨r, hr0, hrv⟩ := avr.get hv
      have hj : j < 19 := by
        have := (List.getElem?_eq_some_iff.mp hv).1
        omega
      obtain ⟨ta, rest, rfl, hta⟩ := row_head (hrv.keep h2)
      refine ⟨rfl, _, rfl, ta, _, _, .str r.word, rfl, rfl, SqT.of hta, atI_nat (j := 0) rfl, rfl, _, rfl, ?_⟩
      rw [take_snoc hr0, clocksOf_snoc]
      by_cases hw : r.word = "clock"
      · rw [show decide (V.str r.word = V.str "clock") = true from decide_eq_true (by rw [hw]), if_pos hw]
        refine iteT ⟨_, rfl, ta, _, _, .str r.nm, rfl, rfl, SqT.of hta, atI_nat (j := 1) rfl, _, h1, ?_, ?_, h2.fresh hpt⟩
        · rw [List.length_map]
          have := clocksOf_len (M.rows.take j)
          rw [List.length_take] at this
          exact Nat.lt_of_le_of_lt (show _ ≤ 19 by omega) (by decide)
        · rw [upd_same, List.map_append]; rfl
      · rw [show decide (V.str r.word = V.str "clock") = false from decide_eq_false (fun z => hw (V.str.inj z)), if_neg hw]
        exact iteF ⟨by simpa using h1, h2⟩
    rintro H4 ⟨hpt4, k4⟩
    rw [avr.length, List.take_length, Mod.clocks] at hpt4
    have hT4 := tab_keep hT3 k4
    have D4 := D3.keep k4
    have hF4 := hF3.keep k4
    generalize M.a.ticks = tk at hpt4 ht1 ht3
    -- the beats
    refine ⟨_, rfl, _, rfl, _, rfl, _, rfl, d, c, 13, n + 2077, rfl, D4, by decide, by decide, fun r H5 hr5 k5 D5 => ?_⟩
    have hT5 := tab_deck hT4 D4 k5
    have hpt5 := k5.at hpt4 (by simp [Ne.symm npt.1, Ne.symm npt.2])
    refine ⟨_, _, rfl, rfl, d, c, pf, pt, Fl, tk, 2 + r, n + 1300, rfl, D5.less (by omega), hF4.keep k5, hfl, hiw, ht3, by omega, hpt5, Ne.symm npt.2, fun pb bs H6 hbt hbl hbi k6 D6 => ?_⟩
    have hT6 := tab_deck hT5 D5 k6
    have hF6 := (hF4.keep k5).keep k6
    have hpt6 := k6.at hpt5 (by simp [Ne.symm npt.1, Ne.symm npt.2])
    have hbl' : bs.length ≤ 100 := by omega
    obtain ⟨vb, hvb, avb⟩ := id hbt
    have hvbl : vb.length = bs.length := avb.length
    -- start, clock
    refine ⟨_, rfl, _, rfl, pb, _, rfl, .inr (SqT.of hvb), d, c, bs.length, n + 1299, (by rw [hvbl]; rfl), D6, by omega, by omega, fun st H7 hst k7 D7 => ?_⟩
    have hT7 := tab_deck hT6 D6 k7
    have hpt7 := k7.at hpt6 (by simp [Ne.symm npt.1, Ne.symm npt.2])
    refine ⟨_, rfl, _, rfl, d, c, pt, n + 1298, tk.map V.str, rfl, D7, hpt7, Ne.symm npt.2, (fun e => by have h0 : tk = [] := List.map_eq_nil_iff.mp e; rw [h0] at ht1; simp at ht1), (by rw [List.length_map]; omega), fun ix x H8 hx k8 D8 => ?_⟩
    have hT8 := tab_deck hT7 D7 k8
    obtain ⟨cC, _, rfl⟩ : ∃ cC, tk[ix]? = some cC ∧ x = .str cC := by
      rw [List.getElem?_map] at hx
      obtain ⟨y, h1, h2⟩ := Option.map_eq_some_iff.mp hx
      exact ⟨y, h1, h2.symm⟩
    have hF8 := (hF6.keep k7).keep k8
    have hbt8 := (hbt.keep k7).keep k8
    -- otherwise
    refine ⟨_, _, rfl, _, rfl, _, rfl, _, rfl, _, rfl, _, rfl, d, c, pf, pb, Fl, cC, st, n + 100, bs, rfl, D8.less (by omega), hF8, hfl, hiw, hbt8, hbl', hbi, by omega, fun po bs' H9 hbt' hoth k9 D9 => ?_⟩
    have hT9 := tab_deck hT8 D8 k9
    have hF9 := hF8.keep k9
    have hbt9 := hbt8.keep k9
    have hbi' := hoth.ins' hbi
    -- right
    refine ⟨_, rfl, _, rfl, _, rfl, _, rfl, _, rfl, pf, pb, po, Fl, wd, rk, cC, st, bs, bs', rfl, hF9, fo, hstr, hbt9, hbt', hbi, hbi', hoth.len, hbl', by omega, nonint fo ck hoth hbi, hT9, fun H10 hT10 k10 => ?_⟩
    have D10 := deck_tab D9 hT9 k10
    have hF10 := hF9.keep k10
    have hb10 := hbt9.keep k10
    have hb10' := hbt'.keep k10
    refine ⟨_, rfl, iteF ?_⟩
    -- told
    refine ⟨_, rfl, _, rfl, pf, pb, Fl, wd, rk, bs, rfl, hF10, hb10, fo, hbi, hbl', hT10, fun p1 us1 H11 hp1 av1 hT11 k11 => ⟨_, rfl, _, rfl, p1, _, st, rfl, rfl, rfl, hp1, fun q1 H12 hq1 k12 => ?_⟩⟩
    have hT12 := tab_keep hT11 k12
    have k1012 := k11.trans k12.up
    refine ⟨_, rfl, _, rfl, pf, po, Fl, wd, rk, bs', rfl, hF10.keep k1012, hb10'.keep k1012, fo, hbi', by rw [hoth.len]; exact hbl', hT12, fun p2 us2 H13 hp2 av2 hT13 k13 => ⟨_, rfl, _, rfl, p2, _, st, rfl, rfl, rfl, hp2, fun q2 H14 hq2 k14 => ?_⟩⟩
    have hT14 := tab_keep hT13 k14
    have k1014 := (k1012.trans k13).trans k14.up
    have D14 := deck_tab D10 hT10 k1014
    have hq1' := k14.tup (k13.tup hq1)
    have a1 : AllV (IsInts H14) (us1.take st) (((Vs Fl wd bs).take st).map fun V => (outsP Fl).map V) := by
      rw [List.map_take]
      exact (((av1.take st).imp fun _ _ z => z.keep k12).imp fun _ _ z => z.keep k13).imp fun _ _ z => z.keep k14
    have a2 : AllV (IsInts H14) (us2.take st) (((Vs Fl wd bs).take st).map fun V => (outsP Fl).map V) := by
      rw [← before_eq (wd := wd) hoth, List.map_take]
      exact (av2.take st).imp fun _ _ z => z.keep k14
    generalize (((Vs Fl wd bs).take st).map fun V => (outsP Fl).map V) = W at a1 a2
    refine ⟨.tuple (W.map rowI), .tuple (W.map rowI), .tup (SqT.of hq1') (rowsI_dp a1), .tup (SqT.of hq2) (rowsI_dp a2), rows_shaped W, rows_shaped W, _, rfl, ?_⟩
    rw [eqv_same (rows_shaped W)]
    exact iteF ⟨_, _, _, _, _, _, _, _, _, _, rfl, D14.less (by omega), hT14⟩
  · rintro σ Ha ⟨v2, v3, v4, v5, v6, v7, v8, v9, v10, v11, rfl, Da, hTa⟩
    exact hQ Ha
end
end WT

set_option Elab.async false
set_option linter.all false
set_option maxRecDepth 100000
set_option maxHeartbeats 0
/-! The head: the facts by names, the run, the end. -/
namespace WT
open PySem PySem.Spec PyProof.Rows L2
/-- a def of the module -/
abbrev dfn (x : Str) (st : Stmt) (dv : List He.Dv) : He.DefD := ⟨(x, none), x, x, defArgs st, defBody st, defScope st, dv, []⟩
/-- a method of Beat -/
abbrev dme (m q : Str) (st : Stmt) : He.DefD := ⟨("Beat", some m), m, q, defArgs st, defBody st, defScope st, [], []⟩
def hfn : List He.DefD := [dfn "paths_in" s_paths_in [], dfn "width_of" s_width_of [], dfn "two_told" s_two_told [], dfn "worth_of" s_worth_of [], dfn "paths_of" s_paths_of [], dfn "first_standing" s_first_standing [], dfn "taken" s_taken [], dfn "beats_gone" s_beats_gone [], dfn "told" s_told [], dfn "wave_of" s_wave_of [], dfn "_law_deck" s_deck [], dfn "_law_draw" s_draw [], dfn "_law_pick" s_pick [], dfn "_law_names" s_names [], dfn "_law_lone" s_lone [], dfn "_law_exp" s_exp [], dfn "_law_ins" s_ins [], dfn "_law_boxes" s_boxes [], dfn "_law_wires" s_wires [], dfn "_law_module" s_module [], dfn "_law_design" s_design [.int 8], dfn "_law_in_path" s_in_path [], dfn "_law_flat_rows" s_flat_rows [], dfn "_law_flat" s_flat [], dfn "_law_names_in" s_names_in [], dfn "_law_drawn_beats" s_drawn_beats [], dfn "_law_clock_of" s_clock_of [], dfn "_law_otherwise" s_otherwise [], dfn "_law_stays_till" s_stays_till [], dfn "_law_right" s_right [], dfn "law" s_law [], dme "__init__" "Beat.__init__" s_beat___init__, dme "value" "Beat.value" s_beat_value, dme "worth" "Beat.worth" s_beat_worth]
def hfa : List He.Fa := [.glo "paths_in", .glo "width_of", .glo "two_told", .glo "worth_of", .glo "paths_of", .glo "first_standing", .glo "taken", .glo "beats_gone", .glo "told", .glo "wave_of", .glo "_law_deck", .glo "_law_draw", .glo "_law_pick", .glo "_law_names", .glo "_law_lone", .glo "_law_exp", .glo "_law_ins", .glo "_law_boxes", .glo "_law_wires", .glo "_law_module", .glo "_law_design", .glo "_law_in_path", .glo "_law_flat_rows", .glo "_law_flat", .glo "_law_names_in", .glo "_law_drawn_beats", .glo "_law_clock_of", .glo "_law_otherwise", .glo "_law_stays_till", .glo "_law_right", .glo "law", .glo "Beat", .cls "Beat", .noat "Beat" "widths", .noat "Beat" "rules", .noat "Beat" "known", .meth "Beat" "__init__", .meth "Beat" "value", .meth "Beat" "worth", .mkr "Beat", .free "zip", .free "list", .free "dict", .free "len", .free "range", .free "tuple", .free "isinstance", .free "str", .free "int", .free "max", .free "sum", .free "enumerate", .free "sorted"]
def htf : List He.Defn := [("Beat", some "worth")]
abbrev hR : PySem.W.OpenRow := PySem.W.OpenLaw.row PySem.Challenge.rw_wiretongue_k71_whole_another_in_of_one_c
abbrev hhk : PySem.W.Hook := He.hookX 5 hfa hfn [] htf (fun _ => true)
def hob (s : PySem.W.SharedT) : He.AlX := He.obsX 5 hfa hfn [] htf (fun _ => true) (HandSHeadRun.getT s)
theorem hob_eq (s : PySem.W.SharedT) : hob s = hhk.obs s.abs := He.obsX_eq (HandSHeadRun.getT_eq s)
def hloose0 : List PySem.Str := ["NoPath", "paths_in", "width_of", "two_told", "worth_of", "Beat", "paths_of", "first_standing", "taken", "beats_gone", "told", "wave_of"]
def hloose1 : List PySem.Str := ["_law_deck", "_law_draw", "_law_pick", "_law_names", "_law_lone", "_law_exp", "_law_ins", "_law_boxes", "_law_wires", "_law_module", "_law_design", "_law_words"]
def hloose2 : List PySem.Str := ["_law_in_path", "_law_flat_rows", "_law_flat", "_law_wide", "_law_worth", "_law_names_in", "_law_drawn_beats", "_law_clock_of", "_law_otherwise", "_law_stays_till", "_law_right"]
def hloose : List PySem.Str := hloose0 ++ hloose1 ++ hloose2
theorem hrun (w : World) : HandSHeadRun.RunEq hR (PySem.W.view hR.prog [39]) hhk hob 4000 hloose w := by
  intro os
  kernel_rfl
section
variable {K : PySem.W.Frag} {h : Heap} {mg : Str → Option Value}
theorem std_at (X : K.In h) (G : h.Ns mainGlobals mg) (c : He.SaysD hfa hfn K) {x : Str} {st : Stmt} (i j : Nat) (h1 : hfn[i]? = some (dfn x st []) := by rfl) (h2 : hfa[j]? = some (.glo x) := by rfl) : Std K mg x st := by
  obtain ⟨fd, F⟩ := c.def_ i (d := dfn x st []) h1
  exact ⟨He.ga K x, fd, F, He.glo_ok X G (c.fact j (f := .glo x) h2)⟩
theorem meth_at (c : He.SaysD hfa hfn K) {m q : Str} {st : Stmt} (i j : Nat) (h1 : hfn[i]? = some (dme m q st) := by rfl) (h2 : hfa[j]? = some (.meth "Beat" m) := by rfl) : StdM K (He.ga K "Beat") m q st := by
  obtain ⟨fd, F⟩ := c.def_ i (d := dme m q st) h1
  exact ⟨_, fd, F, He.meth_ok (c.fact j (f := .meth "Beat" m) h2)⟩

theorem hfacts {P : Program} {w : World} {base : Heap} {f : Addr} {fd : FuncData} (X : K.In h) (G : h.Ns mainGlobals mg) (c : He.SaysD hfa hfn K) (F : FnP K "law" s_law f fd) (m : mg "law" = some (.ref f)) (TB : LamX.TabB base mg (He.cT K ("Beat", some "worth")).1 (He.cT K ("Beat", some "worth")).2) :
    FnOk P w K mg base CX0 17 f fd P_law (spLaw K (He.cT K ("Beat", some "worth")).2) := by
  have S_paths_in : Std K mg "paths_in" s_paths_in := std_at X G c 0 0
  have S_width_of : Std K mg "width_of" s_width_of := std_at X G c 1 1
  have S_two_told : Std K mg "two_told" s_two_told := std_at X G c 2 2
  have S_worth_of : Std K mg "worth_of" s_worth_of := std_at X G c 3 3
  have S_paths_of : Std K mg "paths_of" s_paths_of := std_at X G c 4 4
  have S_first_standing : Std K mg "first_standing" s_first_standing := std_at X G c 5 5
  have S_taken : Std K mg "taken" s_taken := std_at X G c 6 6
  have S_beats_gone : Std K mg "beats_gone" s_beats_gone := std_at X G c 7 7
  have S_told : Std K mg "told" s_told := std_at X G c 8 8
  have S_wave_of : Std K mg "wave_of" s_wave_of := std_at X G c 9 9
  have S_deck : Std K mg "_law_deck" s_deck := std_at X G c 10 10
  have S_draw : Std K mg "_law_draw" s_draw := std_at X G c 11 11
  have S_pick : Std K mg "_law_pick" s_pick := std_at X G c 12 12
  have S_names : Std K mg "_law_names" s_names := std_at X G c 13 13
  have S_lone : Std K mg "_law_lone" s_lone := std_at X G c 14 14
  have S_exp : Std K mg "_law_exp" s_exp := std_at X G c 15 15
  have S_ins : Std K mg "_law_ins" s_ins := std_at X G c 16 16
  have S_boxes : Std K mg "_law_boxes" s_boxes := std_at X G c 17 17
  have S_wires : Std K mg "_law_wires" s_wires := std_at X G c 18 18
  have S_module : Std K mg "_law_module" s_module := std_at X G c 19 19
  have S_in_path : Std K mg "_law_in_path" s_in_path := std_at X G c 21 21
  have S_flat_rows : Std K mg "_law_flat_rows" s_flat_rows := std_at X G c 22 22
  have S_flat : Std K mg "_law_flat" s_flat := std_at X G c 23 23
  have S_names_in : Std K mg "_law_names_in" s_names_in := std_at X G c 24 24
  have S_drawn_beats : Std K mg "_law_drawn_beats" s_drawn_beats := std_at X G c 25 25
  have S_clock_of : Std K mg "_law_clock_of" s_clock_of := std_at X G c 26 26
  have S_otherwise : Std K mg "_law_otherwise" s_otherwise := std_at X G c 27 27
  have S_stays_till : Std K mg "_law_stays_till" s_stays_till := std_at X G c 28 28
  have S_right : Std K mg "_law_right" s_right := std_at X G c 29 29
  have S_design : StdD K mg "_law_design" s_design [.int 8] := by
    obtain ⟨fd, F⟩ := c.def_ 20 (d := dfn "_law_design" s_design [.int 8]) rfl
    exact ⟨He.ga K "_law_design", fd, F, He.glo_ok X G (c.fact 20 (f := .glo "_law_design") rfl)⟩
  have m_Beat : mg "Beat" = some (.ref (He.ga K "Beat")) := He.glo_ok X G (c.fact 31 (f := .glo "Beat") rfl)
  have cBeat : Cls K (He.ga K "Beat") := He.cls_ok (c.fact 32 (f := .cls "Beat") rfl)
  have n_widths : NoAttr K (He.ga K "Beat") "widths" := He.noat_ok (c.fact 33 (f := .noat "Beat" "widths") rfl)
  have n_rules : NoAttr K (He.ga K "Beat") "rules" := He.noat_ok (c.fact 34 (f := .noat "Beat" "rules") rfl)
  have n_known : NoAttr K (He.ga K "Beat") "known" := He.noat_ok (c.fact 35 (f := .noat "Beat" "known") rfl)
  have M___init__ : StdM K (He.ga K "Beat") "__init__" "Beat.__init__" s_beat___init__ := meth_at c 31 36
  have M_value : StdM K (He.ga K "Beat") "value" "Beat.value" s_beat_value := meth_at c 32 37
  have M_worth : StdM K (He.ga K "Beat") "worth" "Beat.worth" s_beat_worth := meth_at c 33 38
  have mk : Mk K (He.ga K "Beat") (He.ma K (He.ga K "Beat") "__init__") := He.mkr_ok (c.fact 39 (f := .mkr "Beat") rfl)
  have mkB : ∀ f, Meth K (He.ga K "Beat") "__init__" f → Mk K (He.ga K "Beat") f := fun f hf => by
    have e := hf.at_.symm.trans mk.init
    have e2 : f = He.ma K (He.ga K "Beat") "__init__" := by simpa using e
    rw [e2]
    exact mk
  have MC : StdMC K (He.ga K "Beat") (He.cT K ("Beat", some "worth")).1 "worth" "Beat.worth" s_beat_worth := by
    obtain ⟨fd, F⟩ := c.def_ 33 (d := dme "worth" "Beat.worth" s_beat_worth) rfl
    refine ⟨_, fd, F, He.meth_ok (c.fact 38 (f := .meth "Beat" "worth") rfl), ?_⟩
    obtain ⟨oc, od, dV, kV, doc, pm, an, cdv, ct, osl, rfl, lk, hcd, _, _⟩ := F.ex
    obtain ⟨cc, rfl⟩ := He.codeIn_ref hcd
    exact congrArg Value.ref (He.codeOf_eq lk rfl).symm
  have T : Frees mg := ⟨He.free_ok X G (c.fact 40 (f := .free "zip") rfl), He.free_ok X G (c.fact 41 (f := .free "list") rfl), He.free_ok X G (c.fact 42 (f := .free "dict") rfl), He.free_ok X G (c.fact 43 (f := .free "len") rfl), He.free_ok X G (c.fact 44 (f := .free "range") rfl), He.free_ok X G (c.fact 45 (f := .free "tuple") rfl), He.free_ok X G (c.fact 46 (f := .free "isinstance") rfl), He.free_ok X G (c.fact 47 (f := .free "str") rfl), He.free_ok X G (c.fact 48 (f := .free "int") rfl), He.free_ok X G (c.fact 49 (f := .free "max") rfl), He.free_ok X G (c.fact 50 (f := .free "sum") rfl), He.free_ok X G (c.fact 51 (f := .free "enumerate") rfl), He.free_ok X G (c.fact 52 (f := .free "sorted") rfl)⟩
  have cdraw : Cal P w K mg base "_law_draw" 1 P_draw spDraw := cal_draw S_draw T
  have cpick : Cal P w K mg base "_law_pick" 2 P_pick spPick := cal_pick S_pick T cdraw
  have cnames : Cal P w K mg base "_law_names" 2 P_names spNames := cal_names S_names T cdraw
  have clone : Cal P w K mg base "_law_lone" 3 P_lone spLone := cal_lone S_lone T cdraw cpick
  have cexp : ∀ j, Cal P w K mg base "_law_exp" (3 + j) P_exp (spExp j) := cal_exp S_exp T cdraw clone
  have cins : Cal P w K mg base "_law_ins" 3 P_ins spIns := cal_ins S_ins T cdraw cpick
  have cboxes : Cal P w K mg base "_law_boxes" 3 P_boxes spBoxes := cal_boxes S_boxes T cdraw cpick
  have cwires : Cal P w K mg base "_law_wires" 7 P_wires spWires := cal_wires S_wires T cdraw cpick cexp
  have cmod : Cal P w K mg base "_law_module" 8 P_module spModule := cal_module S_module T cdraw cpick (cexp 3) cnames cins cboxes cwires
  have cinp : Cal P w K mg base "_law_in_path" 3 P_in_path (spInPath 3) := cal_in_path S_in_path T 3
  have cfr : Cal P w K mg base "_law_flat_rows" 6 P_flat_rows (spFlatRows 3) := cal_flat_rows S_flat_rows T cinp 3
  have cflat : Cal P w K mg base "_law_flat" 7 P_flat spFlat := cal_flat S_flat T cfr
  have cdes : CalD P w K mg base "_law_design" 9 P_design [.int 8] spDesign := cal_design S_design T cdraw cmod cflat
  have cwid : ∀ j, Cal P w K mg base "width_of" j P_width_of (spWidth j) := cal_width S_width_of T
  have ctwo : Cal P w K mg base "two_told" 1 P_two_told spTwo := cal_two S_two_told T
  have cvalK : CalM P w K mg base (He.ga K "Beat") "value" 1 P_beat_value (spValK (He.ga K "Beat")) := cal_valK M_value M_worth S_paths_in T cBeat n_known n_rules
  have cw6 : CalM P w K mg base (He.ga K "Beat") "worth" 6 P_beat_worth (spBW (He.ga K "Beat") (He.cT K ("Beat", some "worth")).2 (spValK (He.ga K "Beat"))) := cal_bworth MC TB cvalK S_worth_of T cwid ctwo cBeat n_widths
  have cpi : Cal P w K mg base "paths_in" 3 P_paths_in (spNamesIn 3) := cal_paths_in S_paths_in T 3
  have cval : CalM P w K mg base (He.ga K "Beat") "value" 7 P_beat_value (spVal (He.ga K "Beat") (He.cT K ("Beat", some "worth")).2) := cal_val M_value T cw6 cpi cBeat n_known n_rules
  have cw12 := cal_bworthF MC TB cval S_worth_of T cwid ctwo cBeat n_widths
  have cpo : Cal P w K mg base "paths_of" 1 P_paths_of spPathsOf := cal_paths_of S_paths_of T
  have cfs : Cal P w K mg base "first_standing" 1 P_first_standing spFirst := cal_first S_first_standing T
  have cini : CalM P w K mg base (He.ga K "Beat") "__init__" 2 P_beat___init__ (spInit (He.ga K "Beat") (He.cT K ("Beat", some "worth")).2) := cal_init M___init__ T cpo cBeat n_widths n_rules n_known
  have ctak := cal_taken S_taken T cw12 cBeat
  have cgon := cal_gone S_beats_gone T cfs ctak cini mkB m_Beat
  have cwav := cal_wave S_wave_of T cgon cval cBeat
  have ctol := cal_told S_told T cpo cgon cval cBeat
  have cclk := cal_clock (P := P) (w := w) (base := base) S_clock_of T (cal_names_in S_names_in T 3)
  have csta := cal_stays (P := P) (w := w) (base := base) S_stays_till T
  have crig := cal_right S_right T cclk csta cwav
  exact cal_law F m T (cal_deck S_deck T) cdraw cpick cdes cflat (cal_drawn S_drawn_beats T cdraw) (cal_other S_otherwise T cdraw) crig ctol
end
theorem bits_ok {z : Int} (h : Builtin.Int.intBits z ≤ 1048576) : z.natAbs < 2 ^ bits := by
  have hb : 1048577 = bits := bits_eq.symm
  unfold Builtin.Int.intBits at h
  by_cases hz : z = 0
  · rw [hz]
    exact Nat.pow_pos (by decide)
  · rw [if_neg (by simpa using hz)] at h
    exact Nat.lt_of_lt_of_le Nat.lt_log2_self (Nat.pow_le_pow_right (by decide) (by omega))
end WT

set_option Elab.async false
set_option linter.all false
set_option maxRecDepth 100000
set_option maxHeartbeats 0
/-! The end. -/
namespace WT
open PySem PySem.Spec PyProof.Rows L2
abbrev hL : PySem.W.OpenLaw := PySem.Challenge.rw_wiretongue_k71_whole_another_in_of_one_c
theorem law_at {w : World} {K : PySem.W.Frag} {h : Heap} {mg : Str → Option Value} {fa : Addr} (X : K.In h) (G : h.Ns mainGlobals mg) (hfa' : mg ("law" : Str) = some (.ref fa)) (c : He.SaysX hfa hfn [] htf (fun _ => true) w h K) : LamX.LawAtS hL w K L2.CX0 17 63 "_law_script" mg fa h := by
  obtain ⟨fd, F⟩ := c.t.d.def_ 30 (d := dfn "law" s_law []) rfl
  have e := hfa'.symm.trans (He.glo_ok X G (c.t.d.fact 30 (f := .glo "law") rfl))
  cases e
  have b := FunD.bindsA (ps := ["_law_script"]) F fun _ _ _ _ _ _ us hl => match us, hl with | [_], _ => rfl
  refine ⟨fd, [He.cT K ("Beat", some "worth")], spLaw K (He.cT K ("Beat", some "worth")).2, fun p hp => ?_, fun p hp => ?_, fun p hp => ?_, fun s v => b s [v] rfl, fun H a ns hl hb hT hS => ?_, fun base KB GB hTB => ?_⟩
  · rw [List.mem_singleton.mp hp]
    exact c.empty ("Beat", some "worth") List.mem_cons_self
  · rw [List.mem_singleton.mp hp]
    exact c.out ("Beat", some "worth") List.mem_cons_self
  · rw [List.mem_singleton.mp hp]
    exact PySem.W.codeHd_of_K X (c.hd ("Beat", some "worth") List.mem_cons_self)
  · exact ⟨a, ns, rfl, hS, hl, fun z hz => bits_ok (hb z hz), LamX.TabS.nil (hT _ List.mem_cons_self), fun _ => rfl⟩
  · exact hfacts KB GB c.t.d F (He.glo_ok X G (c.t.d.fact 30 (f := .glo "law") rfl)) (hTB _ List.mem_cons_self)
end WT
open PySem PySem.W PySem.Calls PyProof.Rows
theorem PySem.Challenge.cw_wiretongue_k71_whole_another_in_of_one_c_holds : PySem.Challenge.rw_wiretongue_k71_whole_another_in_of_one_c.Holds := by
  w_on; o_law
  refine HandSHeadRun.head_any (r := OpenLaw.row PySem.Challenge.rw_wiretongue_k71_whole_another_in_of_one_c) (q := view (OpenLaw.row PySem.Challenge.rw_wiretongue_k71_whole_another_in_of_one_c).prog [39]) (H := WT.hhk) (ob := WT.hob) (M := 4000) (loose := WT.hloose) (d := HandSHeadRun.topDef (OpenLaw.row PySem.Challenge.rw_wiretongue_k71_whole_another_in_of_one_c).prog 39) (kwd := []) WT.hob_eq
    (by kernel_rfl) (fun s => by kernel_rfl) WT.hrun (by kernel_rfl) (by kernel_rfl) (by kernel_rfl) (by rfl) (by first | assumption | decide +kernel) (by decide +kernel) ⟨rfl, rfl, rfl, rfl, rfl, by decide +kernel⟩ ?hw ?hc
  case hw => w_witness2
  case hc =>
    refine LamX.walk_ofTsE (l := PySem.Challenge.rw_wiretongue_k71_whole_another_in_of_one_c) (n := 63) (k := 17) (x := "_law_script") (CX := fun _ => L2.CX0) rfl (by decide) (by kernel_rfl) ⟨rfl, by decide, by decide⟩ ?F (fun _ _ _ _ _ z => z)
    intro w mg fa h Y G hmg0
    obtain ⟨K, KX, c⟩ := Y
    have hmg : mg ("law" : PySem.Str) = some (.ref fa) := by
      have e : (HandSHeadRun.topDef (OpenLaw.row PySem.Challenge.rw_wiretongue_k71_whole_another_in_of_one_c).prog 39).name = ("law" : PySem.Str) := by kernel_rfl
      rw [← e]
      exact hmg0
    exact ⟨K, KX, WT.law_at KX G hmg c⟩

