import PyProof.Rows.All
import Wide.All
import OpenK.AllK
import Wide.FinOn
import KE.GoesEnum
import HandS.ForMost
import HandS.Flow
import HandS.Wide
import HandS.IsInst
import HandS.Zip
import HandS.Defaults
import HandS.Head0
import HandS.Head1
import HandS.Head2
import HandS.HeadEnd
import HandS.HeadHook1
import HandS.HeadHook2
import KE.KStateDown
import Lean
import PySem.Challenge.RW_ringsums_k13_rows_cut_in_pieces
set_option Elab.async false
set_option linter.all false
set_option maxRecDepth 100000
set_option maxHeartbeats 4000000
/-! enumerate over a tuple -/
namespace RS
open PySem PySem.Spec PyProof.Rows L2
theorem meets_enum_new1 {v : Value} {o : Obj} {H : Heap → Prop} (B : Begins v o H) :
    Meets (Builtin.«enumerate.__new__» ⟨[.type "enumerate", v], []⟩) (fun _ R s => H s.heap ∧
      R (.ok (.ret (.ref (s.heap.push o).objs.size))) { s with heap := (s.heap.push o).push { cls := .type "enumerate", data := .fields #[.none, .bool false, .ref s.heap.objs.size, rawInt 0, .none, .none] } }) :=
  .of_wp fun prog w A R s h => by
    obtain ⟨hp, g, d, tk, os⟩ := s; obtain ⟨h1, h⟩ := h
    have hsub := sub_enumerate
    have q1 : ∀ {A' : Around} {E : Value → Shared → Prop} {Q : Value → Shared → Prop}, Q (.ref hp.objs.size) ⟨hp.push o, g, d, tk, os⟩ → wpAny (model prog w) A' (pyIter v) Q E ⟨hp, g, d, tk, os⟩ :=
      fun q => B.iter prog w _ _ ⟨hp, g, d, tk, os⟩ _ h1 q
    wp_walk using q1
    refine wpAny_stack_any fun st => wpAny_pure ?_
    split
    · rename_i c _ _ _ _ _
      cases (c == Value.type "enumerate")
      · wp_walk using q1
        exact ⟨_, rfl, h⟩
      · wp_walk using q1
        exact ⟨_, rfl, h⟩
    · wp_walk using q1
      exact ⟨_, rfl, h⟩
theorem enum_begins1 {prog : Program} {w : World} {A : Around} {E : Value → Shared → Prop} {s : Shared} {v : Value} {o : Obj} {H : Heap → Prop} {Q : Value → Shared → Prop} (B : Begins v o H) (h1 : H s.heap)
    (h : ∀ h', IsEnum h' (s.heap.objs.size + 1) s.heap.objs.size 0 .none → h'.get? s.heap.objs.size = some o → h'.objs.size = s.heap.objs.size + 2 →
      (∀ b o, s.heap.get? b = some o → h'.get? b = some o) → Q (.ref (s.heap.objs.size + 1)) { s with heap := h' }) :
    wpAny (model prog w) A (call (.type "enumerate") [v]) Q E s := by
  refine callType_new F.called_enumerate (by decide) (F.typeCall_enumerate_1 _) (F.newCall_enumerate_1 _) (fun obj => F.args_object_init_2 obj _) F.entry_enumerate_new
    (meets_enum_new1 B) ⟨h1, ?_⟩
  have hz : (s.heap.push o).objs.size = s.heap.objs.size + 1 := Heap.size_push ..
  show _ ∧ _
  rw [hz]
  have he : IsEnum ((s.heap.push o).push { cls := .type "enumerate", data := .fields #[.none, .bool false, .ref s.heap.objs.size, rawInt 0, .none, .none] }) (s.heap.objs.size + 1) s.heap.objs.size 0 .none := by
    have := Heap.get?_push_size (s.heap.push o) (o := { cls := .type "enumerate", data := .fields #[.none, .bool false, .ref s.heap.objs.size, rawInt 0, .none, .none] }) rfl
    rw [hz] at this; exact this
  refine ⟨⟨_, he, rfl⟩, h _ he (Heap.get?_push_of_some _ (Heap.get?_push_size _ B.free)) (by rw [Heap.size_push, hz]) fun b o x => Heap.get?_push_of_some _ (Heap.get?_push_of_some _ x)⟩
/-- the tuple at a, each item in a new pair -/
def IteT (K : PySem.W.Frag) (a : Addr) : It :=
  ⟨fun i H => ∃ (xs : List V) (x : V), SqT K H a xs ∧ xs[i]? = some x, fun i H v H' => ∃ T x, v = .ref T ∧ H T = none ∧ H' = upd H T (.tup [.int (i : Nat), x]) ∧ ∀ xs, SqT K H a xs → xs[i]? = some x, fun i H => ∃ xs : List V, SqT K H a xs ∧ xs.length ≤ i⟩
theorem turn_enumT {P : Program} {w : World} {K : PySem.W.Frag} {elts : List Expr} {kk : Nat} {tpos : Pos} (a e it : Addr) :
    Turn P w K (.Tuple elts kk tpos) (IteT K a) [e, it] e (fun i h => (∃ old, IsEnum h e it ((i : Nat) : Int) old) ∧ h.IsTupleIter it a i ∧ e ≠ it) where
  mem := by simp
  obj := fun i h st b hb => by
    obtain ⟨⟨old, he⟩, ⟨o, ho, hc, hd⟩, _⟩ := st
    have e' : b = e ∨ b = it := by simpa using hb
    rcases e' with z | z
    · rw [z]; exact ⟨_, he, fun v q => nomatch q⟩
    · rw [z]; exact ⟨o, ho, fun v q => by rw [hd] at q; cases q⟩
  keep := fun i h h' st k => let ⟨⟨old, he⟩, hi, hne⟩ := st; ⟨⟨old, k e (by simp) _ he⟩, hi.at fun o q => k it (by simp) o q, hne⟩
  item := by
    intro X hP hw hK hc i pins s σ H E I hf st hg
    subst hP hw hK
    obtain ⟨⟨old, he⟩, hit, hne⟩ := st
    obtain ⟨xs, x, hq, hx⟩ := hg
    obtain ⟨its, rv, p, hz⟩ := I.tuple hq
    have hT : s.heap.IsTuple a its.toArray := p
    obtain ⟨u, hu, ru⟩ := rv.get hx
    have hel : e < s.heap.objs.size := Heap.lt_size he
    have hil : it < s.heap.objs.size := by obtain ⟨_, q, _⟩ := hit; exact Heap.lt_size q
    have nae : e ≠ a := fun z => by
      obtain ⟨o, ho, hcl, _⟩ := hT
      rw [← z, he] at ho
      cases ho
      have h2 : (Value.type "enumerate") = Value.type "tuple" := hcl
      exact absurd h2 (by decide)
    have nai : a ≠ it := fun z => by
      obtain ⟨o, ho, hcl, _⟩ := hT
      obtain ⟨o2, ho2, hcl2, _⟩ := hit
      rw [z, ho2] at ho
      cases ho
      rw [hcl2] at hcl
      exact absurd hcl (by decide)
    have D := Draws.tuple (prog := X.prog) (w := X.w) (A := X.A.in1) (I.ok.hd hc) it a nai its.toArray
    refine wpAny_pyNext_enum_itemC D he ⟨hit, hT⟩ (by have := (List.getElem?_eq_some_iff.mp hu).1; simpa using this) hne (by simp; exact ⟨hne, nae⟩) fun y h' tk hy ho hst hT1 hsz hk => ?_
    have ey : y = u := by
      have h1 : its[i]? = some y := by simpa using hy
      rw [hu] at h1
      exact (Option.some.inj h1).symm
    subst ey
    refine ⟨_, rfl, wpAny_letOwnedTupleGo_enum (s := { s with heap := h', toks := tk + 1 }) ho fun h'' he' sb => ?_⟩
    have hT2 : h''.get? s.heap.objs.size = some { cls := .type "tuple", data := .seq #[.int i tk, y] } := (sb.2 _ (Nat.ne_of_gt hel)).trans hT1
    have new : ObjOk X.prog X.w (upd H s.heap.objs.size (.tup [.int (i : Nat), x])) h'' s.heap.objs.size (.tup [.int (i : Nat), x]) :=
      ⟨by show 2 ≤ sizeLine; decide, [.int i tk, y], .cons ⟨_, rfl⟩ (.cons ru .nil), ⟨_, hT2, rfl, _, rfl⟩⟩
    have I1 : Inv X pins σ (upd H s.heap.objs.size (.tup [.int (i : Nat), x])) { s with heap := h'', toks := tk + 1 } :=
      I.turnedNew (ch := [e, it]) (fun b ob hb q => (sb.2 b (fun z => hb (by simp [z]))).trans (hk b ob (fun z => hb (by simp [z])) (fun z => hb (by simp [z])) q)) hf (Nat.le_refl _) new
    refine ⟨.ref s.heap.objs.size, _, I1, rfl, ⟨_, x, rfl, I.hok.fresh (Nat.le_refl _), rfl, fun ys hy => by rw [I.tuple_inj hy hq]; exact hx⟩, ⟨⟨y, ?_⟩, hst.1.at fun o q => (sb.2 it (Ne.symm hne)).trans q, hne⟩, fun b hb => ?_⟩
    · have e1 : ((i + 1 : Nat) : Int) = (i : Int) + 1 := by omega
      rw [e1]; exact he'
    · have hb' : b < s.heap.objs.size := by
        have e' : b = e ∨ b = it := by simpa using hb
        rcases e' with z | z
        · rw [z]; exact hel
        · rw [z]; exact hil
      rw [upd_ne (Nat.ne_of_lt hb')]
      exact (hf b hb).1
  done := by
    intro X hP hw hK hc i pins s σ H E I hf st hg
    subst hP hw hK
    obtain ⟨⟨old, he⟩, hit, hne⟩ := st
    obtain ⟨xs, hq, hx⟩ := hg
    obtain ⟨its, rv, p, hz⟩ := I.tuple hq
    have hT : s.heap.IsTuple a its.toArray := p
    obtain ⟨f0, f1, f2, f3, f4, f5⟩ := hf it (by simp)
    have hl := rv.length
    have nai : a ≠ it := fun z => by
      obtain ⟨o, ho, hcl, _⟩ := hT
      obtain ⟨o2, ho2, hcl2, _⟩ := hit
      rw [z, ho2] at ho
      cases ho
      rw [hcl2] at hcl
      exact absurd hcl (by decide)
    have ei : ((i : Nat) : Int) = ((i : Nat) : Int) := rfl
    have hT' : s.TypeIs (.ref e) "enumerate" := ⟨_, he, rfl⟩
    unfold pyNext
    refine wpAny_bind (wpAny_attempt (wpAny_callSpecial?_slot (name := Str.ofString "__next__") hT' F.slot_enumerate_next
      (wpAny_call_entry F.slot_enumerate_next hT' F.entry_enumerate_next ?_ (F.args_enumerate_next_1 _))))
    show wpAny _ _ (field (.ref e) 2 >>= _) _ _ _
    refine wpAny_bind (wpAny_field he rfl (x := .ref it) rfl ?_)
    refine wpAny_bind (wpAny_nextOf_tuple_end (I.ok.hd hc) hit hT (by simp; omega) fun h' x he' hx' => ?_)
    obtain ⟨o, ho, hcc⟩ := hx'
    refine wpAny_bind (wpAny_isInstance (T := "StopIteration") (b := true) ⟨o, ho, hcc⟩ isSubtype_stop ?_)
    exact wpAny_pure ⟨rfl, I.turned (t' := s.toks) (fun b o hb q => he' b o hb q) f0 f1 f3 f4 f5⟩
  self := fun A i s Q E st h => let ⟨⟨_, he⟩, _⟩ := st; wpAny_pyIter_enum he h
def iEnumT (K : PySem.W.Frag) (ta : TA) : TI := fun σ H R => ta σ H fun vs H1 => ∃ a xs, vs = [.ref a] ∧ SqT K H1 a xs ∧ R (IteT K a) H1
theorem pi_enumT {X : Cx} {e : Expr} {ta : TA} {p pos tpos : Pos} {elts : List Expr} {kk : Nat} (hg : Gl X "enumerate") (hm : X.mg "enumerate" = none) (ha : PA X [e] ta) (hs : starEach [e] X.env = [(false, eval e X.env)] := by rfl) :
    PI X (.Tuple elts kk tpos) (.Call (.Name "enumerate" p) [e] [] pos) (iEnumT X.K ta) := by
  refine ⟨fun pins s σ H R I h => ?_⟩
  refine Call_ (ld_blt I hg hm boot_enumerate (PyProof.Rows.callWith_type1 (thn (ha.run pos pins s σ H _ I h) fun us s1 ⟨vs, H1, I1, r1, q1⟩ => ?_) hs rfl))
  obtain ⟨a, xs, ex, hq, q⟩ := q1
  subst ex
  cases r1 with
  | cons r rr =>
    cases rr
    cases r
    obtain ⟨its, rv, p', hz⟩ := I1.tuple hq
    refine enum_begins1 (begins_tuple a its.toArray) (show s1.heap.IsTuple a its.toArray from p') fun h' he hit hsz hk => wpAny_pyIter_enum he ?_
    have I2 : Inv X pins σ H1 { s1 with heap := h' } := I1.kept (t' := s1.toks) hk
    refine ⟨s1.heap.objs.size + 1, [s1.heap.objs.size + 1, s1.heap.objs.size], _, _, H1, rfl, I2, turn_enumT a (s1.heap.objs.size + 1) s1.heap.objs.size, ⟨⟨.none, he⟩, ⟨_, hit, rfl, rfl⟩, Nat.succ_ne_self _⟩, fun b hb => ?_, q⟩
    have e' : b = s1.heap.objs.size + 1 ∨ b = s1.heap.objs.size := by simpa using hb
    have hle : s1.heap.objs.size ≤ b := by
      rcases e' with z | z
      · rw [z]; exact Nat.le_add_right _ _
      · rw [z]; exact Nat.le_refl _
    exact I1.fpOk hle (I1.hok.fresh hle)
end RS

set_option Elab.async false
set_option linter.all false
set_option maxRecDepth 100000
set_option maxHeartbeats 4000000
/-! A layer of data over the hand layer: immutable data (D), mutable cells (Store). -/
namespace RS
open PySem PySem.Spec PyProof.Rows L2
/-! ### data -/
inductive D where
  | non | bl (b : Bool) | int (i : Int) | str (x : Str) | lst (xs : List D) | tup (xs : List D) | obj (C : Addr) (fs : List (Str × D)) | ref (a : Addr) | ty (n : String) | frz (ns : List Int)

def KTup (K : PySem.W.Frag) (a : Addr) (xs : List V) : Prop := ∃ (o : Obj) (its : Array Value) (n : Nat), K.lookup a = some o ∧ o.cls = .type "tuple" ∧ o.data = .seq its n ∧ its.size ≤ sizeLine ∧ Vals xs its.toList
mutual
inductive Rp (K : PySem.W.Frag) (Z : Addr → Prop) (H : Hp) : V → D → Prop
  | non : Rp K Z H .non .non
  | bl (b : Bool) : Rp K Z H (.bl b) (.bl b)
  | int (i : Int) : Rp K Z H (.int i) (.int i)
  | str (x : Str) : Rp K Z H (.str x) (.str x)
  | ref (a : Addr) : Rp K Z H (.ref a) (.ref a)
  | ty (n : String) : Rp K Z H (.ty n) (.ty n)
  | lst {a : Addr} {xs : List V} {ds : List D} : H a = some (.lst xs) → ¬ Z a → RpAll K Z H xs ds → Rp K Z H (.ref a) (.lst ds)
  | frz {a : Addr} {o : Obj} {ns : List Int} : H a = some (.frz o (.lst (ns.map V.int))) → ¬ Z a → Rp K Z H (.ref a) (.frz ns)
  | frzK {a : Addr} {ns : List Int} : (∀ H, SqL K H a (ns.map V.int)) → Rp K Z H (.ref a) (.frz ns)
  | tup {a : Addr} {xs : List V} {ds : List D} : H a = some (.tup xs) → ¬ Z a → RpAll K Z H xs ds → Rp K Z H (.ref a) (.tup ds)
  | tupK {a : Addr} {xs : List V} {ds : List D} : KTup K a xs → RpAll K Z H xs ds → Rp K Z H (.ref a) (.tup ds)
  | obj {a C dx : Addr} {fs : List (Str × V)} {gs : List (Str × D)} : H a = some (.ins C dx fs) → ¬ Z a → RpF K Z H fs gs → Rp K Z H (.ref a) (.obj C gs)
inductive RpAll (K : PySem.W.Frag) (Z : Addr → Prop) (H : Hp) : List V → List D → Prop
  | nil : RpAll K Z H [] []
  | cons {v : V} {vs : List V} {d : D} {ds : List D} : Rp K Z H v d → RpAll K Z H vs ds → RpAll K Z H (v :: vs) (d :: ds)
inductive RpF (K : PySem.W.Frag) (Z : Addr → Prop) (H : Hp) : List (Str × V) → List (Str × D) → Prop
  | nil : RpF K Z H [] []
  | cons {f : Str} {v : V} {fs : List (Str × V)} {d : D} {gs : List (Str × D)} : Rp K Z H v d → RpF K Z H fs gs → RpF K Z H ((f, v) :: fs) ((f, d) :: gs)
end
section
variable {K : PySem.W.Frag} {Z Z' : Addr → Prop} {H H' : Hp}
/-- H' holds what H holds outside Z; Z' is no wider on what H tracks -/
structure Lift (Z : Addr → Prop) (H : Hp) (Z' : Addr → Prop) (H' : Hp) : Prop where
  keep : ∀ a o, ¬ Z a → H a = some o → H' a = some o
  fresh : ∀ a, Z' a → Z a ∨ H a = none
theorem Lift.rd (L : Lift Z H Z' H') {a : Addr} {u : HO} (h : Rd H a u) (n : ¬ Z a) : Rd H' a u ∧ ¬ Z' a := by
  rcases h with h | ⟨o, h⟩
  · refine ⟨.inl (L.keep a _ n h), fun z => ?_⟩
    rcases L.fresh a z with q | q
    · exact n q
    · rw [h] at q; cases q
  · refine ⟨.inr ⟨o, L.keep a _ n h⟩, fun z => ?_⟩
    rcases L.fresh a z with q | q
    · exact n q
    · rw [h] at q; cases q
mutual
theorem Rp.lift (L : Lift Z H Z' H') : ∀ {v : V} {d : D}, Rp K Z H v d → Rp K Z' H' v d
  | _, _, .non => .non
  | _, _, .bl b => .bl b
  | _, _, .int i => .int i
  | _, _, .str x => .str x
  | _, _, .ref a => .ref a
  | _, _, .ty n => .ty n
  | _, _, .lst h n r => .lst (L.keep _ _ n h) (L.rd (.inl h) n).2 (RpAll.lift L r)
  | _, _, .frz h n => .frz (L.keep _ _ n h) (L.rd (.inl h) n).2
  | _, _, .frzK h => .frzK h
  | _, _, .tup h n r => .tup (L.keep _ _ n h) (L.rd (.inl h) n).2 (RpAll.lift L r)
  | _, _, .tupK h r => .tupK h (RpAll.lift L r)
  | _, _, .obj h n r => .obj (L.keep _ _ n h) (L.rd (.inl h) n).2 (RpF.lift L r)
theorem RpAll.lift (L : Lift Z H Z' H') : ∀ {vs : List V} {ds : List D}, RpAll K Z H vs ds → RpAll K Z' H' vs ds
  | _, _, .nil => .nil
  | _, _, .cons r t => .cons (Rp.lift L r) (RpAll.lift L t)
theorem RpF.lift (L : Lift Z H Z' H') : ∀ {vs : List (Str × V)} {ds : List (Str × D)}, RpF K Z H vs ds → RpF K Z' H' vs ds
  | _, _, .nil => .nil
  | _, _, .cons r t => .cons (Rp.lift L r) (RpF.lift L t)
end
theorem RpAll.length : ∀ {vs : List V} {ds : List D}, RpAll K Z H vs ds → vs.length = ds.length
  | _, _, .nil => rfl
  | _, _, .cons _ t => congrArg (· + 1) t.length
theorem RpAll.get : ∀ {vs : List V} {ds : List D} {i : Nat} {d : D}, RpAll K Z H vs ds → ds[i]? = some d → ∃ v, vs[i]? = some v ∧ Rp K Z H v d
  | _, _, _, _, .nil, e => by simp at e
  | _, _, 0, _, .cons r _, e => by simp at e; subst e; exact ⟨_, rfl, r⟩
  | _, _, i + 1, d, .cons _ t, e => by
    obtain ⟨u, h1, h2⟩ := RpAll.get (i := i) (d := d) t (by simpa using e)
    exact ⟨u, by simpa using h1, h2⟩
theorem RpAll.getV : ∀ {vs : List V} {ds : List D} {i : Nat} {v : V}, RpAll K Z H vs ds → vs[i]? = some v → ∃ d, ds[i]? = some d ∧ Rp K Z H v d
  | _, _, _, _, .nil, e => by simp at e
  | _, _, 0, _, .cons r _, e => by simp at e; subst e; exact ⟨_, rfl, r⟩
  | _, _, i + 1, d, .cons _ t, e => by
    obtain ⟨u, h1, h2⟩ := RpAll.getV (i := i) (v := d) t (by simpa using e)
    exact ⟨u, by simpa using h1, h2⟩
theorem RpAll.append : ∀ {vs ws : List V} {ds es : List D}, RpAll K Z H vs ds → RpAll K Z H ws es → RpAll K Z H (vs ++ ws) (ds ++ es)
  | _, _, _, _, .nil, s => s
  | _, _, _, _, .cons r t, s => .cons r (RpAll.append t s)
theorem RpAll.set {v : V} {d : D} (r : Rp K Z H v d) : ∀ {vs : List V} {ds : List D} (i : Nat), RpAll K Z H vs ds → RpAll K Z H (vs.set i v) (ds.set i d)
  | _, _, _, .nil => .nil
  | _, _, 0, .cons _ t => .cons r t
  | _, _, i + 1, .cons q t => .cons q (RpAll.set r i t)
theorem RpAll.take : ∀ {vs : List V} {ds : List D} (n : Nat), RpAll K Z H vs ds → RpAll K Z H (vs.take n) (ds.take n)
  | _, _, 0, _ => .nil
  | _, _, _ + 1, .nil => .nil
  | _, _, n + 1, .cons r t => .cons r (RpAll.take n t)
theorem RpAll.drop : ∀ {vs : List V} {ds : List D} (n : Nat), RpAll K Z H vs ds → RpAll K Z H (vs.drop n) (ds.drop n)
  | _, _, 0, r => r
  | _, _, _ + 1, .nil => .nil
  | _, _, n + 1, .cons _ t => RpAll.drop n t
theorem RpAll.one {v : V} {d : D} (h : Rp K Z H v d) : RpAll K Z H [v] [d] := .cons h .nil
theorem RpF.lookup : ∀ {vs : List (Str × V)} {ds : List (Str × D)} {f : Str} {d : D}, RpF K Z H vs ds → ds.lookup f = some d → ∃ v, vs.lookup f = some v ∧ Rp K Z H v d
  | _, _, _, _, .nil, e => by cases e
  | _, _, f, d, .cons (f := g) (v := v) (d := d0) r t, e => by
    rw [List.lookup_cons] at e ⊢
    cases q : (f == g) with
    | true =>
      rw [q] at e
      cases e
      exact ⟨v, rfl, r⟩
    | false =>
      rw [q] at e
      exact RpF.lookup t e
theorem RpF.none : ∀ {vs : List (Str × V)} {ds : List (Str × D)} {f : Str}, RpF K Z H vs ds → ds.lookup f = none → vs.lookup f = none
  | _, _, _, .nil, e => rfl
  | _, _, f, .cons (f := g) (v := v) (d := d0) r t, e => by
    rw [List.lookup_cons] at e ⊢
    cases q : (f == g) with
    | true =>
      rw [q] at e
      cases e
    | false =>
      rw [q] at e
      exact RpF.none t e
theorem RpF.length : ∀ {vs : List (Str × V)} {ds : List (Str × D)}, RpF K Z H vs ds → vs.length = ds.length
  | _, _, .nil => rfl
  | _, _, .cons _ t => congrArg (· + 1) t.length
def putD (f : Str) (d : D) : List (Str × D) → List (Str × D)
  | [] => [(f, d)]
  | (g, e) :: r => if g = f then (f, d) :: r else (g, e) :: putD f d r
theorem Rp.tupV {v : V} {ds : List D} (h : Rp K Z H v (.tup ds)) : ∃ a xs, v = .ref a ∧ SqT K H a xs ∧ RpAll K Z H xs ds := by
  cases h with
  | tup h n r => exact ⟨_, _, rfl, .inl (.inl h), r⟩
  | tupK h r => exact ⟨_, _, rfl, .inr h, r⟩
theorem Rp.lstV {v : V} {ds : List D} (h : Rp K Z H v (.lst ds)) : ∃ a xs, v = .ref a ∧ H a = some (.lst xs) ∧ RpAll K Z H xs ds := by
  cases h with
  | lst h n r => exact ⟨_, _, rfl, h, r⟩
theorem Rp.frzV {v : V} {ns : List Int} (h : Rp K Z H v (.frz ns)) : ∃ a, v = .ref a ∧ SqL K H a (ns.map V.int) := by
  cases h with
  | frz h n => exact ⟨_, rfl, .inl (.inr ⟨_, h⟩)⟩
  | frzK h => exact ⟨_, rfl, h H⟩
theorem Rp.objV {v : V} {C : Addr} {gs : List (Str × D)} (h : Rp K Z H v (.obj C gs)) : ∃ a dx fs, v = .ref a ∧ H a = some (.ins C dx fs) ∧ ¬ Z a ∧ RpF K Z H fs gs := by
  cases h with
  | obj h n r => exact ⟨_, _, _, rfl, h, n, r⟩
theorem Rp.intV {v : V} {i : Int} (h : Rp K Z H v (.int i)) : v = .int i := by cases h; rfl
theorem Rp.blV {v : V} {i : Bool} (h : Rp K Z H v (.bl i)) : v = .bl i := by cases h; rfl
theorem Rp.strV {v : V} {i : Str} (h : Rp K Z H v (.str i)) : v = .str i := by cases h; rfl
theorem Rp.nonV {v : V} (h : Rp K Z H v .non) : v = .non := by cases h; rfl
theorem Rp.tyV {v : V} {n : String} (h : Rp K Z H v (.ty n)) : v = .ty n := by cases h; rfl
theorem Rp.refV {v : V} {a : Addr} (h : Rp K Z H v (.ref a)) : v = .ref a := by cases h; rfl
end
/-! ### cells -/
inductive Cell where
  | lst (ds : List D)
  | ins (C : Addr) (fs : List (Str × D))
def CellOk (K : PySem.W.Frag) (Z : Addr → Prop) (H : Hp) (a : Addr) : Cell → Prop
  | .lst ds => ∃ xs, H a = some (.lst xs) ∧ RpAll K Z H xs ds
  | .ins C fs => ∃ dx gs, H a = some (.ins C dx gs) ∧ RpF K Z H gs fs
abbrev Store := List (Addr × Cell)
def dom (S : Store) (a : Addr) : Prop := a ∈ S.map (·.1)
structure StOk (K : PySem.W.Frag) (S : Store) (H : Hp) : Prop where
  nd : (S.map (·.1)).Nodup
  ok : ∀ a c, (a, c) ∈ S → CellOk K (dom S) H a c
def setC (S : Store) (a : Addr) (c : Cell) : Store := S.map fun p => if p.1 = a then (a, c) else p
theorem setC_keys (S : Store) (a : Addr) (c : Cell) : (setC S a c).map (·.1) = S.map (·.1) := by
  unfold setC
  rw [List.map_map]
  apply List.map_congr_left
  intro p _
  show (if p.1 = a then (a, c) else p).1 = p.1
  split
  · rename_i h; exact h.symm
  · rfl
theorem dom_setC {S : Store} {a : Addr} {c : Cell} : dom (setC S a c) = dom S := by
  funext b
  unfold dom
  rw [setC_keys]
theorem lookup_mem {S : Store} {a : Addr} {c : Cell} (h : S.lookup a = some c) : (a, c) ∈ S := by
  induction S with
  | nil => cases h
  | cons p r ih =>
    obtain ⟨b, u⟩ := p
    rw [List.lookup_cons] at h
    cases q : (a == b) with
    | true =>
      rw [q] at h
      cases h
      rw [beq_iff_eq.mp q]
      exact List.mem_cons_self
    | false =>
      rw [q] at h
      exact List.mem_cons_of_mem _ (ih h)
theorem dom_of_lookup {S : Store} {a : Addr} {c : Cell} (h : S.lookup a = some c) : dom S a := List.mem_map.mpr ⟨_, lookup_mem h, rfl⟩
theorem ne_dom {S : Store} {x a : Addr} {c : Cell} (n : ¬ dom S x) (l : S.lookup a = some c) : x ≠ a := fun z => n (by rw [z]; exact dom_of_lookup l)
theorem lookup_setC {S : Store} {a : Addr} {c c' : Cell} (h : S.lookup a = some c) : (setC S a c').lookup a = some c' := by
  induction S with
  | nil => cases h
  | cons p r ih =>
    obtain ⟨b, u⟩ := p
    rw [List.lookup_cons] at h
    show ((if b = a then (a, c') else (b, u)) :: setC r a c').lookup a = some c'
    cases q : (a == b) with
    | true =>
      have e : b = a := (beq_iff_eq.mp q).symm
      rw [if_pos e, List.lookup_cons]
      simp
    | false =>
      rw [q] at h
      have e : ¬ b = a := fun z => by rw [z] at q; simp at q
      rw [if_neg e, List.lookup_cons, q]
      exact ih h
theorem lookup_setC_ne {S : Store} {a b : Addr} {c' : Cell} (h : b ≠ a) : (setC S a c').lookup b = S.lookup b := by
  induction S with
  | nil => rfl
  | cons p r ih =>
    obtain ⟨x, u⟩ := p
    show ((if x = a then (a, c') else (x, u)) :: setC r a c').lookup b = _
    by_cases e : x = a
    · rw [if_pos e, List.lookup_cons, List.lookup_cons, e]
      have q : (b == a) = false := beq_eq_false_iff_ne.mpr h
      rw [q]
      exact ih
    · rw [if_neg e, List.lookup_cons, List.lookup_cons]
      rw [ih]
section
variable {K : PySem.W.Frag} {S S' S1 S2 : Store} {H H' H1 H2 : Hp}
theorem StOk.there (h : StOk K S H) {a : Addr} (d : dom S a) : H a ≠ none := by
  obtain ⟨p, hp, e⟩ := List.mem_map.mp d
  obtain ⟨b, c⟩ := p
  have e : b = a := e
  subst e
  have q := h.ok b c hp
  cases c with
  | lst ds => obtain ⟨xs, e, _⟩ := q; rw [e]; exact fun z => nomatch z
  | ins C fs => obtain ⟨dx, gs, e, _⟩ := q; rw [e]; exact fun z => nomatch z
structure Step (K : PySem.W.Frag) (S : Store) (H : Hp) (S' : Store) (H' : Hp) : Prop where
  keep : ∀ a o, ¬ dom S a → H a = some o → H' a = some o
  st : StOk K S' H'
  fresh : ∀ a, dom S' a → dom S a ∨ H a = none
theorem Step.refl (h : StOk K S H) : Step K S H S H := ⟨fun _ _ _ e => e, h, fun _ d => .inl d⟩
theorem Step.lft (s : Step K S H S' H') : Lift (dom S) H (dom S') H' := ⟨s.keep, s.fresh⟩
theorem Step.trans (s : Step K S H S1 H1) (t : Step K S1 H1 S2 H2) : Step K S H S2 H2 where
  keep := fun a o n e => t.keep a o (fun d => by
    rcases s.fresh a d with q | q
    · exact n q
    · rw [e] at q; cases q) (s.keep a o n e)
  st := t.st
  fresh := fun a d => by
    rcases t.fresh a d with q | q
    · exact s.fresh a q
    · by_cases z : dom S a
      · exact .inl z
      · refine .inr ?_
        cases e : H a with
        | none => rfl
        | some o => rw [s.keep a o z e] at q; cases q
theorem CellOk.lift {Z Z' : Addr → Prop} (L : Lift Z H Z' H') {a : Addr} (hs : H' a = H a) : ∀ {c : Cell}, CellOk K Z H a c → CellOk K Z' H' a c
  | .lst ds, ⟨xs, e, r⟩ => ⟨xs, hs.trans e, r.lift L⟩
  | .ins C fs, ⟨dx, gs, e, r⟩ => ⟨dx, gs, hs.trans e, r.lift L⟩
/-- a new object that is no cell -/
theorem StOk.new (h : StOk K S H) {p : Addr} {o : HO} (n : H p = none) : StOk K S (upd H p o) :=
  ⟨h.nd, fun a c m => by
    have q := h.ok a c m
    have ha : a ≠ p := fun z => h.there (List.mem_map.mpr ⟨_, m, rfl⟩) (z ▸ n)
    exact q.lift ⟨fun b u _ e => by rw [upd_ne (ne_of_none e n)]; exact e, fun _ d => .inl d⟩ (upd_ne ha)⟩
theorem Step.new (h : StOk K S H) {p : Addr} {o : HO} (n : H p = none) : Step K S H S (upd H p o) :=
  ⟨fun a u _ e => by rw [upd_ne (ne_of_none e n)]; exact e, h.new n, fun _ d => .inl d⟩
theorem StOk.nodom (h : StOk K S H) {p : Addr} (n : H p = none) : ¬ dom S p := fun d => h.there d n
/-- a cell changes -/
theorem StOk.put (h : StOk K S H) {a : Addr} {c c' : Cell} {o : HO} (l : S.lookup a = some c) (new : CellOk K (dom S) (upd H a o) a c') : StOk K (setC S a c') (upd H a o) where
  nd := by rw [setC_keys]; exact h.nd
  ok := fun b u m => by
    rw [dom_setC]
    unfold setC at m
    obtain ⟨p, hp, e⟩ := List.mem_map.mp m
    have e : (if p.1 = a then (a, c') else p) = (b, u) := e
    by_cases z : p.1 = a
    · rw [if_pos z] at e
      cases e
      exact new
    · rw [if_neg z] at e
      subst e
      exact (h.ok b u hp).lift ⟨fun x w n e => by rw [upd_ne (ne_dom n l)]; exact e, fun _ d => .inl d⟩ (upd_ne z)
theorem Step.put (h : StOk K S H) {a : Addr} {c c' : Cell} {o : HO} (l : S.lookup a = some c) (new : CellOk K (dom S) (upd H a o) a c') : Step K S H (setC S a c') (upd H a o) where
  keep := fun x w n e => by rw [upd_ne (ne_dom n l)]; exact e
  st := h.put l new
  fresh := fun x d => by rw [dom_setC] at d; exact .inl d
/-- a change of a cell leaves data that avoid the cells -/
theorem Lift.put {a : Addr} {c : Cell} {o : HO} (l : S.lookup a = some c) : Lift (dom S) H (dom S) (upd H a o) :=
  ⟨fun x w n e => by rw [upd_ne (ne_dom n l)]; exact e, fun _ d => .inl d⟩
/-- a new cell -/
theorem Step.cell (h : StOk K S H) {p : Addr} {c : Cell} {o : HO} (n : H p = none) (new : CellOk K (dom ((p, c) :: S)) (upd H p o) p c) : Step K S H ((p, c) :: S) (upd H p o) where
  keep := fun a u _ e => by rw [upd_ne (ne_of_none e n)]; exact e
  st := ⟨List.nodup_cons.mpr ⟨h.nodom n, h.nd⟩, fun a u m => by
    rcases List.mem_cons.mp m with e | m
    · cases e; exact new
    · have ha : a ≠ p := fun z => h.there (List.mem_map.mpr ⟨_, m, rfl⟩) (z ▸ n)
      refine (h.ok a u m).lift ⟨fun b u _ e => by rw [upd_ne (ne_of_none e n)]; exact e, fun x d => ?_⟩ (upd_ne ha)
      rcases List.mem_cons.mp (show x ∈ p :: S.map (·.1) from d) with z | z
      · rw [z]; exact .inr n
      · exact .inl z⟩
  fresh := fun a d => by
    rcases List.mem_cons.mp (show a ∈ p :: S.map (·.1) from d) with z | z
    · rw [z]; exact .inr n
    · exact .inl z
theorem Lift.newCell {p : Addr} {c : Cell} {o : HO} (n : H p = none) : Lift (dom S) H (dom ((p, c) :: S)) (upd H p o) :=
  ⟨fun a u _ e => by rw [upd_ne (ne_of_none e n)]; exact e, fun a d => by
    rcases List.mem_cons.mp (show a ∈ p :: S.map (·.1) from d) with z | z
    · rw [z]; exact .inr n
    · exact .inl z⟩
/-- fewer cells -/
theorem StOk.sub (h : StOk K S' H') (hs : ∀ p ∈ S, p ∈ S') (nd : (S.map (·.1)).Nodup) : StOk K S H' :=
  ⟨nd, fun a c m => (h.ok a c (hs _ m)).lift ⟨fun _ _ _ e => e, fun b d => by
    obtain ⟨p, hp, e⟩ := List.mem_map.mp d
    exact .inl (List.mem_map.mpr ⟨p, hs p hp, e⟩)⟩ rfl⟩
end
/-! ### slots -/
inductive EnvR (K : PySem.W.Frag) (Z : Addr → Prop) (H : Hp) : List (Option V) → List (Option D) → Prop
  | nil : EnvR K Z H [] []
  | skip {x : Option V} {σ : List (Option V)} {G : List (Option D)} : EnvR K Z H σ G → EnvR K Z H (x :: σ) (none :: G)
  | cons {v : V} {d : D} {σ : List (Option V)} {G : List (Option D)} : Rp K Z H v d → EnvR K Z H σ G → EnvR K Z H (some v :: σ) (some d :: G)
section
variable {K : PySem.W.Frag} {Z Z' : Addr → Prop} {H H' : Hp}
theorem EnvR.lift (L : Lift Z H Z' H') : ∀ {σ : List (Option V)} {G : List (Option D)}, EnvR K Z H σ G → EnvR K Z' H' σ G
  | _, _, .nil => .nil
  | _, _, .skip t => .skip (EnvR.lift L t)
  | _, _, .cons r t => .cons (r.lift L) (EnvR.lift L t)
theorem EnvR.get : ∀ {σ : List (Option V)} {G : List (Option D)} {i : Nat} {d : D}, EnvR K Z H σ G → G[i]? = some (some d) → ∃ v, σ[i]? = some (some v) ∧ Rp K Z H v d
  | _, _, _, _, .nil, e => by simp at e
  | _, _, 0, _, .skip _, e => by simp at e
  | _, _, 0, _, .cons r _, e => by simp at e; subst e; exact ⟨_, rfl, r⟩
  | _, _, i + 1, d, .skip t, e => by
    obtain ⟨u, h1, h2⟩ := EnvR.get (i := i) (d := d) t (by simpa using e)
    exact ⟨u, by simpa using h1, h2⟩
  | _, _, i + 1, d, .cons _ t, e => by
    obtain ⟨u, h1, h2⟩ := EnvR.get (i := i) (d := d) t (by simpa using e)
    exact ⟨u, by simpa using h1, h2⟩
theorem EnvR.set {v : V} {d : D} (r : Rp K Z H v d) : ∀ {σ : List (Option V)} {G : List (Option D)} (i : Nat), EnvR K Z H σ G → EnvR K Z H (σ.set i (some v)) (G.set i (some d))
  | _, _, _, .nil => .nil
  | _, _, 0, .skip t => .cons r t
  | _, _, 0, .cons _ t => .cons r t
  | _, _, i + 1, .skip t => .skip (EnvR.set r i t)
  | _, _, i + 1, .cons q t => .cons q (EnvR.set r i t)
theorem EnvR.wipe1 : ∀ {σ : List (Option V)} {G : List (Option D)} (i : Nat), EnvR K Z H σ G → EnvR K Z H (σ.set i none) (G.set i none)
  | _, _, _, .nil => .nil
  | _, _, 0, .skip t => .skip t
  | _, _, 0, .cons _ t => .skip t
  | _, _, i + 1, .skip t => .skip (EnvR.wipe1 i t)
  | _, _, i + 1, .cons q t => .cons q (EnvR.wipe1 i t)
def wipeG (G : List (Option D)) : List Nat → List (Option D)
  | [] => G
  | v :: vs => (wipeG G vs).set v none
theorem EnvR.wipe {σ : List (Option V)} {G : List (Option D)} (e : EnvR K Z H σ G) : ∀ vs : List Nat, EnvR K Z H (L2.wipe σ vs) (wipeG G vs)
  | [] => e
  | v :: vs => by
    unfold L2.wipe wipeG
    exact EnvR.wipe1 v (EnvR.wipe e vs)
theorem EnvR.start : ∀ {vs : List V} {ds : List D} (n : Nat), RpAll K Z H vs ds → EnvR K Z H (vs.map some ++ List.replicate n none) (ds.map some ++ List.replicate n none)
  | _, _, n, .nil => by
    show EnvR K Z H (List.replicate n none) (List.replicate n none)
    induction n with
    | zero => exact .nil
    | succ n ih => exact .skip ih
  | _, _, n, .cons r t => .cons r (EnvR.start n t)
end
theorem wipe_set {σ : List (Option V)} {x : Option V} {j : Nat} : ∀ {vs : List Nat}, j ∈ vs → wipe (σ.set j x) vs = wipe σ vs
  | [], h => by cases h
  | v :: vs, h => by
    unfold wipe
    by_cases hj : j ∈ vs
    · rw [wipe_set hj]
    · have e : j = v := by
        rcases List.mem_cons.mp h with e | e
        · exact e
        · exact absurd e hj
      subst e
      have aux : ∀ (ws : List Nat), j ∉ ws → (wipe (σ.set j x) ws) = (wipe σ ws).set j x := by
        intro ws
        induction ws with
        | nil => intro _; rfl
        | cons w ws ih =>
          intro hn
          have h1 : j ≠ w := fun e => hn (by simp [e])
          have h2 : j ∉ ws := fun e => hn (by simp [e])
          unfold wipe
          rw [ih h2, List.set_comm _ _ h1]
      rw [aux vs hj, List.set_set]
theorem wipe_none {σ : List (Option V)} {vs : List Nat} : ∀ {j : Nat}, j ∈ vs → (wipe σ vs).set j none = wipe σ vs := by
  induction vs with
  | nil => intro j h; cases h
  | cons v vs ih =>
    intro j h
    unfold wipe
    by_cases e : j = v
    · rw [e, List.set_set]
    · have hj : j ∈ vs := by
        rcases List.mem_cons.mp h with z | z
        · exact absurd z e
        · exact z
      rw [List.set_comm _ _ (fun z => e z.symm), ih hj]
theorem wipe_wipe {σ : List (Option V)} {vs : List Nat} : wipe (wipe σ vs) vs = wipe σ vs := by
  have aux : ∀ ws : List Nat, (∀ j ∈ ws, j ∈ vs) → wipe (wipe σ vs) ws = wipe σ vs := by
    intro ws
    induction ws with
    | nil => intro _; rfl
    | cons w ws ih =>
      intro h
      show (wipe (wipe σ vs) ws).set w none = _
      rw [ih fun j hj => h j (List.mem_cons_of_mem _ hj)]
      exact wipe_none (h w List.mem_cons_self)
  exact aux vs fun _ h => h
end RS

set_option Elab.async false
set_option linter.all false
set_option maxRecDepth 100000
set_option maxHeartbeats 4000000
/-! The rules of the data layer. -/
namespace RS
open PySem PySem.Spec PyProof.Rows L2
abbrev Env' := List (Option D)
abbrev PD := D → Store → Prop
structure EnvOk (K : PySem.W.Frag) (S : Store) (H : Hp) (σ : L2.St) (G : Env') : Prop where
  st : StOk K S H
  env : EnvR K (dom S) H σ G
section
variable {K : PySem.W.Frag} {S S' S1 S2 : Store} {H H' H1 H2 : Hp} {σ σ' : L2.St} {G G' : Env'}
theorem EnvOk.step (e : EnvOk K S H σ G) (s : Step K S H S' H') : EnvOk K S' H' σ G := ⟨s.st, e.env.lift s.lft⟩
theorem EnvOk.set {v : V} {d : D} (e : EnvOk K S H σ G) (r : Rp K (dom S) H v d) (i : Nat) : EnvOk K S H (σ.set i (some v)) (G.set i (some d)) := ⟨e.st, e.env.set r i⟩
end
def EvG (K : PySem.W.Frag) (te : TE) (G : Env') (S : Store) (P : PD) : Prop := ∀ σ H, EnvOk K S H σ G → ∀ Q : VK, (∀ d S' v H', P d S' → Step K S H S' H' → Rp K (dom S') H' v d → Q v H') → te σ H Q
def EvT (K : PySem.W.Frag) (tt : TT) (G : Env') (S : Store) (P : Bool → Store → Prop) : Prop := ∀ σ H, EnvOk K S H σ G → ∀ Q : Bool → Hp → Prop, (∀ b S' H', P b S' → Step K S H S' H' → Q b H') → tt σ H Q
def EvA (K : PySem.W.Frag) (ta : TA) (G : Env') (S : Store) (P : List D → Store → Prop) : Prop := ∀ σ H, EnvOk K S H σ G → ∀ Q : List V → Hp → Prop, (∀ ds S' vs H', P ds S' → Step K S H S' H' → RpAll K (dom S') H' vs ds → Q vs H') → ta σ H Q
def EvO (K : PySem.W.Frag) (to : TO) (G : Env') (S : Store) (P : Option Int → Store → Prop) : Prop := ∀ σ H, EnvOk K S H σ G → ∀ Q : Option Int → Hp → Prop, (∀ o S' H', P o S' → Step K S H S' H' → Q o H') → to σ H Q
def OpG (K : PySem.W.Frag) (r : R2) (x y : D) (S : Store) (P : PD) : Prop := ∀ H vx vy, StOk K S H → Rp K (dom S) H vx x → Rp K (dom S) H vy y → ∀ Q : VK, (∀ d S' v H', P d S' → Step K S H S' H' → Rp K (dom S') H' v d → Q v H') → r vx vy H Q
def UnG (K : PySem.W.Frag) (r : V → Hp → VK → Prop) (x : D) (S : Store) (P : PD) : Prop := ∀ H vx, StOk K S H → Rp K (dom S) H vx x → ∀ Q : VK, (∀ d S' v H', P d S' → Step K S H S' H' → Rp K (dom S') H' v d → Q v H') → r vx H Q
def CbG (K : PySem.W.Frag) (r : List V → Hp → VK → Prop) (xs : List D) (S : Store) (P : PD) : Prop := ∀ H vs, StOk K S H → RpAll K (dom S) H vs xs → ∀ Q : VK, (∀ d S' v H', P d S' → Step K S H S' H' → Rp K (dom S') H' v d → Q v H') → r vs H Q
def MtG (K : PySem.W.Frag) (T : String) (r : V → List V → Hp → VK → Prop) (x : D) (xs : List D) (S : Store) (P : PD) : Prop := ∀ H v vs, StOk K S H → Rp K (dom S) H v x → RpAll K (dom S) H vs xs → ∀ Q : VK, (∀ d S' v H', P d S' → Step K S H S' H' → Rp K (dom S') H' v d → Q v H') → r v vs H Q
def TyG (K : PySem.W.Frag) (T : String) (x : D) (S : Store) : Prop := ∀ H v, StOk K S H → Rp K (dom S) H v x → tyV K T v H
structure EndsD where
  nx : Env' → Store → Prop
  rt : PD
  bk : Env' → Store → Prop := fun _ _ => False
  ct : Env' → Store → Prop := fun _ _ => False
@[reducible] def EndsD.nxt (N : EndsD) (f : Env' → Store → Prop) : EndsD := ⟨f, N.rt, N.bk, N.ct⟩
@[reducible] def EndsD.loop (N : EndsD) (f : Env' → Store → Prop) : EndsD := ⟨f, N.rt, N.nx, f⟩
structure Fits (K : PySem.W.Frag) (S : Store) (H : Hp) (N : EndsD) (E : Ends) : Prop where
  nx : ∀ G' S' σ' H', N.nx G' S' → Step K S H S' H' → EnvOk K S' H' σ' G' → E.nx σ' H'
  rt : ∀ d S' v H', N.rt d S' → Step K S H S' H' → Rp K (dom S') H' v d → E.rt v H'
  bk : ∀ G' S' σ' H', N.bk G' S' → Step K S H S' H' → EnvOk K S' H' σ' G' → E.bk σ' H'
  ct : ∀ G' S' σ' H', N.ct G' S' → Step K S H S' H' → EnvOk K S' H' σ' G' → E.ct σ' H'
def ExG (K : PySem.W.Frag) (ts : TS) (G : Env') (S : Store) (N : EndsD) : Prop := ∀ σ H (E : Ends), EnvOk K S H σ G → Fits K S H N E → ts E σ H
def TgG (K : PySem.W.Frag) (g : TG) (d : D) (G : Env') (S : Store) (P : Env' → Store → Prop) : Prop := ∀ σ H v, EnvOk K S H σ G → Rp K (dom S) H v d → ∀ Q : L2.St → Hp → Prop, (∀ G' S' σ' H', P G' S' → Step K S H S' H' → EnvOk K S' H' σ' G' → Q σ' H') → g v σ H Q
def TgsG (K : PySem.W.Frag) (g : TGs) (ds : List D) (G : Env') (S : Store) (P : Env' → Store → Prop) : Prop := ∀ σ H vs, EnvOk K S H σ G → RpAll K (dom S) H vs ds → ∀ Q : L2.St → Hp → Prop, (∀ G' S' σ' H', P G' S' → Step K S H S' H' → EnvOk K S' H' σ' G' → Q σ' H') → g vs σ H Q
section
variable {K : PySem.W.Frag} {S S' S1 S2 : Store} {H H' H1 H2 : Hp} {σ σ' : L2.St} {G G' : Env'} {ta tb te : TE} {P : PD} {t u : TT} {PB : Bool → Store → Prop} {N : EndsD} {E : Ends}
theorem Fits.step (f : Fits K S H N E) (s : Step K S H S' H') : Fits K S' H' N E :=
  ⟨fun G1 S1 σ1 H1 n t e => f.nx G1 S1 σ1 H1 n (s.trans t) e, fun d S1 v H1 n t r => f.rt d S1 v H1 n (s.trans t) r, fun G1 S1 σ1 H1 n t e => f.bk G1 S1 σ1 H1 n (s.trans t) e, fun G1 S1 σ1 H1 n t e => f.ct G1 S1 σ1 H1 n (s.trans t) e⟩
/-! ### expressions -/
theorem EvG.mono {P' : PD} (h : EvG K te G S P) (k : ∀ d S', P d S' → P' d S') : EvG K te G S P' := fun σ H e Q q => h σ H e Q fun d S' v H' p => q d S' v H' (k d S' p)
theorem g_var {i : Nat} {d : D} (h : G[i]? = some (some d)) (k : P d S) : EvG K (tVar i) G S P := fun σ H e Q q => by
  obtain ⟨v, h1, h2⟩ := e.env.get h
  exact ⟨v, h1, q d S v H k (.refl e.st) h2⟩
theorem g_int {i : Int} (k : P (.int i) S) : EvG K (tC (.int i)) G S P := fun σ H e Q q => q _ S _ H k (.refl e.st) (.int i)
theorem g_str {i : Str} (k : P (.str i) S) : EvG K (tC (.str i)) G S P := fun σ H e Q q => q _ S _ H k (.refl e.st) (.str i)
theorem g_bl {i : Bool} (k : P (.bl i) S) : EvG K (tC (.bl i)) G S P := fun σ H e Q q => q _ S _ H k (.refl e.st) (.bl i)
theorem g_non (k : P .non S) : EvG K (tC .non) G S P := fun σ H e Q q => q _ S _ H k (.refl e.st) .non
theorem g_ty {n : String} (k : P (.ty n) S) : EvG K (tC (.ty n)) G S P := fun σ H e Q q => q _ S _ H k (.refl e.st) (.ty n)
theorem g_ref {a : Addr} (k : P (.ref a) S) : EvG K (tC (.ref a)) G S P := fun σ H e Q q => q _ S _ H k (.refl e.st) (.ref a)
/-- an object of the written part -/
theorem g_kst {v : V} {d : D} (h : ∀ Z H, Rp K Z H v d) (k : P d S) : EvG K (tC v) G S P := fun σ H e Q q => q d S v H k (.refl e.st) (h _ _)
theorem g_op {r : R2} (h : EvG K ta G S fun x S1 => EvG K tb G S1 fun y S2 => OpG K r x y S2 P) : EvG K (tOp r ta tb) G S P := fun σ H e Q q =>
  h σ H e _ fun x S1 vx H1 p1 s1 r1 => p1 σ H1 (e.step s1) _ fun y S2 vy H2 p2 s2 r2 => p2 H2 vx vy s2.st (r1.lift s2.lft) r2 Q fun d S3 v H3 p3 s3 r3 => q d S3 v H3 p3 ((s1.trans s2).trans s3) r3
theorem g_un {r : V → Hp → VK → Prop} (h : EvG K ta G S fun x S1 => UnG K r x S1 P) : EvG K (tUn r ta) G S P := fun σ H e Q q =>
  h σ H e _ fun x S1 vx H1 p1 s1 r1 => p1 H1 vx s1.st r1 Q fun d S3 v H3 p3 s3 r3 => q d S3 v H3 p3 (s1.trans s3) r3
theorem g_and (h : EvG K ta G S fun x S1 => ∃ c, x = .bl c ∧ (c = true → EvG K tb G S1 P) ∧ (c = false → P (.bl false) S1)) : EvG K (tAndV ta tb) G S P := fun σ H e Q q =>
  h σ H e _ fun x S1 vx H1 ⟨c, ex, k1, k2⟩ s1 r1 => by
    subst ex
    refine ⟨c, r1.blV, ?_⟩
    cases c with
    | true => exact (if_pos rfl).symm ▸ k1 rfl σ H1 (e.step s1) Q fun d S3 v H3 p3 s3 r3 => q d S3 v H3 p3 (s1.trans s3) r3
    | false =>
      rw [if_neg Bool.false_ne_true]
      exact q _ S1 _ H1 (k2 rfl) s1 (.bl false)
theorem g_or (h : EvG K ta G S fun x S1 => ∃ c, x = .bl c ∧ (c = true → P (.bl true) S1) ∧ (c = false → EvG K tb G S1 P)) : EvG K (tOrV ta tb) G S P := fun σ H e Q q =>
  h σ H e _ fun x S1 vx H1 ⟨c, ex, k1, k2⟩ s1 r1 => by
    subst ex
    refine ⟨c, r1.blV, ?_⟩
    cases c with
    | true =>
      rw [if_pos rfl]
      exact q _ S1 _ H1 (k1 rfl) s1 (.bl true)
    | false =>
      rw [if_neg Bool.false_ne_true]
      exact k2 rfl σ H1 (e.step s1) Q fun d S3 v H3 p3 s3 r3 => q d S3 v H3 p3 (s1.trans s3) r3
theorem g_not (h : EvG K ta G S fun x S1 => ∃ c, x = .bl c ∧ P (.bl (!c)) S1) : EvG K (tNotV ta) G S P := fun σ H e Q q =>
  h σ H e _ fun x S1 vx H1 ⟨c, ex, k⟩ s1 r1 => by
    subst ex
    exact ⟨c, r1.blV, q _ S1 _ H1 k s1 (.bl _)⟩
theorem g_if (h : EvT K t G S fun c S1 => (c = true → EvG K ta G S1 P) ∧ (c = false → EvG K tb G S1 P)) : EvG K (tIf t ta tb) G S P := fun σ H e Q q =>
  h σ H e _ fun c S1 H1 ⟨k1, k2⟩ s1 => by
    cases c with
    | true =>
      rw [if_pos rfl]
      exact k1 rfl σ H1 (e.step s1) Q fun d S3 v H3 p3 s3 r3 => q d S3 v H3 p3 (s1.trans s3) r3
    | false =>
      rw [if_neg Bool.false_ne_true]
      exact k2 rfl σ H1 (e.step s1) Q fun d S3 v H3 p3 s3 r3 => q d S3 v H3 p3 (s1.trans s3) r3
theorem g_chain {r r' : R2} {tc : TE} (h : EvG K ta G S fun x S1 => EvG K tb G S1 fun y S2 => OpG K r x y S2 fun z S3 => ∃ c, z = .bl c ∧ (c = true → EvG K tc G S3 fun w S4 => OpG K r' y w S4 P) ∧ (c = false → P (.bl false) S3)) :
    EvG K (tChain r r' ta tb tc) G S P := fun σ H e Q q =>
  h σ H e _ fun x S1 vx H1 p1 s1 r1 => p1 σ H1 (e.step s1) _ fun y S2 vy H2 p2 s2 r2 => p2 H2 vx vy s2.st (r1.lift s2.lft) r2 _ fun z S3 vz H3 ⟨c, ez, k1, k2⟩ s3 r3 => by
    subst ez
    refine ⟨c, r3.blV, ?_⟩
    cases c with
    | true =>
      rw [if_pos rfl]
      exact k1 rfl σ H3 (((e.step s1).step s2).step s3) _ fun w S4 vw H4 p4 s4 r4 => p4 H4 vy vw s4.st ((r2.lift s3.lft).lift s4.lft) r4 Q fun d S5 v H5 p5 s5 r5 => q d S5 v H5 p5 ((((s1.trans s2).trans s3).trans s4).trans s5) r5
    | false =>
      rw [if_neg Bool.false_ne_true]
      exact q _ S3 _ H3 (k2 rfl) ((s1.trans s2).trans s3) (.bl false)
/-! arguments -/
theorem a_nil {PA : List D → Store → Prop} (k : PA [] S) : EvA K tNil G S PA := fun σ H e Q q => q [] S [] H k (.refl e.st) .nil
theorem a_cons {tr : TA} {PA : List D → Store → Prop} (h : EvG K ta G S fun x S1 => EvA K tr G S1 fun xs S2 => PA (x :: xs) S2) : EvA K (tCons ta tr) G S PA := fun σ H e Q q =>
  h σ H e _ fun x S1 vx H1 p1 s1 r1 => p1 σ H1 (e.step s1) _ fun xs S2 vs H2 p2 s2 r2 => q (x :: xs) S2 (vx :: vs) H2 p2 (s1.trans s2) (.cons (r1.lift s2.lft) r2)
theorem g_tup {t : TA} (h : EvA K t G S fun xs S1 => xs.length ≤ 100000 ∧ P (.tup xs) S1) : EvG K (tTup t) G S P := fun σ H e Q q =>
  h σ H e _ fun xs S1 vs H1 ⟨hl, p1⟩ s1 r1 => by
    refine ⟨Nat.le_trans (Nat.le_trans (Nat.le_of_eq r1.length) hl) (by decide), fun p hp => ?_⟩
    have s2 : Step K S1 H1 S1 (upd H1 p (.tup vs)) := .new s1.st hp
    exact q _ S1 _ _ p1 (s1.trans s2) (.tup upd_same (s1.st.nodom hp) (r1.lift s2.lft))
/-- a list that is not changed any more -/
theorem g_lst {t : TA} (h : EvA K t G S fun xs S1 => xs.length ≤ 100000 ∧ P (.lst xs) S1) : EvG K (tLst t) G S P := fun σ H e Q q =>
  h σ H e _ fun xs S1 vs H1 ⟨hl, p1⟩ s1 r1 => by
    refine ⟨Nat.le_trans (Nat.le_trans (Nat.le_of_eq r1.length) hl) (by decide), fun p hp => ?_⟩
    have s2 : Step K S1 H1 S1 (upd H1 p (.lst vs)) := .new s1.st hp
    exact q _ S1 _ _ p1 (s1.trans s2) (.lst upd_same (s1.st.nodom hp) (r1.lift s2.lft))
/-- a list that will be changed: a cell -/
theorem g_lstC {t : TA} (h : EvA K t G S fun xs S1 => xs.length ≤ 100000 ∧ ∀ l, ¬ dom S1 l → P (.ref l) ((l, .lst xs) :: S1)) : EvG K (tLst t) G S P := fun σ H e Q q =>
  h σ H e _ fun xs S1 vs H1 ⟨hl, p1⟩ s1 r1 => by
    refine ⟨Nat.le_trans (Nat.le_trans (Nat.le_of_eq r1.length) hl) (by decide), fun p hp => ?_⟩
    have s2 : Step K S1 H1 ((p, .lst xs) :: S1) (upd H1 p (.lst vs)) := .cell s1.st hp ⟨vs, upd_same, r1.lift (Lift.newCell hp)⟩
    exact q _ _ _ _ (p1 p (s1.st.nodom hp)) (s1.trans s2) (.ref p)
theorem g_cb {r : List V → Hp → VK → Prop} {t : TA} (h : EvA K t G S fun xs S1 => CbG K r xs S1 P) : EvG K (tCB r t) G S P := fun σ H e Q q =>
  h σ H e _ fun xs S1 vs H1 p1 s1 r1 => p1 H1 vs s1.st r1 Q fun d S2 v H2 p2 s2 r2 => q d S2 v H2 p2 (s1.trans s2) r2
theorem g_bm {T : String} {r : V → List V → Hp → VK → Prop} {to : TE} {t : TA} (h : EvG K to G S fun x S1 => TyG K T x S1 ∧ EvA K t G S1 fun xs S2 => MtG K T r x xs S2 P) : EvG K (tBM K T r to t) G S P := fun σ H e Q q =>
  h σ H e _ fun x S1 vx H1 ⟨ty, p1⟩ s1 r1 => ⟨ty H1 vx s1.st r1, p1 σ H1 (e.step s1) _ fun xs S2 vs H2 p2 s2 r2 => p2 H2 vx vs s2.st (r1.lift s2.lft) r2 Q fun d S3 v H3 p3 s3 r3 => q d S3 v H3 p3 ((s1.trans s2).trans s3) r3⟩
theorem g_bm0 {T : String} {r : V → List V → Hp → VK → Prop} {to : TE} (h : EvG K to G S fun x S1 => TyG K T x S1 ∧ MtG K T r x [] S1 P) : EvG K (tBM0 K T r to) G S P := fun σ H e Q q =>
  h σ H e _ fun x S1 vx H1 ⟨ty, p1⟩ s1 r1 => ⟨ty H1 vx s1.st r1, p1 H1 vx [] s1.st r1 .nil Q fun d S3 v H3 p3 s3 r3 => q d S3 v H3 p3 (s1.trans s3) r3⟩
/-! ### promises at the level of data -/
abbrev SpG := List D → Store → PD → Prop
def spOf (K : PySem.W.Frag) (g : SpG) : Sp := fun vs H Q _ => ∃ ds S, StOk K S H ∧ RpAll K (dom S) H vs ds ∧ g ds S fun d S' => ∀ v H', Step K S H S' H' → Rp K (dom S') H' v d → Q v H'
theorem g_call {g : SpG} {E : XK} {t : TA} (h : EvA K t G S fun xs S1 => g xs S1 P) (gm : ∀ xs S1 P P', g xs S1 P → (∀ d S', P d S' → P' d S') → g xs S1 P') : EvG K (tCall (spOf K g) [] E t) G S P := fun σ H e Q q =>
  h σ H e _ fun xs S1 vs H1 p1 s1 r1 => by
    show spOf K g (vs ++ []) H1 Q E
    rw [List.append_nil]
    exact ⟨xs, S1, s1.st, r1, gm _ _ _ _ p1 fun d S2 p2 v H2 s2 r2 => q d S2 v H2 p2 (s1.trans s2) r2⟩
/-! ### tests -/
theorem t_test (h : EvG K te G S fun x S1 => ∃ c, x = .bl c ∧ PB c S1) : EvT K (tTest te) G S PB := fun σ H e Q q =>
  h σ H e _ fun x S1 vx H1 ⟨c, ex, k⟩ s1 r1 => by
    subst ex
    exact ⟨c, r1.blV, q c S1 H1 k s1⟩
theorem t_b (h : EvG K te G S fun x S1 => ∃ c, x = .bl c ∧ PB c S1) : EvT K (tB te) G S PB := fun σ H e Q q =>
  h σ H e _ fun x S1 vx H1 ⟨c, ex, k⟩ s1 r1 => by
    subst ex
    exact ⟨c, r1.blV, q c S1 H1 k s1⟩
theorem t_and (h : EvT K t G S fun c S1 => (c = true → EvT K u G S1 PB) ∧ (c = false → PB false S1)) : EvT K (tAnd t u) G S PB := fun σ H e Q q =>
  h σ H e _ fun c S1 H1 ⟨k1, k2⟩ s1 => by
    cases c with
    | true =>
      rw [if_pos rfl]
      exact k1 rfl σ H1 (e.step s1) Q fun b S2 H2 p2 s2 => q b S2 H2 p2 (s1.trans s2)
    | false =>
      rw [if_neg Bool.false_ne_true]
      exact q _ S1 H1 (k2 rfl) s1
theorem t_or (h : EvT K t G S fun c S1 => (c = true → PB true S1) ∧ (c = false → EvT K u G S1 PB)) : EvT K (tOr t u) G S PB := fun σ H e Q q =>
  h σ H e _ fun c S1 H1 ⟨k1, k2⟩ s1 => by
    cases c with
    | true =>
      rw [if_pos rfl]
      exact q _ S1 H1 (k1 rfl) s1
    | false =>
      rw [if_neg Bool.false_ne_true]
      exact k2 rfl σ H1 (e.step s1) Q fun b S2 H2 p2 s2 => q b S2 H2 p2 (s1.trans s2)
theorem t_not (h : EvT K t G S fun c S1 => PB (!c) S1) : EvT K (tNot t) G S PB := fun σ H e Q q => h σ H e _ fun c S1 H1 k s1 => q _ S1 H1 k s1
theorem t_yes {PB : Bool → Store → Prop} (k : PB true S) : EvT K tYes G S PB := fun σ H e Q q => q true S H k (.refl e.st)
/-! ### targets -/
theorem tg_name {i : Nat} {d : D} {PG : Env' → Store → Prop} (k : PG (G.set i (some d)) S) : TgG K (gName i) d G S PG := fun σ H v e r Q q => q _ S _ H k (.refl e.st) (e.set r i)
theorem tg_nil {PG : Env' → Store → Prop} (k : PG G S) : TgsG K gNil [] G S PG := fun σ H vs e r Q q => by
  cases r
  exact ⟨rfl, q _ S _ H k (.refl e.st) e⟩
theorem tg_cons {t : TG} {u : TGs} {d : D} {ds : List D} {PG : Env' → Store → Prop} (h : TgG K t d G S fun G1 S1 => TgsG K u ds G1 S1 PG) : TgsG K (gCons t u) (d :: ds) G S PG := fun σ H vs e r Q q => by
  cases r with
  | cons r1 r2 =>
    refine ⟨_, _, rfl, h σ H _ e r1 _ fun G1 S1 σ1 H1 p1 s1 e1 => p1 σ1 H1 _ e1 (r2.lift s1.lft) Q fun G2 S2 σ2 H2 p2 s2 e2 => q G2 S2 σ2 H2 p2 (s1.trans s2) e2⟩
theorem tg_tup {n : Nat} {t : TGs} {ds : List D} {PG : Env' → Store → Prop} (hl : ds.length = n) (h : TgsG K t ds G S PG) : TgG K (gTup K n t) (.tup ds) G S PG := fun σ H v e r Q q => by
  obtain ⟨a, xs, ev, hs, ra⟩ := r.tupV
  exact ⟨a, xs, ev, hs, ra.length.trans hl, h σ H xs e ra Q q⟩
/-! ### statements -/
theorem x_seq {t u : TS} (h : ExG K t G S (N.nxt fun G' S' => ExG K u G' S' N)) : ExG K (tSeq t u) G S N := fun σ H E e f =>
  h σ H { E with nx := u E } e ⟨fun G' S' σ' H' n s e' => n σ' H' E e' (f.step s), f.rt, f.bk, f.ct⟩
theorem x_next (h : N.nx G S) : ExG K tNext G S N := fun σ H E e f => f.nx G S σ H h (.refl e.st) e
theorem x_break (h : N.bk G S) : ExG K tBreak G S N := fun σ H E e f => f.bk G S σ H h (.refl e.st) e
theorem x_cont (h : N.ct G S) : ExG K tCont G S N := fun σ H E e f => f.ct G S σ H h (.refl e.st) e
theorem x_drop (h : EvG K te G S fun _ S' => N.nx G S') : ExG K (tDrop te) G S N := fun σ H E e f => h σ H e _ fun d S' v H' p s r => f.nx G S' σ H' p s (e.step s)
theorem x_ret (h : EvG K te G S N.rt) : ExG K (tRet te) G S N := fun σ H E e f => h σ H e _ fun d S' v H' p s r => f.rt d S' v H' p s r
theorem x_retN (h : N.rt .non S) : ExG K tRetN G S N := fun σ H E e f => f.rt .non S .non H h (.refl e.st) .non
theorem x_if {a b : TS} (h : EvT K t G S fun c S1 => (c = true → ExG K a G S1 N) ∧ (c = false → ExG K b G S1 N)) : ExG K (tIfS t a b) G S N := fun σ H E e f =>
  h σ H e _ fun c S1 H1 ⟨k1, k2⟩ s1 => by
    cases c with
    | true =>
      rw [if_pos rfl]
      exact k1 rfl σ H1 E (e.step s1) (f.step s1)
    | false =>
      rw [if_neg Bool.false_ne_true]
      exact k2 rfl σ H1 E (e.step s1) (f.step s1)
theorem x_asg {g : TG} (h : EvG K te G S fun d S1 => TgG K g d G S1 N.nx) : ExG K (tAsg te g) G S N := fun σ H E e f =>
  h σ H e _ fun d S1 v H1 p s r => p σ H1 v (e.step s) r E.nx fun G' S' σ' H' n s' e' => f.nx G' S' σ' H' n (s.trans s') e'
theorem x_set {i : Nat} (h : EvG K te G S fun d S1 => N.nx (G.set i (some d)) S1) : ExG K (tAsg te (gName i)) G S N := fun σ H E e f =>
  h σ H e _ fun d S1 v H1 p s r => f.nx _ S1 _ H1 p s ((e.step s).set r i)
theorem x_never (h : False) : ExG K tNever G S N := h.elim
theorem x_par {i j : Nat} {t : TA} (h : EvA K t G S fun ds S1 => ∃ x y, ds = [x, y] ∧ N.nx ((G.set i (some x)).set j (some y)) S1) : ExG K (tPar i j t) G S N := fun σ H E e f =>
  h σ H e _ fun ds S1 vs H1 ⟨x, y, ed, p⟩ s r => by
    subst ed
    cases r with
    | cons r1 r2 =>
      cases r2 with
      | cons r2 r3 =>
        cases r3
        exact ⟨_, _, rfl, f.nx _ S1 _ H1 p s (((e.step s).set r1 i).set r2 j)⟩
theorem x_aug {i : Nat} {fn : Int → Int → Int} {a : Int} (hx : G[i]? = some (some (.int a))) (h : EvG K te G S fun y S1 => ∃ b, y = .int b ∧ N.nx (G.set i (some (.int (fn a b)))) S1) : ExG K (tAug i te (ipI fn)) G S N := fun σ H E e f => by
  obtain ⟨v, h1, h2⟩ := e.env.get hx
  refine ⟨v, h1, h σ H e _ fun y S1 vy H1 ⟨b, ey, p⟩ s r => ?_⟩
  subst ey
  exact ⟨a, b, h2.intV, r.intV, f.nx _ S1 _ H1 p s ((e.step s).set (.int _) i)⟩
/-- the list in slot i is not changed any more -/
def dropC (S : Store) (l : Addr) : Store := S.filter fun p => decide (p.1 ≠ l)
theorem dropC_dom {l : Addr} : ¬ dom (dropC S l) l := fun h => by
  obtain ⟨p, hp, e⟩ := List.mem_map.mp h
  have := (List.mem_filter.mp hp).2
  exact (of_decide_eq_true this) e
theorem dropC_sub {l : Addr} {a : Addr} (h : dom (dropC S l) a) : dom S a := by
  obtain ⟨p, hp, e⟩ := List.mem_map.mp h
  exact List.mem_map.mpr ⟨p, (List.mem_filter.mp hp).1, e⟩
theorem StOk.drop (h : StOk K S H) (l : Addr) : StOk K (dropC S l) H := h.sub (fun p hp => (List.mem_filter.mp hp).1) (List.Nodup.sublist (List.Sublist.map _ List.filter_sublist) h.nd)
theorem Step.drop (h : StOk K S H) (l : Addr) : Step K S H (dropC S l) H := ⟨fun _ _ _ e => e, h.drop l, fun a d => .inl (dropC_sub d)⟩
theorem x_freeze {ts : TS} {i : Nat} {l : Addr} {ds : List D} (hi : G[i]? = some (some (.ref l))) (hl : S.lookup l = some (.lst ds)) (h : ExG K ts (G.set i (some (.lst ds))) (dropC S l) N) : ExG K ts G S N := fun σ H E e f => by
  have s : Step K S H (dropC S l) H := .drop e.st l
  obtain ⟨v, h1, h2⟩ := e.env.get hi
  have hv := h2.refV
  subst hv
  obtain ⟨xs, hx, hr⟩ := e.st.ok l _ (lookup_mem hl)
  have r : Rp K (dom (dropC S l)) H (.ref l) (.lst ds) := .lst hx dropC_dom (hr.lift s.lft)
  have hse : σ.set i (some (.ref l)) = σ := by
    have hi2 := (List.getElem?_eq_some_iff.mp h1)
    obtain ⟨hlt, he⟩ := hi2
    apply List.ext_getElem?
    intro j
    by_cases hj : i = j
    · subst hj
      rw [List.getElem?_set_self hlt, h1]
    · rw [List.getElem?_set_ne hj]
  have e2 := (e.step s).set r i
  rw [hse] at e2
  exact h σ H E e2 (f.step s)
/-- a cell is forgotten -/
theorem x_forget {ts : TS} (l : Addr) (h : ExG K ts G (dropC S l) N) : ExG K ts G S N := fun σ H E e f => h σ H E (e.step (.drop e.st l)) (f.step (.drop e.st l))
theorem x_while {tc : TT} {tb : TS} (W : Nat → Env' → Store → Prop) (m0 : Nat) (h0 : W m0 G S)
    (hs : ∀ m G' S', W m G' S' → EvT K tc G' S' fun b S1 => (b = true → ExG K tb G' S1 (N.loop fun G2 S2 => ∃ m', m' < m ∧ W m' G2 S2)) ∧ (b = false → N.nx G' S1)) : ExG K (tWhile tc tb) G S N := fun σ H E e f => by
  refine ⟨fun m σ' H' => ∃ G' S', W m G' S' ∧ Step K S H S' H' ∧ EnvOk K S' H' σ' G', ⟨m0, G, S, h0, .refl e.st, e⟩, ?_⟩
  rintro m σ' H' ⟨G', S', w, s, e'⟩
  refine hs m G' S' w σ' H' e' _ fun b S1 H1 ⟨k1, k2⟩ s1 => ?_
  cases b with
  | true =>
    rw [if_pos rfl]
    refine ⟨fun σ2 H2 => ∃ G2 S2, (∃ m', m' < m ∧ W m' G2 S2) ∧ Step K S H S2 H2 ∧ EnvOk K S2 H2 σ2 G2, ?_, ?_⟩
    · rintro σ2 H2 ⟨G2, S2, ⟨m', hm, w2⟩, s2, e2⟩
      exact ⟨m', hm, G2, S2, w2, s2, e2⟩
    · refine k1 rfl σ' H1 _ (e'.step s1) ⟨fun G2 S2 σ2 H2 n s2 e2 => ⟨G2, S2, n, (s.trans s1).trans s2, e2⟩, ?_, ?_, fun G2 S2 σ2 H2 n s2 e2 => ⟨G2, S2, n, (s.trans s1).trans s2, e2⟩⟩
      · exact fun d S2 v H2 n s2 r2 => f.rt d S2 v H2 n ((s.trans s1).trans s2) r2
      · exact fun G2 S2 σ2 H2 n s2 e2 => f.nx G2 S2 σ2 H2 n ((s.trans s1).trans s2) e2
  | false =>
    rw [if_neg Bool.false_ne_true]
    exact f.nx _ S1 _ H1 (k2 rfl) (s.trans s1) (e'.step s1)
end
/-! ### walks -/
def ItR (K : PySem.W.Frag) (J : It) (its : List D) (Z : Addr → Prop) (H : Hp) : Prop :=
  ∀ H1 (Z1 : Addr → Prop), Lift Z H Z1 H1 → (∀ a, Z1 a → H1 a ≠ none) →
    (∀ i d, its[i]? = some d → J.go i H1 ∧ ∀ x H2, J.yld i H1 x H2 → (∀ a o, H1 a = some o → H2 a = some o) ∧ Rp K Z1 H2 x d) ∧ J.stop its.length H1
def IG (K : PySem.W.Frag) (wi : TI) (G : Env') (S : Store) (R : List D → Store → Prop) : Prop := ∀ σ H, EnvOk K S H σ G → ∀ R' : It → Hp → Prop, (∀ its S' J H', R its S' → Step K S H S' H' → ItR K J its (dom S') H' → R' J H') → wi σ H R'
section
variable {K : PySem.W.Frag} {S S' S1 S2 : Store} {H H' H1 H2 : Hp} {σ σ' : L2.St} {G G' : Env'} {ta tb te : TE} {P : PD} {t u : TT} {N : EndsD} {E : Ends} {R : List D → Store → Prop}
theorem StOk.ext (h : StOk K S H) (k : ∀ a o, H a = some o → H' a = some o) : StOk K S H' :=
  ⟨h.nd, fun a c m => by
    have q := h.ok a c m
    refine q.lift ⟨fun b u _ e => k b u e, fun _ d => .inl d⟩ ?_
    cases e : H a with
    | none => exact absurd e (h.there (List.mem_map.mpr ⟨_, m, rfl⟩))
    | some o => exact k a o e⟩
theorem Step.ext (h : StOk K S H) (k : ∀ a o, H a = some o → H' a = some o) : Step K S H S H' := ⟨fun a o _ e => k a o e, h.ext k, fun _ d => .inl d⟩
theorem x_for {wi : TI} {g : TG} {tb : TS} (h : IG K wi G S fun its S1 => ∃ W : Nat → Env' → Store → Prop, W 0 G S1 ∧
      (∀ i d G' S', its[i]? = some d → W i G' S' → TgG K g d G' S' fun G2 S2 => ExG K tb G2 S2 (N.loop (W (i + 1)))) ∧ ∀ G' S', W its.length G' S' → N.nx G' S') : ExG K (tFor wi g tb) G S N := fun σ H E e f => by
  refine h σ H e _ fun its S1 J H1 ⟨W, w0, hs, hd⟩ s1 ir => ?_
  refine ⟨fun i m σ' H' => m = its.length - i ∧ i ≤ its.length ∧ ∃ G' S', W i G' S' ∧ Step K S1 H1 S' H' ∧ EnvOk K S' H' σ' G', ⟨its.length, by simp, Nat.zero_le _, G, S1, w0, .refl s1.st, e.step s1⟩, ?_⟩
  rintro i m σ' H' ⟨rfl, hi, G', S', w, s2, e2⟩
  obtain ⟨hgo, hstop⟩ := ir H' (dom S') s2.lft (fun a d => s2.st.there d)
  by_cases hlt : i < its.length
  · obtain ⟨g1, g2⟩ := hgo i its[i] (List.getElem?_eq_getElem hlt)
    refine .inr ⟨g1, fun σ3 H3 => ∃ G3 S3, W (i + 1) G3 S3 ∧ Step K S1 H1 S3 H3 ∧ EnvOk K S3 H3 σ3 G3, ?_, ?_⟩
    · rintro σ3 H3 ⟨G3, S3, w3, s3, e3⟩
      exact ⟨its.length - (i + 1), by omega, rfl, hlt, G3, S3, w3, s3, e3⟩
    · intro x H3 hy
      obtain ⟨k3, r3⟩ := g2 x H3 hy
      have s3 : Step K S' H' S' H3 := .ext s2.st k3
      refine hs i _ G' S' (List.getElem?_eq_getElem hlt) w σ' H3 x (e2.step s3) r3 _ fun G4 S4 σ4 H4 p4 s4 e4 => ?_
      have st := (s2.trans s3).trans s4
      refine p4 σ4 H4 _ e4 ⟨fun G5 S5 σ5 H5 n s5 e5 => ⟨G5, S5, n, st.trans s5, e5⟩, fun d S5 v H5 n s5 r5 => f.rt d S5 v H5 n ((s1.trans st).trans s5) r5, fun G5 S5 σ5 H5 n s5 e5 => f.nx G5 S5 σ5 H5 n ((s1.trans st).trans s5) e5, fun G5 S5 σ5 H5 n s5 e5 => ⟨G5, S5, n, st.trans s5, e5⟩⟩
  · have ei : i = its.length := by omega
    subst ei
    exact .inl ⟨hstop, f.nx _ _ _ _ (hd G' S' w) (s1.trans s2) e2⟩
/-- the target stores in the slots vs alone -/
def WipeOk (g : TG) (vs : List Nat) : Prop := ∀ v σ H (Q Q' : L2.St → Hp → Prop), (∀ σ2 H2, L2.wipe σ2 vs = L2.wipe σ vs → Q σ2 H2 → Q' σ2 H2) → g v σ H Q → g v σ H Q'
def WipesOk (g : TGs) (vs : List Nat) : Prop := ∀ v σ H (Q Q' : L2.St → Hp → Prop), (∀ σ2 H2, L2.wipe σ2 vs = L2.wipe σ vs → Q σ2 H2 → Q' σ2 H2) → g v σ H Q → g v σ H Q'
theorem wo_name {i : Nat} {vs : List Nat} (h : i ∈ vs) : WipeOk (gName i) vs := fun v σ H Q Q' k q => k _ _ (wipe_set h) q
theorem wo_nil {vs : List Nat} : WipesOk gNil vs := fun v σ H Q Q' k q => ⟨q.1, k _ _ rfl q.2⟩
theorem wo_cons {g : TG} {u : TGs} {vs : List Nat} (h1 : WipeOk g vs) (h2 : WipesOk u vs) : WipesOk (gCons g u) vs := fun v σ H Q Q' k ⟨x, r, e, q⟩ =>
  ⟨x, r, e, h1 x σ H _ _ (fun σ2 H2 e2 q2 => h2 r σ2 H2 Q Q' (fun σ3 H3 e3 q3 => k σ3 H3 (e3.trans e2) q3) q2) q⟩
theorem wo_tup {n : Nat} {t : TGs} {vs : List Nat} (h : WipesOk t vs) : WipeOk (gTup K n t) vs := fun v σ H Q Q' k ⟨a, xs, e, hs, hl, q⟩ => ⟨a, xs, e, hs, hl, h xs σ H Q Q' k q⟩
theorem lc_core' {wi : TI} {g : TG} {tt : TT} {te : TE} {vs : List Nat} (wo : WipeOk g vs)
    (h : IG K wi G S fun its S1 => its.length ≤ 100000 ∧ ∃ W : Nat → List D → Store → Prop, W 0 [] S1 ∧
      (∀ i d ds S' l, its[i]? = some d → W i ds S' → ¬ dom S' l → TgG K g d (wipeG G vs) ((l, .lst ds) :: S') fun G2 S2 => EvT K tt G2 S2 fun b S3 =>
        (b = true → EvG K te G2 S3 fun y S4 => ∃ S5, S4 = (l, .lst ds) :: S5 ∧ W (i + 1) (ds ++ [y]) S5) ∧ (b = false → ∃ S5, S3 = (l, .lst ds) :: S5 ∧ W (i + 1) ds S5)) ∧
      ∀ ds S' l, W its.length ds S' → ¬ dom S' l → P (.lst ds) S' ∨ P (.ref l) ((l, .lst ds) :: S')) : EvG K (tLc wi g tt te vs) G S P := fun σ H e Q q => by
  refine h σ H e _ fun its S1 J H1 ⟨hlen, W, w0, hs, hd⟩ s1 ir => fun l hD => ?_
  refine ⟨fun i m H' => m = its.length - i ∧ i ≤ its.length ∧ ∃ ds S', W i ds S' ∧ ds.length ≤ i ∧ Step K S1 H1 ((l, .lst ds) :: S') H', ⟨its.length, by simp, Nat.zero_le _, [], S1, w0, Nat.le_refl _, .cell s1.st hD ⟨[], upd_same, .nil⟩⟩, ?_⟩
  rintro i m H' ⟨rfl, hi, ds, S', w, hdl, s2⟩
  have nD : ¬ dom S' l := (List.nodup_cons.mp s2.st.nd).1
  obtain ⟨hgo, hstop⟩ := ir H' (dom ((l, .lst ds) :: S')) s2.lft (fun a d => s2.st.there d)
  by_cases hlt : i < its.length
  · obtain ⟨g1, g2⟩ := hgo i its[i] (List.getElem?_eq_getElem hlt)
    refine .inr ⟨g1, fun H3 => ∃ ds3 S3, W (i + 1) ds3 S3 ∧ ds3.length ≤ i + 1 ∧ Step K S1 H1 ((l, .lst ds3) :: S3) H3, ?_, ?_⟩
    · rintro H3 ⟨ds3, S3, w3, l3, s3⟩
      exact ⟨its.length - (i + 1), by omega, rfl, hlt, ds3, S3, w3, l3, s3⟩
    · intro x H3 hy
      obtain ⟨k3, r3⟩ := g2 x H3 hy
      have s3 : Step K ((l, .lst ds) :: S') H' ((l, .lst ds) :: S') H3 := .ext s2.st k3
      have st3 := s2.trans s3
      have e3 : EnvOk K ((l, .lst ds) :: S') H3 (L2.wipe σ vs) (wipeG G vs) := ⟨s3.st, ((e.step s1).step st3).env.wipe vs⟩
      have tg := hs i _ ds S' l (List.getElem?_eq_getElem hlt) w nD (L2.wipe σ vs) H3 x e3 r3
      refine wo x (L2.wipe σ vs) H3 _ _ (fun σ2 H2 ew ⟨G2, S2, e2, st2, p2⟩ => ?_) (tg (fun σ2 H2 => ∃ G2 S2, EnvOk K S2 H2 σ2 G2 ∧ Step K ((l, .lst ds) :: S') H3 S2 H2 ∧ EvT K tt G2 S2 fun b S3 =>
        (b = true → EvG K te G2 S3 fun y S4 => ∃ S5, S4 = (l, .lst ds) :: S5 ∧ W (i + 1) (ds ++ [y]) S5) ∧ (b = false → ∃ S5, S3 = (l, .lst ds) :: S5 ∧ W (i + 1) ds S5)) fun G2 S2 σ2 H2 p s e => ⟨G2, S2, e, s, p⟩)
      rw [wipe_wipe] at ew
      refine ⟨ew, p2 σ2 H2 e2 _ fun b S4 H4 ⟨k1, k2⟩ s4 => ?_⟩
      have st4 := (st3.trans st2).trans s4
      cases b with
      | true =>
        rw [if_pos rfl]
        refine k1 rfl σ2 H4 (e2.step s4) _ fun y S5 vy H5 ⟨S6, es, w6⟩ s5 r5 => ?_
        subst es
        have st5 := st4.trans s5
        obtain ⟨acc, ha, ra⟩ := st5.st.ok l (.lst ds) List.mem_cons_self
        have nD6 : ¬ dom S6 l := (List.nodup_cons.mp st5.st.nd).1
        have lk : List.lookup l ((l, Cell.lst ds) :: S6) = some (.lst ds) := by rw [List.lookup_cons]; simp
        have hal : acc.length ≤ i := by rw [ra.length]; exact hdl
        refine ⟨acc, ha, Nat.lt_of_le_of_lt (Nat.le_trans hal (Nat.le_trans hi hlen)) (by decide), ds ++ [y], S6, w6, by simp; exact hdl, ?_⟩
        have sp : Step K ((l, .lst ds) :: S6) H5 (setC ((l, .lst ds) :: S6) l (.lst (ds ++ [y]))) (upd H5 l (.lst (acc ++ [vy]))) :=
          .put st5.st lk ⟨acc ++ [vy], upd_same, (ra.append (.one r5)).lift (Lift.put lk)⟩
        have es : setC ((l, Cell.lst ds) :: S6) l (.lst (ds ++ [y])) = (l, .lst (ds ++ [y])) :: S6 := by
          unfold setC
          rw [List.map_cons, if_pos rfl]
          congr 1
          have : ∀ p ∈ S6, (if p.1 = l then (l, Cell.lst (ds ++ [y])) else p) = p := fun p hp => if_neg fun z => nD6 (List.mem_map.mpr ⟨p, hp, z⟩)
          rw [List.map_congr_left this, List.map_id']
        rw [es] at sp
        exact st5.trans sp
      | false =>
        rw [if_neg Bool.false_ne_true]
        obtain ⟨S6, es, w6⟩ := k2 rfl
        subst es
        exact ⟨ds, S6, w6, Nat.le_succ_of_le hdl, st4⟩
  · have ei : i = its.length := by omega
    subst ei
    refine .inl ⟨hstop, ?_⟩
    rcases hd ds S' l w nD with p | p
    · obtain ⟨xs, hx, rx⟩ := s2.st.ok l (.lst ds) List.mem_cons_self
      have sd : Step K ((l, Cell.lst ds) :: S') H' S' H' := ⟨fun _ _ _ e => e, s2.st.sub (fun p hp => List.mem_cons_of_mem _ hp) (List.nodup_cons.mp s2.st.nd).2, fun a d => .inl (List.mem_cons_of_mem _ d)⟩
      exact q _ _ _ _ p ((s1.trans s2).trans sd) (.lst hx nD (rx.lift sd.lft))
    · exact q _ _ _ _ p (s1.trans s2) (.ref l)
/-- a comprehension whose list is not changed any more -/
theorem g_lc {wi : TI} {g : TG} {tt : TT} {te : TE} {vs : List Nat} (wo : WipeOk g vs)
    (h : IG K wi G S fun its S1 => its.length ≤ 100000 ∧ ∃ W : Nat → List D → Store → Prop, W 0 [] S1 ∧
      (∀ i d ds S' l, its[i]? = some d → W i ds S' → ¬ dom S' l → TgG K g d (wipeG G vs) ((l, .lst ds) :: S') fun G2 S2 => EvT K tt G2 S2 fun b S3 =>
        (b = true → EvG K te G2 S3 fun y S4 => ∃ S5, S4 = (l, .lst ds) :: S5 ∧ W (i + 1) (ds ++ [y]) S5) ∧ (b = false → ∃ S5, S3 = (l, .lst ds) :: S5 ∧ W (i + 1) ds S5)) ∧
      ∀ ds S', W its.length ds S' → P (.lst ds) S') : EvG K (tLc wi g tt te vs) G S P :=
  lc_core' wo fun σ H e R' q => h σ H e R' fun its S' J H' ⟨hl, W, w0, hs, hd⟩ s i => q its S' J H' ⟨hl, W, w0, hs, fun ds S' l w _ => .inl (hd ds S' w)⟩ s i
/-- one whose list is a cell -/
theorem g_lcC {wi : TI} {g : TG} {tt : TT} {te : TE} {vs : List Nat} (wo : WipeOk g vs)
    (h : IG K wi G S fun its S1 => its.length ≤ 100000 ∧ ∃ W : Nat → List D → Store → Prop, W 0 [] S1 ∧
      (∀ i d ds S' l, its[i]? = some d → W i ds S' → ¬ dom S' l → TgG K g d (wipeG G vs) ((l, .lst ds) :: S') fun G2 S2 => EvT K tt G2 S2 fun b S3 =>
        (b = true → EvG K te G2 S3 fun y S4 => ∃ S5, S4 = (l, .lst ds) :: S5 ∧ W (i + 1) (ds ++ [y]) S5) ∧ (b = false → ∃ S5, S3 = (l, .lst ds) :: S5 ∧ W (i + 1) ds S5)) ∧
      ∀ ds S' l, W its.length ds S' → ¬ dom S' l → P (.ref l) ((l, .lst ds) :: S')) : EvG K (tLc wi g tt te vs) G S P :=
  lc_core' wo fun σ H e R' q => h σ H e R' fun its S' J H' ⟨hl, W, w0, hs, hd⟩ s i => q its S' J H' ⟨hl, W, w0, hs, fun ds S' l w n => .inr (hd ds S' l w n)⟩ s i
/-- a comprehension without tests whose element is worth f of the item, the cells as they were -/
theorem g_map {wi : TI} {g : TG} {te : TE} {vs : List Nat} {f : Nat → D → D} (wo : WipeOk g vs)
    (h : IG K wi G S fun its S1 => its.length ≤ 100000 ∧
      (∀ i d ds l, its[i]? = some d → ¬ dom S1 l → TgG K g d (wipeG G vs) ((l, .lst ds) :: S1) fun G2 S2 => EvG K te G2 S2 fun y S4 => y = f i d ∧ S4 = (l, .lst ds) :: S1) ∧
      P (.lst (its.mapIdx f)) S1) : EvG K (tLc wi g tYes te vs) G S P :=
  g_lc wo fun σ H e R' q => h σ H e R' fun its S1 J H' ⟨hl, hs, hd⟩ s ir => q its S1 J H' ⟨hl, fun i ds S' => ds = (its.take i).mapIdx f ∧ S' = S1, ⟨by simp, rfl⟩,
    (fun i d ds S' l hi ⟨e1, e2⟩ nd => by
      subst e2
      intro σ1 H1 v1 e1' r1 Q1 q1
      refine hs i d ds l hi nd σ1 H1 v1 e1' r1 Q1 fun G2 S2 σ2 H2 p2 s2 e2 => q1 G2 S2 σ2 H2 (t_yes ⟨fun _ => p2.mono fun y S4 ⟨ey, e4⟩ => ⟨_, e4, ?_, rfl⟩, fun z => by cases z⟩) s2 e2
      rw [List.take_add_one, hi, ey, e1]
      simp [List.mapIdx_append]
      have hlt := (List.getElem?_eq_some_iff.mp hi).1
      rw [Nat.min_eq_left (Nat.le_of_lt hlt)]),
    fun ds S' ⟨e1, e2⟩ => by
      subst e2
      rw [List.take_length] at e1
      rw [e1]
      exact hd⟩ s ir
end
end RS

set_option Elab.async false
set_option linter.all false
set_option maxRecDepth 100000
set_option maxHeartbeats 4000000
/-! Operators, calls and walks of the data layer. -/
namespace RS
open PySem PySem.Spec PyProof.Rows L2
/-! ### unions of the hand layer's rules -/
def rOr (a b : R2) : R2 := fun x y H Q => a x y H Q ∨ b x y H Q
def cOr (a b : List V → Hp → VK → Prop) : List V → Hp → VK → Prop := fun xs H Q => a xs H Q ∨ b xs H Q
section
variable {X : Cx}
theorem op_or' {f : Value → Value → Sem Value} {a b : R2} (h1 : OpR X f a) (h2 : OpR X f b) : OpR X f (rOr a b) := fun pins s σ H x y u v Q I rx ry h => h.elim (h1 pins s σ H x y u v Q I rx ry) (h2 pins s σ H x y u v Q I rx ry)
theorem call_or {f : Value} {a b : List V → Hp → VK → Prop} (h1 : CallR X f a) (h2 : CallR X f b) : CallR X f (cOr a b) := fun pins s σ H xs us Q I r h => h.elim (h1 pins s σ H xs us Q I r) (h2 pins s σ H xs us Q I r)
theorem ix_or {a b : R2} (h1 : IxR X a) (h2 : IxR X b) : IxR X (rOr a b) := fun value slice pins s σ H x y u v Q I rx ry h hs => h.elim (fun h => h1 value slice pins s σ H x y u v Q I rx ry h hs) (fun h => h2 value slice pins s σ H x y u v Q I rx ry h hs)
end
abbrev rI_add : R2 := rI0 fun i j => .int (i + j)
abbrev rS_add : R2 := fun x y H Q => ∃ i j, x = .str i ∧ y = .str j ∧ i.length + j.length ≤ sizeLine ∧ Q (.str (i ++ j)) H
def rAddU (K : PySem.W.Frag) : R2 := rOr rI_add (rOr rS_add (rOr rCat (rCatT K)))
def rMulU : R2 := rOr (rI CMul fun i j => .int (i * j)) (rOr (rI CMulW fun i j => .int (i * j)) rRep)
def rDivU : R2 := rOr (rI CDiv fun i j => .int (i / j)) (rI CDivW fun i j => .int (i / j))
def rModU : R2 := rI (fun _ j => 0 < j) fun i j => .int (i % j)
def rEqU (K : PySem.W.Frag) : R2 := rOr rEq (rEqD K)
def rNeU (K : PySem.W.Frag) : R2 := rOr rNe (rNeD K)
def rIxU (K : PySem.W.Frag) : R2 := rOr (rIxL K) (rOr (rIxT K) rIxS)
def rLtU : R2 := rI0 fun i j => .bl (decide (i < j))
def rLeU : R2 := rI0 fun i j => .bl (decide (i ≤ j))
def rGtU : R2 := rI0 fun i j => .bl (decide (j < i))
def rGeU : R2 := rI0 fun i j => .bl (decide (j ≤ i))
def rSubU : R2 := rI0 fun i j => .int (i - j)
def rPowU : R2 := rI CPow fun i j => .int (i ^ j.toNat)
section
variable {X : Cx}
theorem op_addU : OpR X (binaryOp .Add) (rAddU X.K) := op_or' op_add (op_or' op_add_str (op_or' op_cat op_catT))
theorem op_mulU : OpR X (binaryOp .Mult) rMulU := op_or' op_mul (op_or' op_mulW op_rep)
theorem op_divU : OpR X (binaryOp .FloorDiv) rDivU := op_or' op_fdiv op_fdivW
theorem op_modU : OpR X (binaryOp .Mod) rModU := op_mod
theorem op_subU : OpR X (binaryOp .Sub) rSubU := op_sub
theorem op_powU : OpR X (binaryOp .Pow) rPowU := op_pow
theorem op_eqU (hu : X.A.units + 64 < cLine) : OpR X (compareOp .Eq) (rEqU X.K) := op_or' op_eq (op_eqD hu)
theorem op_neU (hu : X.A.units + 64 < cLine) : OpR X (compareOp .NotEq) (rNeU X.K) := op_or' op_ne (op_neD hu)
theorem op_ltU : OpR X (compareOp .Lt) rLtU := op_lt
theorem op_leU : OpR X (compareOp .LtE) rLeU := op_le
theorem op_gtU : OpR X (compareOp .Gt) rGtU := op_gt
theorem op_geU : OpR X (compareOp .GtE) rGeU := op_ge
theorem ix_U : IxR X (rIxU X.K) := ix_or ix_list (ix_or ix_tup ix_str)
end
def cLen (K : PySem.W.Frag) : List V → Hp → VK → Prop := fun xs H Q => ∃ x n, xs = [x] ∧ LenV K x H n ∧ Q (.int n) H
def cAbs : List V → Hp → VK → Prop := fun xs H Q => ∃ i, xs = [.int i] ∧ Q (.int (if i < 0 then -i else i)) H
def cMax2 : List V → Hp → VK → Prop := fun xs H Q => ∃ i j, xs = [.int i, .int j] ∧ Q (.int (if j > i then j else i)) H
def cMin2 : List V → Hp → VK → Prop := fun xs H Q => ∃ i j, xs = [.int i, .int j] ∧ Q (.int (if j < i then j else i)) H
def cMax (K : PySem.W.Frag) := cOr cMax2 (rMax K)
def cMin (K : PySem.W.Frag) := cOr cMin2 (rMin K)
def cInt : List V → Hp → VK → Prop := fun xs H Q => (∃ i, xs = [.int i] ∧ Q (.int i) H) ∨ ∃ k, xs = [.bl k] ∧ Q (.int (if k then 1 else 0)) H
def cList (K : PySem.W.Frag) : List V → Hp → VK → Prop := fun xs H Q => ∃ p ys, xs = [.ref p] ∧ (SqL K H p ys ∨ SqT K H p ys) ∧ ∀ l, H l = none → Q (.ref l) (upd H l (.lst ys))
def cTuple (K : PySem.W.Frag) : List V → Hp → VK → Prop := fun xs H Q => ∃ p ys, xs = [.ref p] ∧ ((SqL K H p ys ∧ ∀ l, H l = none → Q (.ref l) (upd H l (.tup ys))) ∨ (SqT K H p ys ∧ Q (.ref p) H))
section
variable {X : Cx}
theorem cr_len : CallR X (.builtin "len") (cLen X.K) := call_len
theorem cr_abs : CallR X (.builtin "abs") cAbs := call_abs
theorem cr_maxU (hc : X.calm = true) : CallR X (.builtin "max") (cMax X.K) := call_or (call_max2 hc) (cr_max hc)
theorem cr_minU (hc : X.calm = true) : CallR X (.builtin "min") (cMin X.K) := call_or (call_min2 hc) (cr_min hc)
theorem cr_int : CallR X (.type "int") cInt := call_int1
theorem cr_list : CallR X (.type "list") (cList X.K) := call_list_of
theorem cr_tuple : CallR X (.type "tuple") (cTuple X.K) := call_tuple_of
end
/-! ### walks -/
def iSeq (K : PySem.W.Frag) (tl : TE) : TI := fun σ H R => tl σ H fun x H1 => ∃ a, x = .ref a ∧ (((∃ xs, SqL K H1 a xs) ∧ R (Itl K a) H1) ∨ ((∃ xs, SqT K H1 a xs) ∧ R (Itt K a) H1))
theorem pi_seq {X : Cx} {tg l : Expr} {tl : TE} (hl : PE X l tl) : PI X tg l (iSeq X.K tl) := by
  refine ⟨fun pins s σ H R I h => ?_⟩
  refine thn (hl.run pins s σ H _ I h) fun v s1 ⟨x, H1, I1, r1, q1⟩ => ?_
  obtain ⟨a, e, q1⟩ := q1
  subst e
  cases r1
  rcases q1 with ⟨⟨xs, hq⟩, q⟩ | ⟨⟨xs, hq⟩, q⟩
  · obtain ⟨its, rv, p, hz⟩ := I1.list hq
    refine wpAny_pyIter_list p.isList ?_
    refine ⟨s1.heap.objs.size, [s1.heap.objs.size], _, _, H1, rfl, I1.kept (t' := s1.toks) fun b o e => Heap.get?_push_of_some _ e, turn_list a _, ⟨_, Heap.get?_push_size _ rfl, rfl, rfl⟩, fun b hb => ?_, q⟩
    have e : b = s1.heap.objs.size := by simpa using hb
    subst e
    exact I1.fpOk (Nat.le_refl _) (I1.hok.fresh (Nat.le_refl _))
  · obtain ⟨its, rv, p, hz⟩ := I1.tuple hq
    refine wpAny_pyIter_tuple (show s1.heap.IsTuple a its.toArray from p) ?_
    refine ⟨s1.heap.objs.size, [s1.heap.objs.size], _, _, H1, rfl, I1.kept (t' := s1.toks) fun b o e => Heap.get?_push_of_some _ e, turn_tuple a _, ⟨_, Heap.get?_push_size _ rfl, rfl, rfl⟩, fun b hb => ?_, q⟩
    have e : b = s1.heap.objs.size := by simpa using hb
    subst e
    exact I1.fpOk (Nat.le_refl _) (I1.hok.fresh (Nat.le_refl _))
def rangeD (lo : Int) (n : Nat) : List D := (List.range n).map fun (k : Nat) => D.int (lo + (k : Int))
theorem rangeD_len (lo : Int) (n : Nat) : (rangeD lo n).length = n := by simp [rangeD]
theorem rangeD_get {lo : Int} {n i : Nat} {d : D} (h : (rangeD lo n)[i]? = some d) : i < n ∧ d = .int (lo + (i : Int)) := by
  unfold rangeD at h
  rw [List.getElem?_map] at h
  cases e : (List.range n)[i]? with
  | none => rw [e] at h; cases h
  | some k =>
    rw [e] at h
    obtain ⟨h1, h2⟩ := List.getElem?_eq_some_iff.mp e
    simp at h1 h2
    subst h2
    exact ⟨h1, (Option.some.inj h).symm⟩
section
variable {K : PySem.W.Frag} {S S1 : Store} {G : Env'} {tl : TE} {ta : TA} {R : List D → Store → Prop} {H : Hp} {Z : Addr → Prop}
theorem itr_range {lo : Int} {n : Nat} : ItR K (Itr lo n) (rangeD lo n) Z H := fun H1 Z1 L zt => by
  refine ⟨fun i d h => ?_, ?_⟩
  · obtain ⟨h1, h2⟩ := rangeD_get h
    exact ⟨h1, fun x H2 hy => by
      obtain ⟨e1, e2⟩ := hy
      subst e1 e2 h2
      exact ⟨fun _ _ e => e, .int _⟩⟩
  · show n ≤ (rangeD lo n).length
    rw [rangeD_len]
    exact Nat.le_refl _
theorem itr_tup {a : Addr} {ds : List D} (h : Rp K Z H (.ref a) (.tup ds)) : ItR K (Itt K a) ds Z H := fun H1 Z1 L zt => by
  obtain ⟨b, xs, e, hs, ra⟩ := (h.lift L).tupV
  cases e
  refine ⟨fun i d hi => ?_, ⟨xs, hs, Nat.le_of_eq ra.length⟩⟩
  obtain ⟨v, h1, h2⟩ := ra.get hi
  refine ⟨⟨xs, v, hs, h1⟩, fun x H2 ⟨e1, e2⟩ => ?_⟩
  subst e1
  have e3 := e2 xs hs
  rw [h1] at e3
  cases e3
  exact ⟨fun _ _ e => e, h2⟩
theorem itr_lst {a : Addr} {ds : List D} (h : Rp K Z H (.ref a) (.lst ds)) : ItR K (Itl K a) ds Z H := fun H1 Z1 L zt => by
  obtain ⟨b, xs, e, hs, ra⟩ := (h.lift L).lstV
  cases e
  have hs : SqL K H1 a xs := SqL.of hs
  refine ⟨fun i d hi => ?_, ⟨xs, hs, Nat.le_of_eq ra.length⟩⟩
  obtain ⟨v, h1, h2⟩ := ra.get hi
  refine ⟨⟨xs, v, hs, h1⟩, fun x H2 ⟨e1, e2⟩ => ?_⟩
  subst e1
  have e3 := e2 xs hs
  rw [h1] at e3
  cases e3
  exact ⟨fun _ _ e => e, h2⟩
theorem itr_frz {a : Addr} {ns : List Int} (h : Rp K Z H (.ref a) (.frz ns)) : ItR K (Itl K a) (ns.map D.int) Z H := fun H1 Z1 L zt => by
  obtain ⟨b, e, hs⟩ := (h.lift L).frzV
  cases e
  refine ⟨fun i d hi => ?_, ⟨_, hs, by simp⟩⟩
  rw [List.getElem?_map] at hi
  cases en : ns[i]? with
  | none => rw [en] at hi; cases hi
  | some n =>
    rw [en] at hi
    have ed : D.int n = d := Option.some.inj hi
    subst ed
    have h1 : (ns.map V.int)[i]? = some (.int n) := by rw [List.getElem?_map, en]; rfl
    refine ⟨⟨_, _, hs, h1⟩, fun x H2 ⟨e1, e2⟩ => ?_⟩
    subst e1
    have e3 := e2 _ hs
    rw [h1] at e3
    cases e3
    exact ⟨fun _ _ e => e, .int n⟩
theorem i_seq (h : EvG K tl G S fun d S' => (∃ ds, d = .lst ds ∧ R ds S') ∨ (∃ ds, d = .tup ds ∧ R ds S') ∨ ∃ ns, d = .frz ns ∧ R (ns.map D.int) S') : IG K (iSeq K tl) G S R := fun σ H e R' q =>
  h σ H e _ fun d S' v H' p s r => by
    rcases p with ⟨ds, ed, p⟩ | ⟨ds, ed, p⟩ | ⟨ns, ed, p⟩
    · subst ed
      obtain ⟨a, xs, ev, hx, ra⟩ := r.lstV
      subst ev
      exact ⟨a, rfl, .inl ⟨⟨xs, SqL.of hx⟩, q ds S' _ H' p s (itr_lst r)⟩⟩
    · subst ed
      obtain ⟨a, xs, ev, hx, ra⟩ := r.tupV
      subst ev
      exact ⟨a, rfl, .inr ⟨⟨xs, hx⟩, q ds S' _ H' p s (itr_tup r)⟩⟩
    · subst ed
      obtain ⟨a, ev, hx⟩ := r.frzV
      subst ev
      exact ⟨a, rfl, .inl ⟨⟨_, hx⟩, q _ S' _ H' p s (itr_frz r)⟩⟩
theorem i_rng1 (h : EvA K ta G S fun ds S' => ∃ j, ds = [.int j] ∧ (-(2 ^ 62) ≤ j ∧ j < 2 ^ 62) ∧ R (rangeD 0 j.toNat) S') : IG K (iRng1 ta) G S R := fun σ H e R' q =>
  h σ H e _ fun ds S' vs H' ⟨j, ed, hj, p⟩ s r => by
    subst ed
    cases r with
    | cons r1 r2 =>
      cases r2
      have := r1.intV
      subst this
      exact ⟨j, rfl, hj.1, hj.2, q _ S' _ H' p s itr_range⟩
theorem i_rng2 (h : EvA K ta G S fun ds S' => ∃ i j, ds = [.int i, .int j] ∧ (-(2 ^ 62) ≤ i ∧ i < 2 ^ 62 ∧ -(2 ^ 62) ≤ j ∧ j < 2 ^ 62) ∧ R (rangeD i (j - i).toNat) S') : IG K (iRng2 ta) G S R := fun σ H e R' q =>
  h σ H e _ fun ds S' vs H' ⟨i, j, ed, hj, p⟩ s r => by
    subst ed
    cases r with
    | cons r1 r2 =>
      cases r2 with
      | cons r2 r3 =>
        cases r3
        have e1 := r1.intV
        have e2 := r2.intV
        subst e1 e2
        exact ⟨i, j, rfl, hj, q _ S' _ H' p s itr_range⟩
def enumD (ds : List D) : List D := ds.mapIdx fun i d => .tup [.int (i : Int), d]
theorem itr_enumT {a : Addr} {ds : List D} (h : Rp K Z H (.ref a) (.tup ds)) : ItR K (IteT K a) (enumD ds) Z H := fun H1 Z1 L zt => by
  obtain ⟨b, xs, e, hs, ra⟩ := (h.lift L).tupV
  cases e
  refine ⟨fun i d hi => ?_, ⟨xs, hs, by rw [ra.length]; simp [enumD]⟩⟩
  unfold enumD at hi
  rw [List.getElem?_mapIdx] at hi
  cases ed : ds[i]? with
  | none => rw [ed] at hi; cases hi
  | some d0 =>
    rw [ed] at hi
    have e0 : D.tup [.int (i : Int), d0] = d := Option.some.inj hi
    subst e0
    obtain ⟨v, h1, h2⟩ := ra.get ed
    refine ⟨⟨xs, v, hs, h1⟩, fun x H2 ⟨T, y, ex, hT, eH, hy⟩ => ?_⟩
    subst ex eH
    have e3 := hy xs hs
    rw [h1] at e3
    cases e3
    have k : ∀ a o, H1 a = some o → upd H1 T (.tup [.int (i : Nat), v]) a = some o := fun a o e => by rw [upd_ne (ne_of_none e hT)]; exact e
    refine ⟨k, .tup upd_same (fun z => zt T z hT) (.cons (.int _) (.one (h2.lift ⟨fun a o _ e => k a o e, fun _ z => .inl z⟩)))⟩
theorem itr_enumL {a : Addr} {ds : List D} (h : Rp K Z H (.ref a) (.lst ds)) : ItR K (Ite K a) (enumD ds) Z H := fun H1 Z1 L zt => by
  obtain ⟨b, xs, e, hs, ra⟩ := (h.lift L).lstV
  cases e
  have hs : SqL K H1 a xs := SqL.of hs
  refine ⟨fun i d hi => ?_, ⟨xs, hs, by rw [ra.length]; simp [enumD]⟩⟩
  unfold enumD at hi
  rw [List.getElem?_mapIdx] at hi
  cases ed : ds[i]? with
  | none => rw [ed] at hi; cases hi
  | some d0 =>
    rw [ed] at hi
    have e0 : D.tup [.int (i : Int), d0] = d := Option.some.inj hi
    subst e0
    obtain ⟨v, h1, h2⟩ := ra.get ed
    refine ⟨⟨xs, v, hs, h1⟩, fun x H2 ⟨T, y, ex, hT, eH, hy⟩ => ?_⟩
    subst ex eH
    have e3 := hy xs hs
    rw [h1] at e3
    cases e3
    have k : ∀ a o, H1 a = some o → upd H1 T (.tup [.int (i : Nat), v]) a = some o := fun a o e => by rw [upd_ne (ne_of_none e hT)]; exact e
    refine ⟨k, .tup upd_same (fun z => zt T z hT) (.cons (.int _) (.one (h2.lift ⟨fun a o _ e => k a o e, fun _ z => .inl z⟩)))⟩
def iEnumU (K : PySem.W.Frag) (ta : TA) : TI := fun σ H R => ta σ H fun vs H1 => ∃ a xs, vs = [.ref a] ∧ ((SqL K H1 a xs ∧ R (Ite K a) H1) ∨ (SqT K H1 a xs ∧ R (IteT K a) H1))
theorem pi_enumU {X : Cx} {e : Expr} {ta : TA} {p pos tpos : Pos} {elts : List Expr} {kk : Nat} (hg : Gl X "enumerate") (hm : X.mg "enumerate" = none) (ha : PA X [e] ta) (hs : starEach [e] X.env = [(false, eval e X.env)] := by rfl) :
    PI X (.Tuple elts kk tpos) (.Call (.Name "enumerate" p) [e] [] pos) (iEnumU X.K ta) := by
  refine ⟨fun pins s σ H R I h => ?_⟩
  refine Call_ (ld_blt I hg hm boot_enumerate (PyProof.Rows.callWith_type1 (thn (ha.run pos pins s σ H _ I h) fun us s1 ⟨vs, H1, I1, r1, q1⟩ => ?_) hs rfl))
  obtain ⟨a, xs, ex, q1⟩ := q1
  subst ex
  cases r1 with
  | cons r rr =>
    cases rr
    cases r
    rcases q1 with ⟨hq, q⟩ | ⟨hq, q⟩
    · obtain ⟨its, rv, p', hz⟩ := I1.list hq
      refine call_enumerate_list p'.isList fun h' he hit hsz hk => wpAny_pyIter_enum he ?_
      have I2 : Inv X pins σ H1 { s1 with heap := h' } := I1.kept (t' := s1.toks) hk
      refine ⟨s1.heap.objs.size + 1, [s1.heap.objs.size + 1, s1.heap.objs.size], _, _, H1, rfl, I2, turn_enum a (s1.heap.objs.size + 1) s1.heap.objs.size, ⟨⟨.none, he⟩, hit, Nat.succ_ne_self _⟩, fun b hb => ?_, q⟩
      have e' : b = s1.heap.objs.size + 1 ∨ b = s1.heap.objs.size := by simpa using hb
      have hle : s1.heap.objs.size ≤ b := by
        rcases e' with z | z
        · rw [z]; exact Nat.le_add_right _ _
        · rw [z]; exact Nat.le_refl _
      exact I1.fpOk hle (I1.hok.fresh hle)
    · obtain ⟨its, rv, p', hz⟩ := I1.tuple hq
      refine enum_begins1 (begins_tuple a its.toArray) (show s1.heap.IsTuple a its.toArray from p') fun h' he hit hsz hk => wpAny_pyIter_enum he ?_
      have I2 : Inv X pins σ H1 { s1 with heap := h' } := I1.kept (t' := s1.toks) hk
      refine ⟨s1.heap.objs.size + 1, [s1.heap.objs.size + 1, s1.heap.objs.size], _, _, H1, rfl, I2, turn_enumT a (s1.heap.objs.size + 1) s1.heap.objs.size, ⟨⟨.none, he⟩, ⟨_, hit, rfl, rfl⟩, Nat.succ_ne_self _⟩, fun b hb => ?_, q⟩
      have e' : b = s1.heap.objs.size + 1 ∨ b = s1.heap.objs.size := by simpa using hb
      have hle : s1.heap.objs.size ≤ b := by
        rcases e' with z | z
        · rw [z]; exact Nat.le_add_right _ _
        · rw [z]; exact Nat.le_refl _
      exact I1.fpOk hle (I1.hok.fresh hle)
theorem i_enum (h : EvA K ta G S fun vs S' => (∃ ds, vs = [.lst ds] ∧ R (enumD ds) S') ∨ ∃ ds, vs = [.tup ds] ∧ R (enumD ds) S') : IG K (iEnumU K ta) G S R := fun σ H e R' q =>
  h σ H e _ fun d S' v H' p s r => by
    rcases p with ⟨ds, ed, p⟩ | ⟨ds, ed, p⟩
    · subst ed
      cases r with
      | cons r1 r2 =>
        cases r2
        obtain ⟨a, xs, ev, hx, ra⟩ := r1.lstV
        subst ev
        exact ⟨a, xs, rfl, .inl ⟨SqL.of hx, q _ S' _ H' p s (itr_enumL r1)⟩⟩
    · subst ed
      cases r with
      | cons r1 r2 =>
        cases r2
        obtain ⟨a, xs, ev, hx, ra⟩ := r1.tupV
        subst ev
        exact ⟨a, xs, rfl, .inr ⟨hx, q _ S' _ H' p s (itr_enumT r1)⟩⟩
end
/-! ### operators on data -/
section
variable {K : PySem.W.Frag} {S : Store} {P : PD} {i j : Int} {x y : Str} {xs ys ds es : List D} {l : Addr} {d : D}
theorem o_rI0 {g : Int → Int → V} {gd : D} (hg : ∀ Z H, Rp K Z H (g i j) gd) (k : P gd S) : OpG K (rI0 g) (.int i) (.int j) S P := fun H vx vy st rx ry Q q => ⟨i, j, rx.intV, ry.intV, q _ S _ H k (.refl st) (hg _ _)⟩
theorem o_rI {C : Int → Int → Prop} {g : Int → Int → V} {gd : D} (hg : ∀ Z H, Rp K Z H (g i j) gd) (hc : C i j) (k : P gd S) : OpG K (rI C g) (.int i) (.int j) S P := fun H vx vy st rx ry Q q => ⟨i, j, rx.intV, ry.intV, hc, q _ S _ H k (.refl st) (hg _ _)⟩
theorem o_inl {a b : R2} {x y : D} (h : OpG K a x y S P) : OpG K (rOr a b) x y S P := fun H vx vy st rx ry Q q => .inl (h H vx vy st rx ry Q q)
theorem o_inr {a b : R2} {x y : D} (h : OpG K b x y S P) : OpG K (rOr a b) x y S P := fun H vx vy st rx ry Q q => .inr (h H vx vy st rx ry Q q)
theorem o_addI (k : P (.int (i + j)) S) : OpG K (rAddU K) (.int i) (.int j) S P := o_inl (o_rI0 (fun _ _ => .int _) k)
theorem o_subI (k : P (.int (i - j)) S) : OpG K rSubU (.int i) (.int j) S P := o_rI0 (fun _ _ => .int _) k
theorem o_mulI (h : (-(2 ^ 64) < i ∧ i < 2 ^ 64) ∨ (-(2 ^ 64) < j ∧ j < 2 ^ 64)) (k : P (.int (i * j)) S) : OpG K rMulU (.int i) (.int j) S P := o_inl (o_rI (fun _ _ => .int _) h k)
theorem o_mulW (h : CMulW i j) (k : P (.int (i * j)) S) : OpG K rMulU (.int i) (.int j) S P := o_inr (o_inl (o_rI (fun _ _ => .int _) h k))
theorem o_divI (h : 0 < j ∧ j < 1073741824) (k : P (.int (i / j)) S) : OpG K rDivU (.int i) (.int j) S P := o_inl (o_rI (fun _ _ => .int _) h k)
theorem o_divW (h : CDivW i j) (k : P (.int (i / j)) S) : OpG K rDivU (.int i) (.int j) S P := o_inr (o_rI (fun _ _ => .int _) h k)
theorem o_modI (h : 0 < j) (k : P (.int (i % j)) S) : OpG K rModU (.int i) (.int j) S P := o_rI (fun _ _ => .int _) h k
theorem o_powI (h : 0 ≤ j ∧ j ≤ 1000000 ∧ i.natAbs < 2 ^ 64) (k : P (.int (i ^ j.toNat)) S) : OpG K rPowU (.int i) (.int j) S P := o_rI (fun _ _ => .int _) h k
theorem o_lt (k : P (.bl (decide (i < j))) S) : OpG K rLtU (.int i) (.int j) S P := o_rI0 (fun _ _ => .bl _) k
theorem o_le (k : P (.bl (decide (i ≤ j))) S) : OpG K rLeU (.int i) (.int j) S P := o_rI0 (fun _ _ => .bl _) k
theorem o_gt (k : P (.bl (decide (j < i))) S) : OpG K rGtU (.int i) (.int j) S P := o_rI0 (fun _ _ => .bl _) k
theorem o_ge (k : P (.bl (decide (j ≤ i))) S) : OpG K rGeU (.int i) (.int j) S P := o_rI0 (fun _ _ => .bl _) k
theorem o_addS (h : x.length + y.length ≤ 1000000) (k : P (.str (x ++ y)) S) : OpG K (rAddU K) (.str x) (.str y) S P := o_inr (o_inl fun H vx vy st rx ry Q q => ⟨x, y, rx.strV, ry.strV, Nat.le_trans h (by decide), q _ S _ H k (.refl st) (.str _)⟩)
theorem o_addL (h : xs.length + ys.length ≤ 1000000) (k : P (.lst (xs ++ ys)) S) : OpG K (rAddU K) (.lst xs) (.lst ys) S P := o_inr (o_inr (o_inl fun H vx vy st rx ry Q q => by
  obtain ⟨a, us, e1, h1, r1⟩ := rx.lstV
  obtain ⟨b, ws, e2, h2, r2⟩ := ry.lstV
  refine ⟨a, b, us, ws, e1, e2, h1, h2, by rw [r1.length, r2.length]; exact Nat.le_trans h (by decide), fun p hp => ?_⟩
  have s : Step K S H S (upd H p (.lst (us ++ ws))) := .new st hp
  exact q _ S _ _ k s (.lst upd_same (st.nodom hp) ((r1.append r2).lift s.lft))))
theorem o_eqI (k : P (.bl (decide (i = j))) S) : OpG K (rEqU K) (.int i) (.int j) S P := o_inl fun H vx vy st rx ry Q q => by
  rw [rx.intV, ry.intV]
  refine ⟨rfl, q _ S _ H k (.refl st) ?_⟩
  have : decide (V.int i = V.int j) = decide (i = j) := by simp
  rw [this]
  exact .bl _
theorem o_neI (k : P (.bl (!decide (i = j))) S) : OpG K (rNeU K) (.int i) (.int j) S P := o_inl fun H vx vy st rx ry Q q => by
  rw [rx.intV, ry.intV]
  refine ⟨rfl, q _ S _ H k (.refl st) ?_⟩
  have : decide (V.int i = V.int j) = decide (i = j) := by simp
  rw [this]
  exact .bl _
theorem o_eqS (k : P (.bl (decide (x = y))) S) : OpG K (rEqU K) (.str x) (.str y) S P := o_inl fun H vx vy st rx ry Q q => by
  rw [rx.strV, ry.strV]
  refine ⟨rfl, q _ S _ H k (.refl st) ?_⟩
  have : decide (V.str x = V.str y) = decide (x = y) := by simp
  rw [this]
  exact .bl _
theorem o_neS (k : P (.bl (!decide (x = y))) S) : OpG K (rNeU K) (.str x) (.str y) S P := o_inl fun H vx vy st rx ry Q q => by
  rw [rx.strV, ry.strV]
  refine ⟨rfl, q _ S _ H k (.refl st) ?_⟩
  have : decide (V.str x = V.str y) = decide (x = y) := by simp
  rw [this]
  exact .bl _
/-! data of the model -/
mutual
def toPy : D → Option PyData
  | .non => some .none
  | .bl b => some (.bool b)
  | .int i => some (.int i)
  | .str x => some (.str x)
  | .lst ds => (toPys ds).map .list
  | .tup ds => (toPys ds).map .tuple
  | .frz ns => some (.list (ns.map .int))
  | .obj _ _ => none
  | .ref _ => none
  | .ty _ => none
def toPys : List D → Option (List PyData)
  | [] => some []
  | d :: ds => (toPy d).bind fun p => (toPys ds).map fun ps => p :: ps
end
mutual
theorem Rp.dp {K : PySem.W.Frag} {Z : Addr → Prop} {H : Hp} : ∀ {v : V} {d : D} {p : PyData}, Rp K Z H v d → toPy d = some p → Dp K H v p
  | _, _, _, .non, e => by unfold toPy at e; cases e; exact .non
  | _, _, _, .bl b, e => by unfold toPy at e; cases e; exact .bl b
  | _, _, _, .int i, e => by unfold toPy at e; cases e; exact .int i
  | _, _, _, .str x, e => by unfold toPy at e; cases e; exact .str x
  | _, _, _, .ref a, e => by unfold toPy at e; cases e
  | _, _, _, .ty a, e => by unfold toPy at e; cases e
  | _, _, _, .frz h n, e => by
    unfold toPy at e
    cases e
    rename_i ns
    refine .lst (.inl (.inr ⟨_, h⟩)) ?_
    clear h n
    induction ns with
    | nil => exact .nil
    | cons a r ih => exact .cons (.int a) ih
  | _, _, _, .frzK h, e => by
    unfold toPy at e
    cases e
    rename_i a ns
    refine .lst (h H) ?_
    clear h
    induction ns with
    | nil => exact .nil
    | cons a r ih => exact .cons (.int a) ih
  | _, _, p, .lst (ds := ds) h n r, e => by
    unfold toPy at e
    cases q : toPys ds with
    | none => rw [q] at e; cases e
    | some ps =>
      rw [q] at e
      cases e
      exact .lst (SqL.of h) (RpAll.dp r q)
  | _, _, p, .tup (ds := ds) h n r, e => by
    unfold toPy at e
    cases q : toPys ds with
    | none => rw [q] at e; cases e
    | some ps =>
      rw [q] at e
      cases e
      exact .tup (SqT.of h) (RpAll.dp r q)
  | _, _, p, .tupK (ds := ds) h r, e => by
    unfold toPy at e
    cases q : toPys ds with
    | none => rw [q] at e; cases e
    | some ps =>
      rw [q] at e
      cases e
      exact .tup (.inr h) (RpAll.dp r q)
  | _, _, _, .obj h n r, e => by unfold toPy at e; cases e
theorem RpAll.dp {K : PySem.W.Frag} {Z : Addr → Prop} {H : Hp} : ∀ {vs : List V} {ds : List D} {ps : List PyData}, RpAll K Z H vs ds → toPys ds = some ps → DpAll K H vs ps
  | _, _, _, .nil, e => by unfold toPys at e; cases e; exact .nil
  | _, _, ps, .cons (d := d) (ds := ds) r t, e => by
    unfold toPys at e
    cases q : toPy d with
    | none => rw [q] at e; cases e
    | some p =>
      cases q2 : toPys ds with
      | none => rw [q, q2] at e; cases e
      | some ps =>
        rw [q, q2] at e
        cases e
        exact .cons (Rp.dp r q) (RpAll.dp t q2)
end
theorem o_eqD {a b : D} {p q : PyData} (h1 : toPy a = some p) (h2 : toPy b = some q) (s1 : SeqAt.shaped p = true) (s2 : SeqAt.shaped q = true) (k : P (.bl (PyData.eqv p q)) S) : OpG K (rEqU K) a b S P := o_inr fun H vx vy st rx ry Q z =>
  ⟨p, q, rx.dp h1, ry.dp h2, s1, s2, z _ S _ H k (.refl st) (.bl _)⟩
theorem o_neD {a b : D} {p q : PyData} (h1 : toPy a = some p) (h2 : toPy b = some q) (s1 : SeqAt.shaped p = true) (s2 : SeqAt.shaped q = true) (k : P (.bl (!PyData.eqv p q)) S) : OpG K (rNeU K) a b S P := o_inr fun H vx vy st rx ry Q z =>
  ⟨p, q, rx.dp h1, ry.dp h2, s1, s2, z _ S _ H k (.refl st) (.bl _)⟩
/-! subscripts -/
theorem RpAll.atI {K : PySem.W.Frag} {Z : Addr → Prop} {H : Hp} {vs : List V} {ds : List D} {i : Int} {d : D} (r : RpAll K Z H vs ds) (h : atI ds i = some d) : ∃ v, L2.atI vs i = some v ∧ Rp K Z H v d := by
  unfold L2.atI at h ⊢
  rw [r.length]
  cases e : ixN ds.length i with
  | none => rw [e] at h; cases h
  | some j =>
    rw [e] at h
    obtain ⟨v, h1, h2⟩ := r.get (show ds[j]? = some d from h)
    exact ⟨v, h1, h2⟩
theorem o_ixT (h : atI ds i = some d) (k : P d S) : OpG K (rIxU K) (.tup ds) (.int i) S P := o_inr (o_inl fun H vx vy st rx ry Q q => by
  obtain ⟨a, xs, e, hs, ra⟩ := rx.tupV
  obtain ⟨v, h1, h2⟩ := ra.atI h
  exact ⟨a, xs, i, v, e, ry.intV, hs, h1, q d S v H k (.refl st) h2⟩)
theorem o_ixL (h : atI ds i = some d) (k : P d S) : OpG K (rIxU K) (.lst ds) (.int i) S P := o_inl fun H vx vy st rx ry Q q => by
  obtain ⟨a, xs, e, hs, ra⟩ := rx.lstV
  obtain ⟨v, h1, h2⟩ := ra.atI h
  exact ⟨a, xs, i, v, e, ry.intV, SqL.of hs, h1, q d S v H k (.refl st) h2⟩
theorem o_ixC (hl : S.lookup l = some (.lst ds)) (h : atI ds i = some d) (k : P d S) : OpG K (rIxU K) (.ref l) (.int i) S P := o_inl fun H vx vy st rx ry Q q => by
  obtain ⟨xs, hx, ra⟩ := st.ok l _ (lookup_mem hl)
  obtain ⟨v, h1, h2⟩ := ra.atI h
  exact ⟨l, xs, i, v, rx.refV, ry.intV, SqL.of hx, h1, q d S v H k (.refl st) h2⟩
theorem o_ixF {ns : List Int} {n : Int} (h : atI ns i = some n) (k : P (.int n) S) : OpG K (rIxU K) (.frz ns) (.int i) S P := o_inl fun H vx vy st rx ry Q q => by
  obtain ⟨a, e, hs⟩ := rx.frzV
  refine ⟨a, _, i, .int n, e, ry.intV, hs, ?_, q _ S _ H k (.refl st) (.int n)⟩
  unfold L2.atI at h ⊢
  rw [List.length_map]
  cases e : ixN ns.length i with
  | none => rw [e] at h; cases h
  | some j =>
    rw [e] at h
    show (ns.map V.int)[j]? = _
    rw [List.getElem?_map, show ns[j]? = some n from h]
    rfl
theorem atI_of {α : Type} {xs : List α} {i : Int} {v : α} (h0 : 0 ≤ i) (h : xs[i.toNat]? = some v) : atI xs i = some v := by
  have := atI_nat h
  rw [Int.toNat_of_nonneg h0] at this
  exact this
/-! built-in calls -/
theorem c_lenT (k : P (.int (ds.length : Int)) S) : CbG K (cLen K) [.tup ds] S P := fun H vs st r Q q => by
  cases r with
  | cons r1 r2 =>
    cases r2
    obtain ⟨a, xs, e, hs, ra⟩ := r1.tupV
    subst e
    refine ⟨_, xs.length, rfl, .inr ⟨xs, hs, rfl⟩, q _ S _ H k (.refl st) ?_⟩
    rw [ra.length]
    exact .int _
theorem c_lenL (k : P (.int (ds.length : Int)) S) : CbG K (cLen K) [.lst ds] S P := fun H vs st r Q q => by
  cases r with
  | cons r1 r2 =>
    cases r2
    obtain ⟨a, xs, e, hs, ra⟩ := r1.lstV
    subst e
    refine ⟨_, xs.length, rfl, .inl ⟨xs, SqL.of hs, rfl⟩, q _ S _ H k (.refl st) ?_⟩
    rw [ra.length]
    exact .int _
theorem c_lenC (hl : S.lookup l = some (.lst ds)) (k : P (.int (ds.length : Int)) S) : CbG K (cLen K) [.ref l] S P := fun H vs st r Q q => by
  cases r with
  | cons r1 r2 =>
    cases r2
    obtain ⟨xs, hx, ra⟩ := st.ok l _ (lookup_mem hl)
    have e := r1.refV
    subst e
    refine ⟨_, xs.length, rfl, .inl ⟨xs, SqL.of hx, rfl⟩, q _ S _ H k (.refl st) ?_⟩
    rw [ra.length]
    exact .int _
theorem c_lenF {ns : List Int} (k : P (.int (ns.length : Int)) S) : CbG K (cLen K) [.frz ns] S P := fun H vs st r Q q => by
  cases r with
  | cons r1 r2 =>
    cases r2
    obtain ⟨a, e, hs⟩ := r1.frzV
    subst e
    refine ⟨_, (ns.map V.int).length, rfl, .inl ⟨_, hs, rfl⟩, q _ S _ H k (.refl st) ?_⟩
    rw [List.length_map]
    exact .int _
theorem c_lenS (h : x.length ≤ 1000000) (k : P (.int (x.length : Int)) S) : CbG K (cLen K) [.str x] S P := fun H vs st r Q q => by
  cases r with
  | cons r1 r2 =>
    cases r2
    have e := r1.strV
    subst e
    exact ⟨_, _, rfl, ⟨Nat.le_trans h (by decide), rfl⟩, q _ S _ H k (.refl st) (.int _)⟩
theorem c_abs (k : P (.int (if i < 0 then -i else i)) S) : CbG K cAbs [.int i] S P := fun H vs st r Q q => by
  cases r with
  | cons r1 r2 =>
    cases r2
    have e := r1.intV
    subst e
    exact ⟨i, rfl, q _ S _ H k (.refl st) (.int _)⟩
theorem c_int (k : P (.int i) S) : CbG K cInt [.int i] S P := fun H vs st r Q q => by
  cases r with
  | cons r1 r2 =>
    cases r2
    have e := r1.intV
    subst e
    exact .inl ⟨i, rfl, q _ S _ H k (.refl st) (.int _)⟩
theorem c_intB {b : Bool} (k : P (.int (if b then 1 else 0)) S) : CbG K cInt [.bl b] S P := fun H vs st r Q q => by
  cases r with
  | cons r1 r2 =>
    cases r2
    have e := r1.blV
    subst e
    exact .inr ⟨b, rfl, q _ S _ H k (.refl st) (.int _)⟩
theorem c_max2 (k : P (.int (if j > i then j else i)) S) : CbG K (cMax K) [.int i, .int j] S P := fun H vs st r Q q => by
  cases r with
  | cons r1 r2 =>
    cases r2 with
    | cons r2 r3 =>
      cases r3
      have e := r1.intV
      have e2 := r2.intV
      subst e e2
      exact .inl ⟨i, j, rfl, q _ S _ H k (.refl st) (.int _)⟩
theorem c_min2 (k : P (.int (if j < i then j else i)) S) : CbG K (cMin K) [.int i, .int j] S P := fun H vs st r Q q => by
  cases r with
  | cons r1 r2 =>
    cases r2 with
    | cons r2 r3 =>
      cases r3
      have e := r1.intV
      have e2 := r2.intV
      subst e e2
      exact .inl ⟨i, j, rfl, q _ S _ H k (.refl st) (.int _)⟩
theorem rpAll_ints {K : PySem.W.Frag} {Z : Addr → Prop} {H : Hp} : ∀ {ns : List Int} {vs : List V}, RpAll K Z H vs (ns.map D.int) → vs = ns.map V.int
  | [], _, h => by cases h; rfl
  | n :: ns, _, h => by
    cases h with
    | cons r t =>
      rw [r.intV, rpAll_ints t]
      rfl
theorem c_maxL {ns : List Int} (h : 0 < ns.length) (k : ∀ m, m ∈ ns → (∀ y, y ∈ ns → y ≤ m) → P (.int m) S) : CbG K (cMax K) [.lst (ns.map D.int)] S P := fun H vs st r Q q => by
  cases r with
  | cons r1 r2 =>
    cases r2
    obtain ⟨a, xs, e, hs, ra⟩ := r1.lstV
    subst e
    have ex := rpAll_ints ra
    subst ex
    exact .inr ⟨a, ns, rfl, SqL.of hs, h, fun m h1 h2 => q _ S _ H (k m h1 h2) (.refl st) (.int _)⟩
theorem c_minL {ns : List Int} (h : 0 < ns.length) (k : ∀ m, m ∈ ns → (∀ y, y ∈ ns → m ≤ y) → P (.int m) S) : CbG K (cMin K) [.lst (ns.map D.int)] S P := fun H vs st r Q q => by
  cases r with
  | cons r1 r2 =>
    cases r2
    obtain ⟨a, xs, e, hs, ra⟩ := r1.lstV
    subst e
    have ex := rpAll_ints ra
    subst ex
    exact .inr ⟨a, ns, rfl, SqL.of hs, h, fun m h1 h2 => q _ S _ H (k m h1 h2) (.refl st) (.int _)⟩
theorem c_tupleL (k : P (.tup ds) S) : CbG K (cTuple K) [.lst ds] S P := fun H vs st r Q q => by
  cases r with
  | cons r1 r2 =>
    cases r2
    obtain ⟨a, xs, e, hs, ra⟩ := r1.lstV
    subst e
    refine ⟨a, xs, rfl, .inl ⟨SqL.of hs, fun p hp => ?_⟩⟩
    have s : Step K S H S (upd H p (.tup xs)) := .new st hp
    exact q _ S _ _ k s (.tup upd_same (st.nodom hp) (ra.lift s.lft))
theorem c_tupleC (hl : S.lookup l = some (.lst ds)) (k : P (.tup ds) S) : CbG K (cTuple K) [.ref l] S P := fun H vs st r Q q => by
  cases r with
  | cons r1 r2 =>
    cases r2
    obtain ⟨xs, hx, ra⟩ := st.ok l _ (lookup_mem hl)
    have e := r1.refV
    subst e
    refine ⟨l, xs, rfl, .inl ⟨SqL.of hx, fun p hp => ?_⟩⟩
    have s : Step K S H S (upd H p (.tup xs)) := .new st hp
    exact q _ S _ _ k s (.tup upd_same (st.nodom hp) (ra.lift s.lft))
theorem c_tupleT (k : P (.tup ds) S) : CbG K (cTuple K) [.tup ds] S P := fun H vs st r Q q => by
  cases r with
  | cons r1 r2 =>
    cases r2
    obtain ⟨a, xs, e, hs, ra⟩ := r1.tupV
    subst e
    exact ⟨a, xs, rfl, .inr ⟨hs, q _ S _ H k (.refl st) r1⟩⟩
/-- x[i] = v of a cell -/
theorem tg_setC {to ti : TE} {G : Env'} {PG : Env' → Store → Prop} (h : EvG K to G S fun o S1 => EvG K ti G S1 fun i' S2 => ∃ l ds k j, o = .ref l ∧ i' = .int k ∧ S2.lookup l = some (.lst ds) ∧ ixN ds.length k = some j ∧ PG G (setC S2 l (.lst (ds.set j d)))) :
    TgG K (gSub to ti rSetL) d G S PG := fun σ H v e r Q q =>
  h σ H e _ fun o S1 vo H1 p1 s1 r1 => p1 σ H1 (e.step s1) _ fun i' S2 vi H2 ⟨l, ds, k, j, eo, ei, hl, hj, p2⟩ s2 r2 => by
    subst eo ei
    have e1 := r1.refV
    have e2 := r2.intV
    subst e1 e2
    obtain ⟨xs, hx, ra⟩ := s2.st.ok l _ (lookup_mem hl)
    refine ⟨l, xs, k, j, rfl, rfl, hx, by rw [ra.length]; exact hj, ?_⟩
    have r' : Rp K (dom S2) H2 v d := (r.lift s1.lft).lift s2.lft
    have sp : Step K S2 H2 (setC S2 l (.lst (ds.set j d))) (upd H2 l (.lst (xs.set j v))) := .put s2.st hl ⟨_, upd_same, (ra.set r' j).lift (Lift.put hl)⟩
    exact q G _ σ _ p2 ((s1.trans s2).trans sp) (((e.step s1).step s2).step sp)
theorem m_append (hl : S.lookup l = some (.lst ds)) (hz : ds.length < 1000000) (k : P .non (setC S l (.lst (ds ++ [d])))) : MtG K "list" rAppend (.ref l) [d] S P := fun H v vs st r ra Q q => by
  cases ra with
  | cons r1 r2 =>
    cases r2
    obtain ⟨xs, hx, rx⟩ := st.ok l _ (lookup_mem hl)
    have e := r.refV
    subst e
    refine ⟨l, xs, _, rfl, rfl, hx, Nat.lt_of_lt_of_le (by rw [rx.length]; exact hz) (by decide), ?_⟩
    have sp : Step K S H (setC S l (.lst (ds ++ [d]))) (upd H l (.lst (xs ++ [_]))) := .put st hl ⟨_, upd_same, (rx.append (.one r1)).lift (Lift.put hl)⟩
    exact q _ _ _ _ k sp .non
theorem ty_cell (hl : S.lookup l = some (.lst ds)) : TyG K "list" (.ref l) S := fun H v st r => by
  obtain ⟨xs, hx, rx⟩ := st.ok l _ (lookup_mem hl)
  have e := r.refV
  subst e
  exact .inl ⟨rfl, xs, SqL.of hx⟩
end
/-! ### a def's promise from its body -/
section
variable {P : Program} {w : World} {K : PySem.W.Frag} {mg : Str → Option Value} {base : Heap}
abbrev FnP (K : PySem.W.Frag) (x : Str) (q : Str) (st : Stmt) (f : Addr) (fd : FuncData) : Prop := FunD K x q (defArgs st) (defBody st) (defScope st) [] [] f fd
@[reducible] def ends0 (P : PD) : EndsD := { nx := fun _ S' => P .non S', rt := P }
def startG (N : List Str) (ds : List D) : Env' := ds.map some ++ List.replicate (N.length - ds.length) none
theorem ok_of {x qual : Str} {params : Arguments} {body : List Stmt} {scope : Scope} {dvs : List V} {kws : List (Str × V)} {f : Addr} {fd : FuncData} {N ps : List Str} {k : Nat} {g : SpG} (F : FunD K x qual params body scope dvs kws f fd) (S : FnScope N ps scope)
    (len : ∀ ds S P, g ds S P → ds.length = ps.length)
    (hbody : ∀ (cdv : Value) (A : Around) (outer : List Env) (s : Shared) (H : Hp) (E : XK), Room k (A.deeper (envOfC qual scope s.heap.objs.size f cdv)) →
      ∃ t, PSs (cxOf CX0 P w K mg base N qual scope f cdv A outer s H E).nox body t ∧ ∀ ds S P, g ds S P → ExG K t (startG N ds) S (ends0 P)) : FnOk P w K mg base CX0 (k + 1) f fd ps (spOf K g) := by
  refine F.ok S (fun vs H Q E h => ?_) (fun cdv A outer s H vs Q E hr h => ?_)
  · obtain ⟨ds, S', st, ra, hg⟩ := h
    rw [ra.length]
    exact len _ _ _ hg
  · obtain ⟨ds, S', st, ra, hg⟩ := h
    obtain ⟨t, h1, h2⟩ := hbody cdv A outer s H E hr
    refine ⟨t, h1.nox, h2 ds S' _ hg (start N vs) H _ ⟨st, ?_⟩ ⟨fun G' S1 σ' H' n sp e => n _ _ sp .non, fun d S1 v H' n sp r => n _ _ sp r, fun _ _ _ _ n => n.elim, fun _ _ _ _ n => n.elim⟩⟩
    have e := EnvR.start (N.length - vs.length) ra
    unfold L2.start startG
    rw [ra.length] at e ⊢
    exact e
end
end RS
namespace RS
open PySem PySem.Spec PyProof.Rows L2
/-! ### a def as callers see it -/
structure Cal (P : Program) (w : World) (K : PySem.W.Frag) (mg : Str → Option Value) (base : Heap) (x : Str) (ps : List Str) (k : Nat) (g : SpG) : Prop where
  ex : ∃ f fd, mg x = some (.ref f) ∧ FnOk P w K mg base CX0 k f fd ps (spOf K g) ∧ PySem.W.keepIn K (.ref f) = true ∧ Binds K fd ps []
theorem pe_callC {X : Cx} {k : Nat} {ps : List Str} {g : SpG} {x : Str} {p pos : Pos} {e : Expr} {es : List Expr} {t : TA} (c : Cal X.prog X.w X.K X.mg X.base x ps k g) (hr : Room k X.A) (hg : Gl X x) (ha : PA X (e :: es) t)
    (hdb : (x == ("__debug__" : Str)) = false := by decide) (he : starEach (e :: es) X.env = (false, eval e X.env) :: starEach es X.env := by rfl) (hpl : (backTo pos (starEach es X.env)).any (·.1) = false := by rfl) :
    PE X (.Call (.Name x p) (e :: es) [] pos) (tCall (spOf X.K g) [] E0 t) := by
  obtain ⟨f, fd, h1, h2, h3, h4⟩ := c.ex
  exact pe_call h2 hr hg h1 h3 h4 .nil pass0 ha hdb he hpl
theorem pe_callC0 {X : Cx} {k : Nat} {ps : List Str} {g : SpG} {x : Str} {p pos : Pos} (c : Cal X.prog X.w X.K X.mg X.base x ps k g) (hr : Room k X.A) (hg : Gl X x)
    (hdb : (x == ("__debug__" : Str)) = false := by decide) :
    PE X (.Call (.Name x p) [] [] pos) (tCall (spOf X.K g) [] E0 tNil) := by
  obtain ⟨f, fd, h1, h2, h3, h4⟩ := c.ex
  exact pe_call0 h2 hr hg h1 h3 h4 .nil pass0 hdb
structure Bl (mg : Str → Option Value) : Prop where
  len : mg "len" = none
  range : mg "range" = none
  tuple : mg "tuple" = none
  list : mg "list" = none
  int : mg "int" = none
  max : mg "max" = none
  min : mg "min" = none
  abs : mg "abs" = none
  isinstance : mg "isinstance" = none
  enumerate : mg "enumerate" = none
  zip : mg "zip" = none
  sum : mg "sum" = none
  all : mg "all" = none
  any : mg "any" = none
  str : mg "str" = none
  repr : mg "repr" = none
  bool : mg "bool" = none
end RS

set_option Elab.async false
set_option linter.all false
set_option maxRecDepth 100000
set_option maxHeartbeats 4000000
namespace RS
open PySem PySem.Spec PyProof.Rows L2
section
variable {K : PySem.W.Frag} {S : Store} {P : PD} {i j : Int} {x y : Str} {xs ys ds es : List D} {l : Addr} {d : D}
theorem u_neg (k : P (.int (-i)) S) : UnG K (rU fun i => .int (-i)) (.int i) S P := fun H v st r Q q => ⟨i, r.intV, q _ S _ H k (.refl st) (.int _)⟩
def tyD : D → Option String
  | .non => some "NoneType"
  | .bl _ => some "bool"
  | .int _ => some "int"
  | .str _ => some "str"
  | .lst _ => some "list"
  | .frz _ => some "list"
  | .tup _ => some "tuple"
  | _ => none
theorem Rp.tyX {Z : Addr → Prop} {H : Hp} {v : V} {d : D} {t : String} (r : Rp K Z H v d) (h : tyD d = some t) (hf : ∀ ns, d ≠ .frz ns) : TyX K H v (.type t) := by
  cases r with
  | non => cases h; exact .base .non
  | bl b => cases h; exact .base (.bl b)
  | int i => cases h; exact .base (.int i)
  | str x => cases h; exact .base (.str x)
  | ref a => cases h
  | ty n => cases h
  | lst e n r => cases h; exact .base (.lst e)
  | frz e n => exact absurd rfl (hf _)
  | frzK e => exact absurd rfl (hf _)
  | tup e n r => cases h; exact .base (.tup e)
  | tupK e r =>
    cases h
    obtain ⟨o, its, n, e1, e2, e3, e4⟩ := e
    exact .kTuple e1 e2
  | obj e n r => cases h
theorem c_isi {T t : String} {b : Bool} (h : tyD d = some t) (hf : ∀ ns, d ≠ .frz ns) (hk : kitB t T = some b) (k : P (.bl b) S) : CbG K (rIsi K) [d, .ty T] S P := fun H vs st r Q q => by
  cases r with
  | cons r1 r2 =>
    cases r2 with
    | cons r2 r3 =>
      cases r3
      have e := r2.tyV
      subst e
      exact ⟨_, _, _, _, b, rfl, .ty T, r1.tyX h hf, kit_ty hk, q _ S _ H k (.refl st) (.bl b)⟩
theorem ty_cellC (hl : S.lookup l = some (.lst ds)) {T : String} {b : Bool} (hk : kitB "list" T = some b) (k : P (.bl b) S) : CbG K (rIsi K) [.ref l, .ty T] S P := fun H vs st r Q q => by
  cases r with
  | cons r1 r2 =>
    cases r2 with
    | cons r2 r3 =>
      cases r3
      have e := r2.tyV
      subst e
      have e1 := r1.refV
      subst e1
      obtain ⟨xs, hx, rx⟩ := st.ok l _ (lookup_mem hl)
      exact ⟨_, _, _, _, b, rfl, .ty T, .base (.lst hx), kit_ty hk, q _ S _ H k (.refl st) (.bl b)⟩
end
theorem cr_isi {X : Cx} : CallR X (.builtin "isinstance") (rIsi X.K) := call_isi
/-! ### the box of draws -/
def bx (w s c : Int) : Cell := .lst [.int w, .int s, .int c]
def BoxAt (S : Store) (b : Addr) : Prop := ∃ w s c, S.lookup b = some (bx w s c)
theorem BoxAt.put {S : Store} {b : Addr} (h : BoxAt S b) (w s c : Int) : BoxAt (setC S b (bx w s c)) b := by
  obtain ⟨w0, s0, c0, e⟩ := h
  exact ⟨w, s, c, lookup_setC e⟩
theorem BoxAt.cons {S : Store} {b l : Addr} {c : Cell} (h : BoxAt S b) (n : ¬ dom S l) : BoxAt ((l, c) :: S) b := by
  obtain ⟨w0, s0, c0, e⟩ := h
  have hne : b ≠ l := fun z => n (z ▸ dom_of_lookup e)
  refine ⟨w0, s0, c0, ?_⟩
  rw [List.lookup_cons, beq_eq_false_iff_ne.mpr hne]
  exact e
theorem setC_cons {S : Store} {b l : Addr} {c c' : Cell} (h : l ≠ b) : setC ((l, c) :: S) b c' = (l, c) :: setC S b c' := by
  unfold setC
  rw [List.map_cons, if_neg h]
theorem BoxAt.ne {S : Store} {b l : Addr} (h : BoxAt S b) (n : ¬ dom S l) : l ≠ b := by
  obtain ⟨w0, s0, c0, e⟩ := h
  exact fun z => n (z ▸ dom_of_lookup e)
def spBox (lim : Int) : SpG := fun ds S P => ∃ ns k own, ds = [.frz ns, .int k, .int own] ∧ 0 ≤ k ∧ k < 1000 ∧ 0 ≤ own ∧ own < 1000 ∧ ∀ l w s c, ¬ dom S l → P (.ref l) ((l, bx w s c) :: S)
def spTake (lim : Int) : SpG := fun ds S P => ∃ b m, ds = [.ref b, .int m] ∧ BoxAt S b ∧ 0 < m ∧ m < lim ∧ ∀ r w s c, 0 ≤ r → r < m → P (.int r) (setC S b (bx w s c))
def spPick : SpG := fun ds S P => ∃ b its, ds = [.ref b, .lst its] ∧ BoxAt S b ∧ 0 < its.length ∧ its.length < 1000 ∧ ∀ (i : Nat) d w s c, its[i]? = some d → P d (setC S b (bx w s c))
theorem mono_box {lim : Int} : ∀ xs S1 (P P' : PD), spBox lim xs S1 P → (∀ d S', P d S' → P' d S') → spBox lim xs S1 P' := fun xs S1 P P' ⟨ns, k, own, h1, h2, h3, h4, h5, h6⟩ m => ⟨ns, k, own, h1, h2, h3, h4, h5, fun l w s c n => m _ _ (h6 l w s c n)⟩
theorem mono_take {lim : Int} : ∀ xs S1 (P P' : PD), spTake lim xs S1 P → (∀ d S', P d S' → P' d S') → spTake lim xs S1 P' := fun xs S1 P P' ⟨b, k, h1, h2, h3, h4, h5⟩ m => ⟨b, k, h1, h2, h3, h4, fun l w s c n n2 => m _ _ (h5 l w s c n n2)⟩
theorem mono_pick : ∀ xs S1 (P P' : PD), spPick xs S1 P → (∀ d S', P d S' → P' d S') → spPick xs S1 P' := fun xs S1 P P' ⟨b, k, h1, h2, h3, h4, h5⟩ m => ⟨b, k, h1, h2, h3, h4, fun l w s c n n2 => m _ _ (h5 l w s c n n2)⟩
def spLaw : SpG := fun ds S P => ∃ ns : List Int, ds = [.frz ns] ∧ S = [] ∧ ns.length ≤ 63 ∧ ∀ S', P (.bl true) S'
end RS
/-! ### the rules with the written part told -/
namespace RS
open PySem PySem.Spec PyProof.Rows L2
section
variable {X : Cx}
theorem op_addK (K : PySem.W.Frag) (h : X.K = K := by rfl) : OpR X (binaryOp .Add) (rAddU K) := h ▸ op_addU
theorem op_eqK (K : PySem.W.Frag) (hu : X.A.units + 64 < cLine) (h : X.K = K := by rfl) : OpR X (compareOp .Eq) (rEqU K) := h ▸ op_eqU hu
theorem op_neK (K : PySem.W.Frag) (hu : X.A.units + 64 < cLine) (h : X.K = K := by rfl) : OpR X (compareOp .NotEq) (rNeU K) := h ▸ op_neU hu
theorem ix_K (K : PySem.W.Frag) (h : X.K = K := by rfl) : IxR X (rIxU K) := h ▸ ix_U
theorem cr_lenK (K : PySem.W.Frag) (h : X.K = K := by rfl) : CallR X (.builtin "len") (cLen K) := h ▸ cr_len
theorem cr_maxK (K : PySem.W.Frag) (hc : X.calm = true := by rfl) (h : X.K = K := by rfl) : CallR X (.builtin "max") (cMax K) := h ▸ cr_maxU hc
theorem cr_minK (K : PySem.W.Frag) (hc : X.calm = true := by rfl) (h : X.K = K := by rfl) : CallR X (.builtin "min") (cMin K) := h ▸ cr_minU hc
theorem cr_listK (K : PySem.W.Frag) (h : X.K = K := by rfl) : CallR X (.type "list") (cList K) := h ▸ cr_list
theorem cr_tupleK (K : PySem.W.Frag) (h : X.K = K := by rfl) : CallR X (.type "tuple") (cTuple K) := h ▸ cr_tuple
theorem cr_isiK (K : PySem.W.Frag) (h : X.K = K := by rfl) : CallR X (.builtin "isinstance") (rIsi K) := h ▸ cr_isi
theorem pi_seqK (K : PySem.W.Frag) {tg l : Expr} {tl : TE} (hl : PE X l tl) (h : X.K = K := by rfl) : PI X tg l (iSeq K tl) := h ▸ pi_seq hl
theorem pi_enumK (K : PySem.W.Frag) {e : Expr} {ta : TA} {p pos tpos : Pos} {elts : List Expr} {kk : Nat} (hg : Gl X "enumerate") (hm : X.mg "enumerate" = none) (ha : PA X [e] ta) (h : X.K = K := by rfl) (hs : starEach [e] X.env = [(false, eval e X.env)] := by rfl) :
    PI X (.Tuple elts kk tpos) (.Call (.Name "enumerate" p) [e] [] pos) (iEnumU K ta) := h ▸ pi_enumU hg hm ha hs
theorem pg_tupK (K : PySem.W.Frag) {es : List Expr} {k : Nat} {t : TGs} {n : Nat} {pos : Pos} (hc : X.calm = true) (ht : PGs X es t) (h : X.K = K := by rfl)
    (hn : (assignEach es X.env).length = n := by rfl) (hst : (assignEach es X.env).findIdx? (·.1) = none := by rfl) : PG X (.Tuple es k pos) (gTup K n t) := h ▸ pg_tup hc ht hn hst
theorem pe_fldK (K : PySem.W.Frag) {e : Expr} {ta : TE} {f : Str} {pos : Pos} (he : PE X e ta) (hb : attributeBase e f X.env (eval e X.env) = eval e X.env) (h : X.K = K := by rfl) : PE X (.Attribute e f pos) (tFld K ta f) := h ▸ pe_fld he hb
theorem pe_bmK (K : PySem.W.Frag) {T id : String} {name : Str} {r : V → List V → Hp → VK → Prop} {o e : Expr} {es : List Expr} {to : TE} {t : TA} {apos cpos : Pos} (pa : PlainAttrs T) (slot : Slot T name id) (hty : typeOf (.builtin id) = pure (.type "method_descriptor")) (hm : MtR X id r) (ho : PE X o to) (ha : PA X (e :: es) t) (h : X.K = K := by rfl)
    (hbase : attributeBase o name X.env (eval o X.env) = eval o X.env := by rfl)
    (hfew : ((backTo cpos (starEach (e :: es) X.env)).all (fun x => !x.1) && (backToKw cpos (keywordEach [] X.env)).all (fun x => x.1.isSome)
      && decide ((e :: es).length + ([] : List Keyword).length + (if ([] : List Keyword).isEmpty then 0 else 1) < 30)) = true := by rfl)
    (hline : (apos.endLine == cpos.line) = true := by rfl) (hs : starEach (e :: es) X.env = (false, eval e X.env) :: starEach es X.env := by rfl) (hplain : (backTo cpos (starEach es X.env)).any (·.1) = false := by rfl) :
    PE X (.Call (.Attribute o name apos) (e :: es) [] cpos) (tBM K T r to t) := h ▸ pe_bm pa slot hty hm ho ha hbase hfew hline hs hplain
theorem pe_bm0K (K : PySem.W.Frag) {T id : String} {name : Str} {r : V → List V → Hp → VK → Prop} {o : Expr} {to : TE} {apos cpos : Pos} (pa : PlainAttrs T) (slot : Slot T name id) (hty : typeOf (.builtin id) = pure (.type "method_descriptor")) (hm : MtR X id r) (ho : PE X o to) (h : X.K = K := by rfl)
    (hbase : attributeBase o name X.env (eval o X.env) = eval o X.env := by rfl) (hline : (apos.endLine == cpos.line) = true := by rfl) : PE X (.Call (.Attribute o name apos) [] [] cpos) (tBM0 K T r to) := h ▸ pe_bm0 pa slot hty hm ho hbase hline
theorem pe_callQ {P : Program} {w : World} (K : PySem.W.Frag) {mg : Str → Option Value} {base : Heap} {k : Nat} {ps : List Str} {g : SpG} {x : Str} {p pos : Pos} {e : Expr} {es : List Expr} {t : TA} (c : Cal P w K mg base x ps k g) (hr : Room k X.A) (hg : Gl X x) (ha : PA X (e :: es) t)
    (h : X.K = K := by rfl) (h1 : X.prog = P := by rfl) (h2 : X.w = w := by rfl) (h3 : X.mg = mg := by rfl) (h4 : X.base = base := by rfl)
    (hdb : (x == ("__debug__" : Str)) = false := by decide) (he : starEach (e :: es) X.env = (false, eval e X.env) :: starEach es X.env := by rfl) (hpl : (backTo pos (starEach es X.env)).any (·.1) = false := by rfl) :
    PE X (.Call (.Name x p) (e :: es) [] pos) (tCall (spOf K g) [] E0 t) := by
  subst h h1 h2 h3 h4
  exact pe_callC c hr hg ha hdb he hpl
theorem pe_callQ0 {P : Program} {w : World} (K : PySem.W.Frag) {mg : Str → Option Value} {base : Heap} {k : Nat} {ps : List Str} {g : SpG} {x : Str} {p pos : Pos} (c : Cal P w K mg base x ps k g) (hr : Room k X.A) (hg : Gl X x)
    (h : X.K = K := by rfl) (h1 : X.prog = P := by rfl) (h2 : X.w = w := by rfl) (h3 : X.mg = mg := by rfl) (h4 : X.base = base := by rfl)
    (hdb : (x == ("__debug__" : Str)) = false := by decide) : PE X (.Call (.Name x p) [] [] pos) (tCall (spOf K g) [] E0 tNil) := by
  subst h h1 h2 h3 h4
  exact pe_callC0 c hr hg hdb
end
end RS
namespace RS
open PySem PySem.Spec PyProof.Rows L2
theorem br_t {A B : Prop} (h : A) : (true = true → A) ∧ (true = false → B) := ⟨fun _ => h, fun z => by cases z⟩
theorem br_f {A B : Prop} (h : B) : (false = true → A) ∧ (false = false → B) := ⟨fun z => (by cases z), fun _ => h⟩
theorem br_nt {A B : Prop} (h : B) : ((!true) = true → A) ∧ ((!true) = false → B) := br_f h
theorem br_nf {A B : Prop} (h : A) : ((!false) = true → A) ∧ ((!false) = false → B) := br_t h
/-- an undecided test over a proposition -/
theorem br_d {p : Prop} [Decidable p] {A B : Prop} (h1 : p → A) (h2 : ¬ p → B) : (decide p = true → A) ∧ (decide p = false → B) := ⟨fun h => h1 (of_decide_eq_true h), fun h => h2 (of_decide_eq_false h)⟩
theorem br_n {p : Prop} [Decidable p] {A B : Prop} (h1 : ¬ p → A) (h2 : p → B) : ((!decide p) = true → A) ∧ ((!decide p) = false → B) := by
  by_cases h : p
  · rw [decide_eq_true h]; exact br_f (h2 h)
  · rw [decide_eq_false h]; exact br_t (h1 h)
theorem setC_setC {S : Store} {a : Addr} {c c' : Cell} : setC (setC S a c) a c' = setC S a c' := by
  unfold setC
  rw [List.map_map]
  apply List.map_congr_left
  intro p _
  show (if (if p.1 = a then (a, c) else p).1 = a then (a, c') else (if p.1 = a then (a, c) else p)) = if p.1 = a then (a, c') else p
  by_cases h : p.1 = a
  · rw [if_pos h, if_pos rfl, if_pos h]
  · rw [if_neg h, if_neg h]
section
variable {K : PySem.W.Frag} {S S' : Store} {G G' : Env'} {N : EndsD} {t u : TS}
theorem x_mono {M M' : Env' → Store → Prop} (h : ExG K t G S (N.nxt M)) (k : ∀ G' S', M G' S' → M' G' S') : ExG K t G S (N.nxt M') := fun σ H E e f =>
  h σ H E e ⟨fun G1 S1 σ1 H1 n s e1 => f.nx G1 S1 σ1 H1 (k _ _ n) s e1, f.rt, f.bk, f.ct⟩
/-- a word between a statement and what follows -/
theorem x_cut (M : Env' → Store → Prop) (h1 : ExG K t G S (N.nxt M)) (h2 : ∀ G' S', M G' S' → ExG K u G' S' N) : ExG K (tSeq t u) G S N := x_seq (x_mono h1 h2)
end
end RS
namespace RS
open PySem PySem.Spec PyProof.Rows L2
/-! ### lists that will be changed: the same readings by other names -/
def tLstC (t : TA) : TE := tLst t
def tLcC (wi : TI) (g : TG) (tt : TT) (te : TE) (vs : List Nat) : TE := tLc wi g tt te vs
def cListC (K : PySem.W.Frag) : List V → Hp → VK → Prop := cList K
section
variable {X : Cx}
theorem pe_lstC {es : List Expr} {t : TA} {pos : Pos} (h : PE X (.List es pos) (tLst t)) : PE X (.List es pos) (tLstC t) := h
theorem ps_lcC {st : Stmt} {wi : TI} {g : TG} {tt : TT} {te : TE} {vs : List Nat} {i : Nat} (h : PS X st (tAsg (tLc wi g tt te vs) (gName i))) : PS X st (tAsg (tLcC wi g tt te vs) (gName i)) := h
theorem pe_lcC {e : Expr} {wi : TI} {g : TG} {tt : TT} {te : TE} {vs : List Nat} (h : PE X e (tLc wi g tt te vs)) : PE X e (tLcC wi g tt te vs) := h
theorem cr_listCK (K : PySem.W.Frag) (h : X.K = K := by rfl) : CallR X (.type "list") (cListC K) := cr_listK K h
end
section
variable {K : PySem.W.Frag} {S : Store} {G : Env'} {P : PD}
theorem g_lstD {t : TA} (h : EvA K t G S fun xs S1 => xs.length ≤ 100000 ∧ ∀ l, ¬ dom S1 l → P (.ref l) ((l, .lst xs) :: S1)) : EvG K (tLstC t) G S P := g_lstC h
theorem g_lcD {wi : TI} {g : TG} {tt : TT} {te : TE} {vs : List Nat} (wo : WipeOk g vs)
    (h : IG K wi G S fun its S1 => its.length ≤ 100000 ∧ ∃ W : Nat → List D → Store → Prop, W 0 [] S1 ∧
      (∀ i d ds S' l, its[i]? = some d → W i ds S' → ¬ dom S' l → TgG K g d (wipeG G vs) ((l, .lst ds) :: S') fun G2 S2 => EvT K tt G2 S2 fun b S3 =>
        (b = true → EvG K te G2 S3 fun y S4 => ∃ S5, S4 = (l, .lst ds) :: S5 ∧ W (i + 1) (ds ++ [y]) S5) ∧ (b = false → ∃ S5, S3 = (l, .lst ds) :: S5 ∧ W (i + 1) ds S5)) ∧
      ∀ ds S' l, W its.length ds S' → ¬ dom S' l → P (.ref l) ((l, .lst ds) :: S')) : EvG K (tLcC wi g tt te vs) G S P := g_lcC wo h
theorem c_listC {d : D} {ds : List D} (hd : d = .lst ds ∨ d = .tup ds) (k : ∀ l, ¬ dom S l → P (.ref l) ((l, .lst ds) :: S)) : CbG K (cListC K) [d] S P := fun H vs st r Q q => by
  cases r with
  | cons r1 r2 =>
    cases r2
    rcases hd with rfl | rfl
    · obtain ⟨a, xs, e, hs, ra⟩ := r1.lstV
      subst e
      refine ⟨a, xs, rfl, .inl (SqL.of hs), fun p hp => ?_⟩
      exact q _ _ _ _ (k p (st.nodom hp)) (.cell st hp ⟨xs, upd_same, ra.lift (Lift.newCell hp)⟩) (.ref p)
    · obtain ⟨a, xs, e, hs, ra⟩ := r1.tupV
      subst e
      refine ⟨a, xs, rfl, .inr hs, fun p hp => ?_⟩
      exact q _ _ _ _ (k p (st.nodom hp)) (.cell st hp ⟨xs, upd_same, ra.lift (Lift.newCell hp)⟩) (.ref p)
end
end RS
namespace RS
open PySem PySem.Spec PyProof.Rows L2
theorem law_start {K : PySem.W.Frag} (H : Hp) (a : Addr) (ns : List Int) (hl : ns.length ≤ 63) (hO : L2.Only H) (hS : SqL K H a (ns.map V.int)) : spOf K spLaw [.ref a] H (fun v _ => v = .bl true) fun _ _ _ => False := by
  refine ⟨[.frz ns], [], ⟨List.nodup_nil, fun _ _ m => by cases m⟩, .cons ?_ .nil, ns, rfl, rfl, hl, fun S' v H' _ r => r.blV⟩
  rcases hS with (h | ⟨o, h⟩) | h
  · rcases hO a with e | ⟨o, xs, e⟩
    · rw [e] at h; cases h
    · rw [e] at h; cases h
  · exact .frz h fun z => by cases z
  · exact .frzK fun _ => .inr h
/-! ### == of plain data -/
def PyOk (k : Nat) (d : D) : Prop := ∃ p, toPy d = some p ∧ p.canLay0 = true ∧ p.depth ≤ k
theorem PyOk.int {k : Nat} (i : Int) : PyOk k (.int i) := ⟨.int i, rfl, rfl, Nat.zero_le _⟩
theorem pys_ok {k : Nat} : ∀ {ds : List D}, (∀ d ∈ ds, PyOk k d) → ∃ ps, toPys ds = some ps ∧ PyData.canLayAll0 ps = true ∧ PyData.depthAll ps ≤ k
  | [], _ => ⟨[], rfl, rfl, Nat.zero_le _⟩
  | d :: ds, h => by
    obtain ⟨p, h1, h2, h3⟩ := h d List.mem_cons_self
    obtain ⟨ps, h4, h5, h6⟩ := pys_ok (ds := ds) fun x hx => h x (List.mem_cons_of_mem _ hx)
    refine ⟨p :: ps, ?_, ?_, ?_⟩
    · unfold toPys; rw [h1, h4]; rfl
    · unfold PyData.canLayAll0; rw [h2, h5]; rfl
    · unfold PyData.depthAll; omega
theorem PyOk.tup {k : Nat} {ds : List D} (h : ∀ d ∈ ds, PyOk k d) : PyOk (k + 1) (.tup ds) := by
  obtain ⟨ps, h1, h2, h3⟩ := pys_ok h
  refine ⟨.tuple ps, ?_, ?_, ?_⟩
  · unfold toPy; rw [h1]; rfl
  · unfold PyData.canLay0; exact h2
  · unfold PyData.depth; omega
theorem PyOk.lst {k : Nat} {ds : List D} (h : ∀ d ∈ ds, PyOk k d) : PyOk (k + 1) (.lst ds) := by
  obtain ⟨ps, h1, h2, h3⟩ := pys_ok h
  refine ⟨.list ps, ?_, ?_, ?_⟩
  · unfold toPy; rw [h1]; rfl
  · unfold PyData.canLay0; exact h2
  · unfold PyData.depth; omega
theorem shaped_of {p : PyData} {k : Nat} (h1 : p.canLay0 = true) (h2 : p.depth ≤ k) (h3 : k ≤ 64) : SeqAt.shaped p = true := by
  unfold SeqAt.shaped
  rw [h1, decide_eq_true (Nat.le_trans h2 h3)]
  rfl
section
variable {K : PySem.W.Frag} {S : Store} {P : PD} {d : D}
theorem o_neSelf {k : Nat} (h : PyOk k d) (hk : k ≤ 64) (q : P (.bl false) S) : OpG K (rNeU K) d d S P := by
  obtain ⟨p, h1, h2, h3⟩ := h
  refine o_neD h1 h1 (shaped_of h2 h3 hk) (shaped_of h2 h3 hk) ?_
  rw [SeqAt.eqv_refl p h2]
  exact q
theorem o_eqSelf {k : Nat} (h : PyOk k d) (hk : k ≤ 64) (q : P (.bl true) S) : OpG K (rEqU K) d d S P := by
  obtain ⟨p, h1, h2, h3⟩ := h
  refine o_eqD h1 h1 (shaped_of h2 h3 hk) (shaped_of h2 h3 hk) ?_
  rw [SeqAt.eqv_refl p h2]
  exact q
end
end RS

set_option Elab.async false
set_option linter.all false
set_option maxRecDepth 100000
set_option maxHeartbeats 4000000
namespace K13
open PySem PySem.Spec PyProof.Rows L2 RS
def top (i : Nat) : Stmt := PySem.Challenge.pw_ringsums_k13_rows_cut_in_pieces.main.body.getD i (.Pass ⟨0, 0, 0, 0⟩)
abbrev s_cuts : Stmt := top 1
abbrev N_cuts : List Str := ["length", "n", "piece"]
abbrev p_cuts : List Str := ["length", "n"]
theorem sc_cuts : FnScope N_cuts p_cuts (defScope s_cuts) := ⟨rfl, rfl, rfl, by decide +kernel, rfl, by decide +kernel, by decide +kernel⟩
abbrev s_box : Stmt := top 3
abbrev N_box : List Str := ["_law_script", "_law_k", "_law_own", "_law_cell", "_law_seed"]
abbrev p_box : List Str := ["_law_script", "_law_k", "_law_own"]
theorem sc_box : FnScope N_box p_box (defScope s_box) := ⟨rfl, rfl, rfl, by decide +kernel, rfl, by decide +kernel, by decide +kernel⟩
abbrev s_take : Stmt := top 4
abbrev N_take : List Str := ["_law_box_here", "_law_many", "_law_digit", "_law_raw", "_law_wide"]
abbrev p_take : List Str := ["_law_box_here", "_law_many"]
theorem sc_take : FnScope N_take p_take (defScope s_take) := ⟨rfl, rfl, rfl, by decide +kernel, rfl, by decide +kernel, by decide +kernel⟩
abbrev s_pick : Stmt := top 5
abbrev N_pick : List Str := ["_law_box_here", "_law_items"]
abbrev p_pick : List Str := ["_law_box_here", "_law_items"]
theorem sc_pick : FnScope N_pick p_pick (defScope s_pick) := ⟨rfl, rfl, rfl, by decide +kernel, rfl, by decide +kernel, by decide +kernel⟩
abbrev s_is_right : Stmt := top 6
abbrev N_is_right : List Str := ["_law_size", "_law_n", "_law_found", "_law_piece", "_law_pair", "_law_sizes", "_law_begin", "_law_end", "_law_one"]
abbrev p_is_right : List Str := ["_law_size", "_law_n"]
theorem sc_is_right : FnScope N_is_right p_is_right (defScope s_is_right) := ⟨rfl, rfl, rfl, by decide +kernel, rfl, by decide +kernel, by decide +kernel⟩
abbrev s_law : Stmt := top 7
abbrev N_law : List Str := ["_law_script", "_law_k", "_law_box_here", "_law_turn", "_law_size", "_law_n"]
abbrev p_law : List Str := ["_law_script"]
theorem sc_law : FnScope N_law p_law (defScope s_law) := ⟨rfl, rfl, rfl, by decide +kernel, rfl, by decide +kernel, by decide +kernel⟩
local macro_rules | `(tactic| walk_at "lk") => `(tactic| first | assumption | ((refine lookup_setC (c := ?gc) ?gh); (case gh => walk_at "lk")))
local macro_rules | `(tactic| walk_at "e") => `(tactic| first
  | ((with_reducible refine g_var (d := ?gd) ?gv ?_); (case gv => rfl)) | with_reducible refine g_int ?_ | with_reducible refine g_str ?_ | with_reducible refine g_bl ?_ | with_reducible refine g_non ?_ | with_reducible refine g_ty ?_
  | with_reducible refine g_op ?_ | with_reducible refine g_un ?_ | with_reducible refine g_and ?_ | with_reducible refine g_or ?_ | with_reducible refine g_not ?_ | with_reducible refine g_if ?_ | with_reducible refine g_chain ?_ | with_reducible refine g_tup ?_ | with_reducible refine g_lst ?_ | with_reducible refine g_lstD ?_ | with_reducible refine g_cb ?_ | with_reducible refine g_bm ?_
  | with_reducible refine a_cons ?_ | with_reducible refine a_nil ?_
  | with_reducible refine t_test ?_ | with_reducible refine t_b ?_ | with_reducible refine t_and ?_ | with_reducible refine t_or ?_ | with_reducible refine t_not ?_ | with_reducible refine t_yes ?_
  | with_reducible refine o_addI ?_ | with_reducible refine o_subI ?_ | with_reducible refine o_lt ?_ | with_reducible refine o_le ?_ | with_reducible refine o_gt ?_ | with_reducible refine o_ge ?_ | with_reducible refine o_eqI ?_ | with_reducible refine o_neI ?_ | with_reducible refine o_eqS ?_ | with_reducible refine o_neS ?_
  | with_reducible refine u_neg ?_ | with_reducible refine c_abs ?_ | with_reducible refine c_int ?_ | with_reducible refine c_intB ?_ | with_reducible refine c_max2 ?_ | with_reducible refine c_min2 ?_ | with_reducible refine c_lenT ?_ | with_reducible refine c_lenL ?_ | with_reducible refine c_lenF ?_
  | with_reducible refine c_tupleL ?_ | with_reducible refine c_tupleT ?_
  | ((with_reducible refine o_mulI ?gv ?_); (case gv => omega)) | ((with_reducible refine o_modI ?gv ?_); (case gv => omega)) | ((with_reducible refine o_divI ?gv ?_); (case gv => omega))
  | ((with_reducible refine o_powI ?gv ?_); (case gv => decide))
  | ((with_reducible refine o_ixT (d := ?gd) ?gv ?_); (case gv => rfl)) | ((with_reducible refine o_ixL (d := ?gd) ?gv ?_); (case gv => rfl))
  | ((with_reducible refine o_ixC (ds := ?gs) (d := ?gd) ?gl ?gv ?_); (case gl => walk_at "lk"); (case gv => rfl))
  | ((with_reducible refine c_isi (t := ?gt) (b := ?gb) ?gv ?gw ?gk ?_); (case gv => rfl); (case gw => (intro ns h; cases h)); (case gk => rfl))
  | with_reducible refine tg_name ?_ | with_reducible refine tg_setC ?_
  | ((with_reducible refine c_lenC (ds := ?gs) ?gl ?_); (case gl => walk_at "lk"))
  | ((refine ⟨_, ?gs, _, ?gj, rfl, rfl, ?gl, ?gi, ?_⟩); (case gl => walk_at "lk"); (case gi => rfl))
  | refine ⟨Nat.le_of_ble_eq_true rfl, ?_⟩ | refine ⟨_, rfl, ?_⟩ | with_reducible refine br_t ?_ | with_reducible refine br_f ?_ | with_reducible refine br_nt ?_ | with_reducible refine br_nf ?_)
local macro_rules | `(tactic| walk_at "s") => `(tactic| first
  | with_reducible refine x_seq ?_ | with_reducible refine x_set ?_ | with_reducible refine x_if ?_ | with_reducible refine x_ret ?_ | with_reducible refine x_drop ?_ | with_reducible refine x_par ?_ | with_reducible refine x_asg ?_ | with_reducible refine x_next ?_ | walk_at "e")
local macro_rules | `(tactic| walk_at "g") => `(tactic| repeat (first | walk_at "s" | (dsimp only; walk_at "s")))
local macro_rules | `(tactic| walk_at "a1") => `(tactic| first
  | with_reducible refine x_seq (t := tAsg _ _) ?_ | with_reducible refine x_seq (t := tDrop _) ?_ | with_reducible refine x_seq (t := tPar _ _ _) ?_ | with_reducible refine x_set ?_ | with_reducible refine x_ret ?_ | with_reducible refine x_drop ?_ | with_reducible refine x_par ?_ | with_reducible refine x_asg ?_ | with_reducible refine x_next ?_ | walk_at "e")
local macro_rules | `(tactic| walk_at "a") => `(tactic| repeat (first | walk_at "a1" | (dsimp only; walk_at "a1")))

section
variable {P : Program} {w : World} {K : PySem.W.Frag} {mg : Str → Option Value} {base : Heap} {f : Addr} {fd : FuncData}
abbrev cutD (L n : Int) (i : Nat) : D := .tup [.int ((i : Int) * L / n), .int (((i : Int) + 1) * L / n)]
def cutsD (L n : Int) : D := .tup ((rangeD 0 n.toNat).mapIdx fun i _ => cutD L n i)
def spCuts : SpG := fun ds S P => ∃ L n, ds = [.int L, .int n] ∧ 0 ≤ L ∧ L < 2 ^ 40 ∧ 0 < n ∧ n ≤ 1000 ∧ P (cutsD L n) S
theorem ok_cuts (T : Bl mg) (F : FnP K "cuts" "cuts" s_cuts f fd) : FnOk P w K mg base CX0 1 f fd p_cuts (spOf K spCuts) := by
  refine ok_of F sc_cuts (fun ds S P h => by obtain ⟨L, n, rfl, _⟩ := h; rfl) fun cdv A outer s H E hr => ⟨_, (pss_one (ps_ret (pe_callTy (cr_tupleK K) (by rfl) T.tuple (by decide +kernel) (pa_cons (pe_lc (own := [("piece", 2)]) (by rfl) sc_cuts.nd (pi_range1 (by rfl) T.range (pa_cons (pv 1) pa_nil)) (blkOk_by (own := [("piece", 2)]) (N := N_cuts) (sc := defScope s_cuts) (by decide +kernel)) (fun _ _ _ _ _ => (pg_name (i := 2) sc_cuts.nd rfl (by first | exact Or.inl rfl | exact Or.inr rfl))) (fun _ _ _ _ _ => pts_nil) (fun _ _ _ _ _ => (pe_tup (pa_cons (pe_op op_divU (pe_op op_mulU (pv 2) (pv 0)) (pv 1)) (pa_cons (pe_op op_divU (pe_op op_mulU (pe_op (op_addK K) (pv 2) pe_int) (pv 0)) (pv 1)) pa_nil))))) pa_nil)))), ?_⟩
  rintro ds S P ⟨L, n, rfl, h1, h2, h3, h4, k⟩
  walk_at "g"
  refine g_map (f := fun i _ => cutD L n i) (wo_name (by decide)) (i_rng1 ?_)
  walk_at "g"
  refine ⟨by omega, by rw [rangeD_len]; omega, fun i d ds l hi nd => ?_, ?_⟩
  · obtain ⟨hi, rfl⟩ := rangeD_get hi
    walk_at "g"
    exact ⟨by rw [Int.zero_add], rfl⟩
  · walk_at "g"
    exact k
theorem ok_box (T : Bl mg) (F : FnP K "_law_box" "_law_box" s_box f fd) : FnOk P w K mg base CX0 1 f fd p_box (spOf K (spBox 1)) := by
  refine ok_of F sc_box (fun ds S P h => by obtain ⟨ns, k, own, rfl, _⟩ := h; rfl) fun cdv A outer s H E hr => ⟨_, (pss_cons (ps_set (i := 3) sc_box.nd rfl (by first | exact Or.inl rfl | exact Or.inr rfl) (pe_op (op_addK K) (pe_op (op_addK K) (pe_op op_mulU pe_int (pv 1)) (pe_op op_mulU pe_int (pv 2))) pe_int))
  (pss_cons (ps_if (pt_cmpR op_ltU (pv 1) (pe_callB (cr_lenK K) (by rfl) T.len (by decide +kernel) (pa_cons (pv 0) pa_nil)) (nomark _)) (pss_one (ps_set (i := 3) sc_box.nd rfl (by first | exact Or.inl rfl | exact Or.inr rfl) (pe_callB cr_abs (by rfl) T.abs (by decide +kernel) (pa_cons (pe_ix (ix_K K) (pv 0) (pv 1) (fun _ _ => rfl)) pa_nil)))) (pss_one (ps_if (pt_cmpR op_gtU (pe_callB (cr_lenK K) (by rfl) T.len (by decide +kernel) (pa_cons (pv 0) pa_nil)) pe_int (nomark _)) (pss_one (ps_set (i := 3) sc_box.nd rfl (by first | exact Or.inl rfl | exact Or.inr rfl) (pe_op (op_addK K) (pv 3) (pe_op op_mulU (pe_op op_modU (pe_callTy cr_int (by rfl) T.int (by decide +kernel) (pa_cons (pe_callB cr_abs (by rfl) T.abs (by decide +kernel) (pa_cons (pe_ix (ix_K K) (pv 0) (pe_op op_modU (pe_callTy cr_int (by rfl) T.int (by decide +kernel) (pa_cons (pv 1) pa_nil)) (pe_callB (cr_lenK K) (by rfl) T.len (by decide +kernel) (pa_cons (pv 0) pa_nil))) (fun _ _ => rfl)) pa_nil)) pa_nil)) pe_int) pe_int)))) pss_nil)))
  (pss_cons (ps_set (i := 4) sc_box.nd rfl (by first | exact Or.inl rfl | exact Or.inr rfl) (pe_op (op_addK K) (pe_op op_modU (pe_callTy cr_int (by rfl) T.int (by decide +kernel) (pa_cons (pe_op (op_addK K) (pe_op op_mulU (pe_op op_modU (pe_callTy cr_int (by rfl) T.int (by decide +kernel) (pa_cons (pv 3) pa_nil)) pe_int) pe_int) (pe_op op_mulU pe_int (pe_op (op_addK K) (pv 1) (pe_op op_mulU pe_int (pv 2))))) pa_nil)) pe_int) pe_int))
  (pss_one (ps_ret (pe_lstC (pe_lst (pa_cons (pe_ix (ix_K K) (pe_lst (pa_cons pe_int (pa_cons (pv 3) pa_nil))) (pe_callTy cr_int (by rfl) T.int (by decide +kernel) (pa_cons (pe_cmpR op_geU (pv 3) (pe_op op_powU pe_int pe_int) (nomark _)) pa_nil)) (fun _ _ => rfl)) (pa_cons (pv 4) (pa_cons pe_int pa_nil)))))))))), ?_⟩
  rintro ds S P ⟨ns, k, own, rfl, h1, h2, h3, h4, hk⟩
  walk_at "a"
  refine x_cut (fun G' S' => S' = S ∧ ∃ c : Int, G' = [some (.frz ns), some (.int k), some (.int own), some (.int c), none]) ?_ ?_
  · walk_at "g"
    refine br_d (fun h => ?_) (fun h => ?_)
    · walk_at "g"
      refine o_ixF (n := ns[k.toNat]'(by omega)) (atI_of h1 (List.getElem?_eq_getElem _)) ?_
      walk_at "g"
      exact ⟨rfl, _, rfl⟩
    · walk_at "g"
      refine br_d (fun h => ?_) (fun h => ?_)
      · walk_at "g"
        have hm : 0 ≤ k % (ns.length : Int) ∧ k % (ns.length : Int) < ns.length := ⟨Int.emod_nonneg _ (by omega), Int.emod_lt_of_pos _ (by omega)⟩
        refine o_ixF (n := ns[(k % (ns.length : Int)).toNat]'(by omega)) (atI_of hm.1 (List.getElem?_eq_getElem _)) ?_
        walk_at "g"
        exact ⟨rfl, _, rfl⟩
      · walk_at "g"
        exact ⟨rfl, _, rfl⟩
  · rintro G' S' ⟨rfl, c, rfl⟩
    walk_at "g"
    have e : ∃ z : Int, atI [D.int 0, D.int c] (if decide ((10 : Int) ^ Int.toNat 18 ≤ c) = true then 1 else 0) = some (.int z) := by
      split
      · exact ⟨c, rfl⟩
      · exact ⟨0, rfl⟩
    obtain ⟨z, hz⟩ := e
    refine o_ixL hz ?_
    walk_at "g"
    exact fun l nl => hk l _ _ _ nl
theorem ok_take (T : Bl mg) (F : FnP K "_law_take" "_law_take" s_take f fd) : FnOk P w K mg base CX0 1 f fd p_take (spOf K (spTake 1073741824)) := by
  refine ok_of F sc_take (fun ds S P h => by obtain ⟨b, m, rfl, _⟩ := h; rfl) fun cdv A outer s H E hr => ⟨_, (pss_cons (ps_if (pt_cmpR op_gtU (pe_ix (ix_K K) (pv 0) pe_int (fun _ _ => rfl)) pe_int (nomark _)) (pss_cons (ps_set (i := 2) sc_take.nd rfl (by first | exact Or.inl rfl | exact Or.inr rfl) (pe_op op_modU (pe_callTy cr_int (by rfl) T.int (by decide +kernel) (pa_cons (pe_ix (ix_K K) (pv 0) pe_int (fun _ _ => rfl)) pa_nil)) (pv 1)))
  (pss_cons (ps_asg (pe_op op_divU (pe_ix (ix_K K) (pv 0) pe_int (fun _ _ => rfl)) (pv 1)) (pg_sub (pv 0) pe_int set_list))
  (pss_one (ps_ret (pv 2))))) pss_nil)
  (pss_cons (ps_asg (pe_op (op_addK K) (pe_ix (ix_K K) (pv 0) pe_int (fun _ _ => rfl)) pe_int) (pg_sub (pv 0) pe_int set_list))
  (pss_cons (ps_set (i := 3) sc_take.nd rfl (by first | exact Or.inl rfl | exact Or.inr rfl) (pe_op op_modU (pe_callTy cr_int (by rfl) T.int (by decide +kernel) (pa_cons (pe_op op_mulU (pe_op (op_addK K) (pe_ix (ix_K K) (pv 0) pe_int (fun _ _ => rfl)) (pe_op op_mulU pe_int (pe_ix (ix_K K) (pv 0) pe_int (fun _ _ => rfl)))) pe_int) pa_nil)) pe_int))
  (pss_cons (ps_asg (pe_op (op_addK K) (pe_op op_modU (pe_callTy cr_int (by rfl) T.int (by decide +kernel) (pa_cons (pe_op (op_addK K) (pe_op op_mulU (pv 3) pe_int) pe_int) pa_nil)) pe_int) pe_int) (pg_sub (pv 0) pe_int set_list))
  (pss_cons (ps_if (pt_cmpR op_ltU (pv 1) (pe_op op_powU pe_int pe_int) (nomark _)) (pss_one (ps_ret (pe_op op_modU (pe_callTy cr_int (by rfl) T.int (by decide +kernel) (pa_cons (pe_op op_divU (pe_op (op_addK K) (pe_op op_mulU (pv 3) pe_int) (pe_ix (ix_K K) (pv 0) pe_int (fun _ _ => rfl))) pe_int) pa_nil)) (pv 1)))) pss_nil)
  (pss_cons (ps_set (i := 4) sc_take.nd rfl (by first | exact Or.inl rfl | exact Or.inr rfl) (pe_op op_mulU (pe_op (op_addK K) (pe_op op_mulU (pv 3) pe_int) (pe_ix (ix_K K) (pv 0) pe_int (fun _ _ => rfl))) (pe_op op_powU pe_int pe_int)))
  (pss_one (ps_ret (pe_op op_modU (pe_callTy cr_int (by rfl) T.int (by decide +kernel) (pa_cons (pe_op (op_addK K) (pe_op (op_addK K) (pv 4) (pe_op op_mulU (pe_op op_powU (pe_ix (ix_K K) (pv 0) pe_int (fun _ _ => rfl)) pe_int) pe_int)) (pv 3)) pa_nil)) (pv 1)))))))))), ?_⟩
  rintro ds S P ⟨b, m, rfl, ⟨w0, s0, c0, hb⟩, h1, h2, hk⟩
  unfold bx at hb
  walk_at "g"
  refine br_d (fun h => ?_) (fun h => ?_)
  · walk_at "g"
    exact hk _ _ _ _ (Int.emod_nonneg _ (by omega)) (Int.emod_lt_of_pos _ h1)
  · walk_at "g"
    refine br_d (fun h => ?_) (fun h => ?_)
    · walk_at "g"
      rw [setC_setC]
      exact hk _ _ _ _ (Int.emod_nonneg _ (by omega)) (Int.emod_lt_of_pos _ h1)
    · exact absurd (show m < (2 : Int) ^ (40 : Int).toNat from Int.lt_trans h2 (by decide)) h
theorem ok_pick (T : Bl mg) (c_take : Cal P w K mg base "_law_take" p_take 1 (spTake 1073741824)) (F : FnP K "_law_pick" "_law_pick" s_pick f fd) : FnOk P w K mg base CX0 2 f fd p_pick (spOf K spPick) := by
  refine ok_of F sc_pick (fun ds S P h => by obtain ⟨b, m, rfl, _⟩ := h; rfl) fun cdv A outer s H E hr => ⟨_, (pss_one (ps_ret (pe_ix (ix_K K) (pv 1) (pe_callQ K c_take (hr.mono (by decide)) rfl (pa_cons (pv 0) (pa_cons (pe_callB (cr_lenK K) (by rfl) T.len (by decide +kernel) (pa_cons (pv 1) pa_nil)) pa_nil))) (fun _ _ => rfl)))), ?_⟩
  rintro ds S P ⟨b, its, rfl, hb, h1, h2, hk⟩
  walk_at "g"
  refine g_call ?_ mono_take
  walk_at "g"
  refine ⟨_, _, rfl, hb, by omega, by omega, fun r w s c h3 h4 => ?_⟩
  refine o_ixL (d := its[r.toNat]'(by omega)) (atI_of h3 (List.getElem?_eq_getElem _)) ?_
  exact hk _ _ _ _ _ (List.getElem?_eq_getElem _)
end
end K13

set_option Elab.async false
set_option linter.all false
set_option maxRecDepth 100000
set_option maxHeartbeats 4000000
namespace K13
open PySem PySem.Spec PyProof.Rows L2 RS
local macro_rules | `(tactic| walk_at "lk") => `(tactic| first | assumption | ((refine lookup_setC (c := ?gc) ?gh); (case gh => walk_at "lk")))
local macro_rules | `(tactic| walk_at "e") => `(tactic| first
  | ((with_reducible refine g_var (d := ?gd) ?gv ?_); (case gv => rfl)) | with_reducible refine g_int ?_ | with_reducible refine g_str ?_ | with_reducible refine g_bl ?_ | with_reducible refine g_non ?_ | with_reducible refine g_ty ?_
  | with_reducible refine g_op ?_ | with_reducible refine g_un ?_ | with_reducible refine g_and ?_ | with_reducible refine g_or ?_ | with_reducible refine g_not ?_ | with_reducible refine g_if ?_ | with_reducible refine g_chain ?_ | with_reducible refine g_tup ?_ | with_reducible refine g_lst ?_ | with_reducible refine g_lstD ?_ | with_reducible refine g_cb ?_ | with_reducible refine g_bm ?_
  | with_reducible refine a_cons ?_ | with_reducible refine a_nil ?_
  | with_reducible refine t_test ?_ | with_reducible refine t_b ?_ | with_reducible refine t_and ?_ | with_reducible refine t_or ?_ | with_reducible refine t_not ?_ | with_reducible refine t_yes ?_
  | with_reducible refine o_addI ?_ | with_reducible refine o_subI ?_ | with_reducible refine o_lt ?_ | with_reducible refine o_le ?_ | with_reducible refine o_gt ?_ | with_reducible refine o_ge ?_ | with_reducible refine o_eqI ?_ | with_reducible refine o_neI ?_ | with_reducible refine o_eqS ?_ | with_reducible refine o_neS ?_
  | with_reducible refine u_neg ?_ | with_reducible refine c_abs ?_ | with_reducible refine c_int ?_ | with_reducible refine c_intB ?_ | with_reducible refine c_max2 ?_ | with_reducible refine c_min2 ?_ | with_reducible refine c_lenT ?_ | with_reducible refine c_lenL ?_ | with_reducible refine c_lenF ?_
  | with_reducible refine c_tupleL ?_ | with_reducible refine c_tupleT ?_
  | ((with_reducible refine o_mulI ?gv ?_); (case gv => omega)) | ((with_reducible refine o_modI ?gv ?_); (case gv => omega)) | ((with_reducible refine o_divI ?gv ?_); (case gv => omega))
  | ((with_reducible refine o_powI ?gv ?_); (case gv => decide))
  | ((with_reducible refine o_ixT (d := ?gd) ?gv ?_); (case gv => rfl)) | ((with_reducible refine o_ixL (d := ?gd) ?gv ?_); (case gv => rfl))
  | ((with_reducible refine o_ixC (ds := ?gs) (d := ?gd) ?gl ?gv ?_); (case gl => walk_at "lk"); (case gv => rfl))
  | ((with_reducible refine c_isi (t := ?gt) (b := ?gb) ?gv ?gw ?gk ?_); (case gv => rfl); (case gw => (intro ns h; cases h)); (case gk => rfl))
  | with_reducible refine tg_name ?_ | with_reducible refine tg_setC ?_
  | ((with_reducible refine c_lenC (ds := ?gs) ?gl ?_); (case gl => walk_at "lk"))
  | ((refine ⟨_, ?gs, _, ?gj, rfl, rfl, ?gl, ?gi, ?_⟩); (case gl => walk_at "lk"); (case gi => rfl))
  | refine ⟨Nat.le_of_ble_eq_true rfl, ?_⟩ | refine ⟨_, rfl, ?_⟩ | with_reducible refine br_t ?_ | with_reducible refine br_f ?_ | with_reducible refine br_nt ?_ | with_reducible refine br_nf ?_)
local macro_rules | `(tactic| walk_at "s") => `(tactic| first
  | with_reducible refine x_seq ?_ | with_reducible refine x_set ?_ | with_reducible refine x_if ?_ | with_reducible refine x_ret ?_ | with_reducible refine x_drop ?_ | with_reducible refine x_par ?_ | with_reducible refine x_asg ?_ | with_reducible refine x_next ?_ | walk_at "e")
local macro_rules | `(tactic| walk_at "g") => `(tactic| repeat (first | walk_at "s" | (dsimp only; walk_at "s")))
local macro_rules | `(tactic| walk_at "a1") => `(tactic| first
  | with_reducible refine x_seq (t := tAsg _ _) ?_ | with_reducible refine x_seq (t := tDrop _) ?_ | with_reducible refine x_seq (t := tPar _ _ _) ?_ | with_reducible refine x_set ?_ | with_reducible refine x_ret ?_ | with_reducible refine x_drop ?_ | with_reducible refine x_par ?_ | with_reducible refine x_asg ?_ | with_reducible refine x_next ?_ | walk_at "e")
local macro_rules | `(tactic| walk_at "a") => `(tactic| repeat (first | walk_at "a1" | (dsimp only; walk_at "a1")))

theorem fl_add (x y n : Int) (h : 0 < n) : x / n + y / n ≤ (x + y) / n ∧ (x + y) / n ≤ x / n + y / n + 1 := by
  have h1 := Int.emod_add_mul_ediv x n
  have h2 := Int.emod_add_mul_ediv y n
  have b1 := Int.emod_nonneg x (Int.ne_of_gt h)
  have b2 := Int.emod_nonneg y (Int.ne_of_gt h)
  have c1 := Int.emod_lt_of_pos x h
  have c2 := Int.emod_lt_of_pos y h
  have e : (x % n + y % n) + n * (x / n + y / n) = x + y := by rw [Int.mul_add]; omega
  have e2 : (x + y) / n = (x % n + y % n) / n + (x / n + y / n) := by
    rw [← e, Int.add_mul_ediv_left _ _ (Int.ne_of_gt h)]
  rw [e2]
  have f1 : 0 ≤ (x % n + y % n) / n := Int.ediv_nonneg (by omega) (by omega)
  have f2 : (x % n + y % n) / n < 2 := Int.ediv_lt_of_lt_mul h (by omega)
  omega
def szI (L n : Int) (i : Nat) : Int := ((i : Int) + 1) * L / n - (i : Int) * L / n
theorem szI_le (L n : Int) (h : 0 < n) (i : Nat) : L / n ≤ szI L n i ∧ szI L n i ≤ L / n + 1 := by
  have := fl_add ((i : Int) * L) L n h
  unfold szI
  rw [Int.add_mul, Int.one_mul]
  omega
def cutsL (L n : Int) : List D := (rangeD 0 n.toNat).mapIdx fun i _ => cutD L n i
theorem cutsL_len (L n : Int) : (cutsL L n).length = n.toNat := by simp [cutsL, rangeD_len]
theorem cutsL_get {L n : Int} {i : Nat} (h : i < n.toNat) : (cutsL L n)[i]? = some (cutD L n i) := by
  unfold cutsL
  rw [List.getElem?_mapIdx, List.getElem?_eq_getElem (by rw [rangeD_len]; exact h)]
  rfl
theorem cutsL_get' {L n : Int} {i : Nat} {d : D} (h : (cutsL L n)[i]? = some d) : i < n.toNat ∧ d = cutD L n i := by
  have hi := (List.getElem?_eq_some_iff.mp h).1
  rw [cutsL_len] at hi
  rw [cutsL_get hi] at h
  exact ⟨hi, (Option.some.inj h).symm⟩
theorem cutsL_last {L n : Int} (h : 0 < n) : atI (cutsL L n) (-1) = some (cutD L n (n.toNat - 1)) := by
  have e : ixN (cutsL L n).length (-1) = some (n.toNat - 1) := by
    unfold ixN
    rw [cutsL_len, if_neg (by decide), if_pos (by omega)]
    congr 1
    omega
  show (ixN (cutsL L n).length (-1)).bind _ = _
  rw [e]
  exact cutsL_get (by omega)
section
variable {P : Program} {w : World} {K : PySem.W.Frag} {mg : Str → Option Value} {base : Heap} {f : Addr} {fd : FuncData}
theorem mono_cuts : ∀ xs S1 (P P' : PD), spCuts xs S1 P → (∀ d S', P d S' → P' d S') → spCuts xs S1 P' := fun xs S1 P P' ⟨b, k, h1, h2, h3, h4, h5, h6⟩ m => ⟨b, k, h1, h2, h3, h4, h5, m _ _ h6⟩
def spIs : SpG := fun ds S P => ∃ L n, ds = [.int L, .int n] ∧ 0 ≤ L ∧ L < 2 ^ 40 ∧ 0 < n ∧ n ≤ 1000 ∧ P (.bl true) S
theorem mono_is : ∀ xs S1 (P P' : PD), spIs xs S1 P → (∀ d S', P d S' → P' d S') → spIs xs S1 P' := fun xs S1 P P' ⟨b, k, h1, h2, h3, h4, h5, h6⟩ m => ⟨b, k, h1, h2, h3, h4, h5, m _ _ h6⟩
theorem ok_is_right (T : Bl mg) (c_cuts : Cal P w K mg base "cuts" p_cuts 1 spCuts) (F : FnP K "_law_is_right" "_law_is_right" s_is_right f fd) : FnOk P w K mg base CX0 2 f fd p_is_right (spOf K spIs) := by
  refine ok_of F sc_is_right (fun ds S P h => by obtain ⟨b, m, rfl, _⟩ := h; rfl) fun cdv A outer s H E hr => ⟨_, (pss_cons (ps_set (i := 2) sc_is_right.nd rfl (by first | exact Or.inl rfl | exact Or.inr rfl) (pe_callQ K c_cuts (hr.mono (by decide)) rfl (pa_cons (pv 0) (pa_cons (pv 1) pa_nil))))
  (pss_cons (ps_if (PW.pt (pw_or (pt_not (pt_val (pe_callB (cr_isiK K) (by rfl) T.isinstance (by decide +kernel) (pa_cons (pv 2) (pa_cons (pe_bltn (v := .ty "tuple") (by rfl) T.tuple (by decide +kernel) rfl) pa_nil))))) (pw_or (pt_cmpR (op_neK K hr.units) (pe_callB (cr_lenK K) (by rfl) T.len (by decide +kernel) (pa_cons (pv 2) pa_nil)) (pv 1) (nomark _)) (pw_or (pt_cmpR (op_neK K hr.units) (pe_ix (ix_K K) (pe_ix (ix_K K) (pv 2) pe_int (fun _ _ => rfl)) pe_int (fun _ _ => rfl)) pe_int (nomark _)) (pw_or1 (pt_cmpR (op_neK K hr.units) (pe_ix (ix_K K) (pe_ix (ix_K K) (pv 2) (pe_un un_neg pe_int) (fun _ _ => rfl)) pe_int (fun _ _ => rfl)) (pv 0) (nomark _))))))) (pss_one (ps_ret pe_bl)) pss_nil)
  (pss_cons (ps_for PassesOwn.never rfl (pi_enumK K (by rfl) T.enumerate (pa_cons (pv 2) pa_nil)) (pg_tupK K (n := 2) (by rfl) (pgs_cons (pg_name (i := 3) sc_is_right.nd rfl (by first | exact Or.inl rfl | exact Or.inr rfl)) (pgs_cons (pg_name (i := 4) sc_is_right.nd rfl (by first | exact Or.inl rfl | exact Or.inr rfl)) pgs_nil)))
  (pss_cons (ps_if (PW.pt (pw_or (pt_not (pt_val (pe_callB (cr_isiK K) (by rfl) T.isinstance (by decide +kernel) (pa_cons (pv 4) (pa_cons (pe_bltn (v := .ty "tuple") (by rfl) T.tuple (by decide +kernel) rfl) pa_nil))))) (pw_or1 (pt_cmpR (op_neK K hr.units) (pv 4) (pe_tup (pa_cons (pe_op op_divU (pe_op op_mulU (pv 3) (pv 0)) (pv 1)) (pa_cons (pe_op op_divU (pe_op op_mulU (pe_op (op_addK K) (pv 3) pe_int) (pv 0)) (pv 1)) pa_nil))) (nomark _))))) (pss_one (ps_ret pe_bl)) pss_nil)
  (pss_one (ps_if (PW.pt (pw_and (pt_cmpR op_gtU (pv 3) pe_int (nomark _)) (pw_and1 (pt_cmpR (op_neK K hr.units) (pe_ix (ix_K K) (pv 4) pe_int (fun _ _ => rfl)) (pe_ix (ix_K K) (pe_ix (ix_K K) (pv 2) (pe_op op_subU (pv 3) pe_int) (fun _ _ => rfl)) pe_int (fun _ _ => rfl)) (nomark _))))) (pss_one (ps_ret pe_bl)) pss_nil))))
  (pss_cons (ps_setLc (i := 5) (own := [("_law_begin", 6), ("_law_end", 7)]) (by rfl) sc_is_right.nd rfl rfl (sw_true rfl rfl rfl (by decide +kernel)) (pi_seqK K (pv 2)) (blkOk_by (own := [("_law_begin", 6), ("_law_end", 7)]) (N := N_is_right) (sc := defScope s_is_right) (by decide +kernel)) (fun _ _ _ _ _ => (pg_tupK K (n := 2) (by rfl) (pgs_cons (pg_name (i := 6) sc_is_right.nd rfl (by first | exact Or.inl rfl | exact Or.inr rfl)) (pgs_cons (pg_name (i := 7) sc_is_right.nd rfl (by first | exact Or.inl rfl | exact Or.inr rfl)) pgs_nil)))) (fun _ _ _ _ _ => pts_nil) (fun _ _ _ _ _ => (pe_op op_subU (pv 7) (pv 6))))
  (pss_one (ps_ret (pe_cmpR op_leU (pe_op op_subU (pe_callB (cr_maxK K) (by rfl) T.max (by decide +kernel) (pa_cons (pe_lc (own := [("_law_one", 8)]) (by rfl) sc_is_right.nd (pi_seqK K (pv 5)) (blkOk_by (own := [("_law_one", 8)]) (N := N_is_right) (sc := defScope s_is_right) (by decide +kernel)) (fun _ _ _ _ _ => (pg_name (i := 8) sc_is_right.nd rfl (by first | exact Or.inl rfl | exact Or.inr rfl))) (fun _ _ _ _ _ => pts_nil) (fun _ _ _ _ _ => (pe_callTy cr_int (by rfl) T.int (by decide +kernel) (pa_cons (pv 8) pa_nil)))) pa_nil)) (pe_callB (cr_minK K) (by rfl) T.min (by decide +kernel) (pa_cons (pe_lc (own := [("_law_one", 8)]) (by rfl) sc_is_right.nd (pi_seqK K (pv 5)) (blkOk_by (own := [("_law_one", 8)]) (N := N_is_right) (sc := defScope s_is_right) (by decide +kernel)) (fun _ _ _ _ _ => (pg_name (i := 8) sc_is_right.nd rfl (by first | exact Or.inl rfl | exact Or.inr rfl))) (fun _ _ _ _ _ => pts_nil) (fun _ _ _ _ _ => (pe_callTy cr_int (by rfl) T.int (by decide +kernel) (pa_cons (pv 8) pa_nil)))) pa_nil))) pe_int (nomark _)))))))), ?_⟩
  rintro ds S P ⟨L, n, rfl, h1, h2, h3, h4, k⟩
  walk_at "a"
  refine g_call ?_ mono_cuts
  walk_at "g"
  refine ⟨L, n, rfl, h1, h2, h3, h4, ?_⟩
  show ExG K _ (List.set (startG N_is_right [D.int L, D.int n]) 2 (some (.tup (cutsL L n)))) S _
  walk_at "g"
  refine br_n (fun h => absurd (by rw [cutsL_len]; omega) h) (fun _ => ?_)
  walk_at "g"
  refine o_ixT (d := cutD L n 0) (atI_of (by decide) (cutsL_get (by omega))) ?_
  walk_at "g"
  refine br_n (fun h => absurd (by simp) h) (fun _ => ?_)
  walk_at "g"
  refine o_ixT (cutsL_last h3) ?_
  walk_at "g"
  refine br_n (fun h => absurd ?_ h) (fun _ => ?_)
  · have e : ((n.toNat - 1 : Nat) : Int) + 1 = n := by omega
    rw [e]
    exact Int.mul_ediv_cancel_left _ (by omega)
  walk_at "g"
  refine x_for (i_enum ?_)
  walk_at "g"
  refine .inr ⟨_, rfl, fun i G' S' => S' = S ∧ ∃ a b, G' = [some (.int L), some (.int n), some (.tup (cutsL L n)), a, b, none, none, none, none], ⟨rfl, none, none, rfl⟩, ?_, ?_⟩
  · rintro i d G' S' hi ⟨rfl, a, b, rfl⟩
    obtain ⟨d0, hd0, rfl⟩ : ∃ d0, (cutsL L n)[i]? = some d0 ∧ d = .tup [.int (i : Int), d0] := by
      unfold enumD at hi
      rw [List.getElem?_mapIdx] at hi
      cases e : (cutsL L n)[i]? with
      | none => rw [e] at hi; cases hi
      | some d0 => rw [e] at hi; exact ⟨d0, rfl, (Option.some.inj hi).symm⟩
    obtain ⟨hin, rfl⟩ := cutsL_get' hd0
    refine tg_tup rfl (tg_cons (tg_name (tg_cons (tg_name (tg_nil ?_)))))
    walk_at "g"
    refine o_neD (p := .tuple [.int _, .int _]) (q := .tuple [.int _, .int _]) rfl rfl rfl rfl ?_
    rw [show PyData.eqv (.tuple [.int ((i : Int) * L / n), .int (((i : Int) + 1) * L / n)]) (.tuple [.int ((i : Int) * L / n), .int (((i : Int) + 1) * L / n)]) = true from by simp [PyData.eqv, PyData.eqvAll]]
    walk_at "g"
    refine br_d (fun h0 => ?_) (fun _ => ?_)
    · walk_at "g"
      have e1 : ((i : Int) - 1) = ((i - 1 : Nat) : Int) := by omega
      refine o_ixT (d := cutD L n (i - 1)) (by rw [e1]; exact atI_nat (cutsL_get (by omega))) ?_
      walk_at "g"
      refine br_n (fun h => absurd (by rw [← e1]; congr 2; omega) h) (fun _ => ?_)
      walk_at "g"
      exact ⟨rfl, _, _, rfl⟩
    · walk_at "g"
      exact ⟨rfl, _, _, rfl⟩
  · rintro G' S' ⟨rfl, a, b, rfl⟩
    walk_at "g"
    refine g_map (f := fun i _ => .int (szI L n i)) (wo_tup (wo_cons (wo_name (by decide)) (wo_cons (wo_name (by decide)) wo_nil))) (i_seq ?_)
    walk_at "g"
    refine .inr (.inl ⟨_, rfl, by rw [cutsL_len]; omega, ?_, ?_⟩)
    · intro i d ds l hi nd
      obtain ⟨hin, rfl⟩ := cutsL_get' hi
      refine tg_tup rfl (tg_cons (tg_name (tg_cons (tg_name (tg_nil ?_)))))
      walk_at "g"
      exact ⟨rfl, rfl⟩
    · generalize hz : (cutsL L n).mapIdx (fun i _ => D.int (szI L n i)) = sz
      have hsz : sz = ((List.range n.toNat).map (szI L n)).map D.int := by
        rw [← hz]
        apply List.ext_getElem?
        intro i
        rw [List.getElem?_mapIdx, List.getElem?_map, List.getElem?_map]
        by_cases hi : i < n.toNat
        · rw [cutsL_get hi, List.getElem?_range hi]; rfl
        · rw [List.getElem?_eq_none (by rw [cutsL_len]; omega), List.getElem?_eq_none (by simp; omega)]; rfl
      have hml : ((rangeD 0 n.toNat).length) = n.toNat := rangeD_len _ _
      have hlen : sz.length = n.toNat := by rw [hsz]; simp
      have hm2 : (sz.mapIdx fun i _ => D.int (szI L n i)) = ((List.range n.toNat).map (szI L n)).map D.int := by
        apply List.ext_getElem?
        intro i
        rw [List.getElem?_mapIdx, List.getElem?_map, List.getElem?_map]
        by_cases hi : i < n.toNat
        · rw [List.getElem?_eq_getElem (by rw [hlen]; exact hi), List.getElem?_range hi]; rfl
        · rw [List.getElem?_eq_none (by rw [hlen]; omega), List.getElem?_eq_none (by simp; omega)]; rfl
      walk_at "g"
      refine g_map (f := fun i _ => .int (szI L n i)) (wo_name (by decide)) (i_seq ?_)
      walk_at "g"
      refine .inl ⟨_, rfl, by omega, ?_, ?_⟩
      · intro i d ds l hi nd
        have hd : d = .int (szI L n i) := by
          rw [hsz, List.getElem?_map, List.getElem?_map] at hi
          have hin : i < n.toNat := by
            cases e : (List.range n.toNat)[i]? with
            | none => rw [e] at hi; cases hi
            | some z => have := (List.getElem?_eq_some_iff.mp e).1; simpa using this
          rw [List.getElem?_range hin] at hi
          exact (Option.some.inj hi).symm
        subst hd
        walk_at "g"
        exact ⟨rfl, rfl⟩
      rw [hm2]
      walk_at "g"
      refine c_maxL (by simp; omega) fun m hm1 hm2' => ?_
      walk_at "g"
      refine g_map (f := fun i _ => .int (szI L n i)) (wo_name (by decide)) (i_seq ?_)
      walk_at "g"
      refine .inl ⟨_, rfl, by omega, ?_, ?_⟩
      · intro i d ds l hi nd
        have hd : d = .int (szI L n i) := by
          rw [hsz, List.getElem?_map, List.getElem?_map] at hi
          have hin : i < n.toNat := by
            cases e : (List.range n.toNat)[i]? with
            | none => rw [e] at hi; cases hi
            | some z => have := (List.getElem?_eq_some_iff.mp e).1; simpa using this
          rw [List.getElem?_range hin] at hi
          exact (Option.some.inj hi).symm
        subst hd
        walk_at "g"
        exact ⟨rfl, rfl⟩
      rw [hm2]
      walk_at "g"
      refine c_minL (by simp; omega) fun m' hm1' hm2'' => ?_
      walk_at "g"
      obtain ⟨i1, _, e1⟩ := List.mem_map.mp hm1
      obtain ⟨i2, _, e2⟩ := List.mem_map.mp hm1'
      have b1 := szI_le L n h3 i1
      have b2 := szI_le L n h3 i2
      have e : decide (m - m' ≤ 1) = true := decide_eq_true (by omega)
      rw [e]
      exact k
end
end K13

set_option Elab.async false
set_option linter.all false
set_option maxRecDepth 100000
set_option maxHeartbeats 4000000
namespace K13
open PySem PySem.Spec PyProof.Rows L2 RS
local macro_rules | `(tactic| walk_at "lk") => `(tactic| first | assumption | ((refine lookup_setC (c := ?gc) ?gh); (case gh => walk_at "lk")))
local macro_rules | `(tactic| walk_at "e") => `(tactic| first
  | ((with_reducible refine g_var (d := ?gd) ?gv ?_); (case gv => rfl)) | with_reducible refine g_int ?_ | with_reducible refine g_str ?_ | with_reducible refine g_bl ?_ | with_reducible refine g_non ?_ | with_reducible refine g_ty ?_
  | with_reducible refine g_op ?_ | with_reducible refine g_un ?_ | with_reducible refine g_and ?_ | with_reducible refine g_or ?_ | with_reducible refine g_not ?_ | with_reducible refine g_if ?_ | with_reducible refine g_chain ?_ | with_reducible refine g_tup ?_ | with_reducible refine g_lst ?_ | with_reducible refine g_lstD ?_ | with_reducible refine g_cb ?_ | with_reducible refine g_bm ?_
  | with_reducible refine a_cons ?_ | with_reducible refine a_nil ?_
  | with_reducible refine t_test ?_ | with_reducible refine t_b ?_ | with_reducible refine t_and ?_ | with_reducible refine t_or ?_ | with_reducible refine t_not ?_ | with_reducible refine t_yes ?_
  | with_reducible refine o_addI ?_ | with_reducible refine o_subI ?_ | with_reducible refine o_lt ?_ | with_reducible refine o_le ?_ | with_reducible refine o_gt ?_ | with_reducible refine o_ge ?_ | with_reducible refine o_eqI ?_ | with_reducible refine o_neI ?_ | with_reducible refine o_eqS ?_ | with_reducible refine o_neS ?_
  | with_reducible refine u_neg ?_ | with_reducible refine c_abs ?_ | with_reducible refine c_int ?_ | with_reducible refine c_intB ?_ | with_reducible refine c_max2 ?_ | with_reducible refine c_min2 ?_ | with_reducible refine c_lenT ?_ | with_reducible refine c_lenL ?_ | with_reducible refine c_lenF ?_
  | with_reducible refine c_tupleL ?_ | with_reducible refine c_tupleT ?_
  | ((with_reducible refine o_mulI ?gv ?_); (case gv => omega)) | ((with_reducible refine o_modI ?gv ?_); (case gv => omega)) | ((with_reducible refine o_divI ?gv ?_); (case gv => omega))
  | ((with_reducible refine o_powI ?gv ?_); (case gv => decide))
  | ((with_reducible refine o_ixT (d := ?gd) ?gv ?_); (case gv => rfl)) | ((with_reducible refine o_ixL (d := ?gd) ?gv ?_); (case gv => rfl))
  | ((with_reducible refine o_ixC (ds := ?gs) (d := ?gd) ?gl ?gv ?_); (case gl => walk_at "lk"); (case gv => rfl))
  | ((with_reducible refine c_isi (t := ?gt) (b := ?gb) ?gv ?gw ?gk ?_); (case gv => rfl); (case gw => (intro ns h; cases h)); (case gk => rfl))
  | with_reducible refine tg_name ?_ | with_reducible refine tg_setC ?_
  | ((with_reducible refine c_lenC (ds := ?gs) ?gl ?_); (case gl => walk_at "lk"))
  | ((refine ⟨_, ?gs, _, ?gj, rfl, rfl, ?gl, ?gi, ?_⟩); (case gl => walk_at "lk"); (case gi => rfl))
  | refine ⟨Nat.le_of_ble_eq_true rfl, ?_⟩ | refine ⟨_, rfl, ?_⟩ | with_reducible refine br_t ?_ | with_reducible refine br_f ?_ | with_reducible refine br_nt ?_ | with_reducible refine br_nf ?_)
local macro_rules | `(tactic| walk_at "s") => `(tactic| first
  | with_reducible refine x_seq ?_ | with_reducible refine x_set ?_ | with_reducible refine x_if ?_ | with_reducible refine x_ret ?_ | with_reducible refine x_drop ?_ | with_reducible refine x_par ?_ | with_reducible refine x_asg ?_ | with_reducible refine x_next ?_ | walk_at "e")
local macro_rules | `(tactic| walk_at "g") => `(tactic| repeat (first | walk_at "s" | (dsimp only; walk_at "s")))
local macro_rules | `(tactic| walk_at "a1") => `(tactic| first
  | with_reducible refine x_seq (t := tAsg _ _) ?_ | with_reducible refine x_seq (t := tDrop _) ?_ | with_reducible refine x_seq (t := tPar _ _ _) ?_ | with_reducible refine x_set ?_ | with_reducible refine x_ret ?_ | with_reducible refine x_drop ?_ | with_reducible refine x_par ?_ | with_reducible refine x_asg ?_ | with_reducible refine x_next ?_ | walk_at "e")
local macro_rules | `(tactic| walk_at "a") => `(tactic| repeat (first | walk_at "a1" | (dsimp only; walk_at "a1")))

theorem cuts_py (L n : Int) : PyOk 2 (cutsD L n) := by
  refine .tup fun d hd => ?_
  obtain ⟨i, hi⟩ := List.mem_iff_getElem?.mp hd
  obtain ⟨_, rfl⟩ := cutsL_get' hi
  refine .tup fun d hd => ?_
  rcases List.mem_cons.mp hd with rfl | hd
  · exact .int _
  · rcases List.mem_cons.mp hd with rfl | hd
    · exact .int _
    · cases hd
section
variable {P : Program} {w : World} {K : PySem.W.Frag} {mg : Str → Option Value} {base : Heap} {f : Addr} {fd : FuncData}
theorem ok_law (T : Bl mg) (c_box : Cal P w K mg base "_law_box" p_box 1 (spBox 1)) (c_take : Cal P w K mg base "_law_take" p_take 1 (spTake 1073741824)) (c_pick : Cal P w K mg base "_law_pick" p_pick 2 spPick)
    (c_cuts : Cal P w K mg base "cuts" p_cuts 1 spCuts) (c_is_right : Cal P w K mg base "_law_is_right" p_is_right 2 spIs) (F : FnP K "law" "law" s_law f fd) : FnOk P w K mg base CX0 3 f fd p_law (spOf K spLaw) := by
  refine ok_of F sc_law (fun ds S P h => by obtain ⟨ns, rfl, _⟩ := h; rfl) fun cdv A outer s H E hr => ⟨_, (pss_cons (ps_for PassesOwn.never rfl (pi_range1 (by rfl) T.range (pa_cons (pe_callB (cr_maxK K) (by rfl) T.max (by decide +kernel) (pa_cons pe_int (pa_cons (pe_callB (cr_minK K) (by rfl) T.min (by decide +kernel) (pa_cons pe_int (pa_cons (pe_callB (cr_lenK K) (by rfl) T.len (by decide +kernel) (pa_cons (pv 0) pa_nil)) pa_nil))) pa_nil))) pa_nil)) (pg_name (i := 1) sc_law.nd rfl (by first | exact Or.inl rfl | exact Or.inr rfl))
  (pss_cons (ps_set (i := 2) sc_law.nd rfl (by first | exact Or.inl rfl | exact Or.inr rfl) (pe_callQ K c_box (hr.mono (by decide)) rfl (pa_cons (pv 0) (pa_cons (pv 1) (pa_cons pe_int pa_nil)))))
  (pss_one (ps_for PassesOwn.never rfl (pi_range1 (by rfl) T.range (pa_cons pe_int pa_nil)) (pg_name (i := 3) sc_law.nd rfl (by first | exact Or.inl rfl | exact Or.inr rfl))
  (pss_cons (ps_par (i := 4) (j := 5) (by rfl) sc_law.nd rfl rfl (by decide) rfl rfl (pa_cons (pe_callQ K c_pick (hr.mono (by decide)) rfl (pa_cons (pv 2) (pa_cons (pe_lst (pa_cons (pe_callQ K c_take (hr.mono (by decide)) rfl (pa_cons (pv 2) (pa_cons pe_int pa_nil))) (pa_cons (pe_callQ K c_take (hr.mono (by decide)) rfl (pa_cons (pv 2) (pa_cons pe_int pa_nil))) pa_nil))) pa_nil))) (pa_cons (pe_op (op_addK K) pe_int (pe_callQ K c_take (hr.mono (by decide)) rfl (pa_cons (pv 2) (pa_cons pe_int pa_nil)))) pa_nil)) (by rfl))
  (pss_one (ps_if (PW.pt (pw_or (pt_not (pt_val (pe_callQ K c_is_right (hr.mono (by decide)) rfl (pa_cons (pv 4) (pa_cons (pv 5) pa_nil))))) (pw_or1 (pt_cmpR (op_neK K hr.units) (pe_callQ K c_cuts (hr.mono (by decide)) rfl (pa_cons (pv 4) (pa_cons (pv 5) pa_nil))) (pe_callQ K c_cuts (hr.mono (by decide)) rfl (pa_cons (pv 4) (pa_cons (pv 5) pa_nil))) (nomark _))))) (pss_one (ps_ret pe_bl)) pss_nil)))))))
  (pss_cons (ps_if (PW.pt (pw_or (pt_cmpR (op_neK K hr.units) (pe_callQ K c_cuts (hr.mono (by decide)) rfl (pa_cons pe_int (pa_cons pe_int pa_nil))) (pe_tup (pa_cons (pe_tup (pa_cons pe_int (pa_cons pe_int pa_nil))) (pa_cons (pe_tup (pa_cons pe_int (pa_cons pe_int pa_nil))) (pa_cons (pe_tup (pa_cons pe_int (pa_cons pe_int pa_nil))) pa_nil)))) (nomark _)) (pw_or1 (pt_cmpR (op_neK K hr.units) (pe_callQ K c_cuts (hr.mono (by decide)) rfl (pa_cons pe_int (pa_cons pe_int pa_nil))) (pe_tup (pa_cons (pe_tup (pa_cons pe_int (pa_cons pe_int pa_nil))) (pa_cons (pe_tup (pa_cons pe_int (pa_cons pe_int pa_nil))) (pa_cons (pe_tup (pa_cons pe_int (pa_cons pe_int pa_nil))) (pa_cons (pe_tup (pa_cons pe_int (pa_cons pe_int pa_nil))) pa_nil))))) (nomark _))))) (pss_one (ps_ret pe_bl)) pss_nil)
  (pss_one (ps_ret (pe_and (pe_cmpR (op_eqK K hr.units) (pe_callQ K c_cuts (hr.mono (by decide)) rfl (pa_cons pe_int (pa_cons pe_int pa_nil))) (pe_tup (pa_cons (pe_tup (pa_cons pe_int (pa_cons pe_int pa_nil))) pa_nil)) (nomark _)) (pe_one (pe_cmpR (op_eqK K hr.units) (pe_callQ K c_cuts (hr.mono (by decide)) rfl (pa_cons pe_int (pa_cons pe_int pa_nil))) (pe_tup (pa_cons (pe_tup (pa_cons pe_int (pa_cons pe_int pa_nil))) (pa_cons (pe_tup (pa_cons pe_int (pa_cons pe_int pa_nil))) (pa_cons (pe_tup (pa_cons pe_int (pa_cons pe_int pa_nil))) pa_nil)))) (nomark _)))))))), ?_⟩
  rintro ds S P ⟨ns, rfl, rfl, hns, k⟩
  refine x_seq (x_for (i_rng1 ?_))
  walk_at "g"
  generalize hm : (if (if (ns.length : Int) < 4 then (ns.length : Int) else 4) > 1 then (if (ns.length : Int) < 4 then (ns.length : Int) else 4) else 1) = m
  have hm1 : 1 ≤ m ∧ m ≤ 4 := by rw [← hm]; split <;> split <;> omega
  refine ⟨by omega, fun i G' S' => ∃ a b c d e, G' = [some (.frz ns), a, b, c, d, e], ⟨_, _, _, _, _, rfl⟩, ?_, ?_⟩
  · rintro i d G' S' hi ⟨a, b, c, d', e, rfl⟩
    obtain ⟨hi, rfl⟩ := rangeD_get hi
    walk_at "g"
    refine g_call ?_ mono_box
    walk_at "g"
    refine ⟨ns, _, 13, rfl, by omega, by omega, by decide, by decide, fun l w s c nl => ?_⟩
    have hb : BoxAt ((l, bx w s c) :: S') l := ⟨w, s, c, by rw [List.lookup_cons]; simp⟩
    refine x_for (i_rng1 ?_)
    walk_at "g"
    refine ⟨by decide, fun i G' S' => BoxAt S' l ∧ ∃ a b c d, G' = [some (.frz ns), a, some (.ref l), b, c, d], ⟨hb, _, _, _, _, rfl⟩, ?_, ?_⟩
    · rintro i2 d2 G2 S2 hi2 ⟨hb2, a, b, c, d, rfl⟩
      obtain ⟨hi2, rfl⟩ := rangeD_get hi2
      walk_at "g"
      refine g_call ?_ mono_pick
      walk_at "g"
      refine g_call ?_ mono_take
      walk_at "g"
      refine ⟨_, _, rfl, hb2, by decide, by decide, fun r1 w1 s1 c1 h1 h2 => ?_⟩
      walk_at "g"
      refine g_call ?_ mono_take
      walk_at "g"
      refine ⟨_, _, rfl, hb2.put _ _ _, by decide, by decide, fun r2 w2 s2 c2 h3 h4 => ?_⟩
      walk_at "g"
      refine ⟨_, _, rfl, (hb2.put _ _ _).put _ _ _, by simp, by simp, fun ip dp w3 s3 c3 hp => ?_⟩
      have hdp : ∃ L : Int, dp = .int L ∧ 0 ≤ L ∧ L < 61 := by
        match ip, hp with
        | 0, hp => exact ⟨r1, (Option.some.inj hp).symm, h1, h2⟩
        | 1, hp => exact ⟨r2, (Option.some.inj hp).symm, h3, h4⟩
      obtain ⟨L, rfl, hL1, hL2⟩ := hdp
      walk_at "g"
      refine g_call ?_ mono_take
      walk_at "g"
      refine ⟨_, _, rfl, ((hb2.put _ _ _).put _ _ _).put _ _ _, by decide, by decide, fun r4 w4 s4 c4 h5 h6 => ?_⟩
      walk_at "g"
      refine ⟨_, _, rfl, ?_⟩
      walk_at "g"
      refine g_call ?_ mono_is
      walk_at "g"
      refine ⟨L, 1 + r4, rfl, hL1, by omega, by omega, by omega, ?_⟩
      walk_at "g"
      refine g_call ?_ mono_cuts
      walk_at "g"
      refine ⟨L, 1 + r4, rfl, hL1, by omega, by omega, by omega, ?_⟩
      walk_at "g"
      refine g_call ?_ mono_cuts
      walk_at "g"
      refine ⟨L, 1 + r4, rfl, hL1, by omega, by omega, by omega, ?_⟩
      refine o_neSelf (cuts_py _ _) (by decide) ?_
      walk_at "g"
      exact ⟨(((hb2.put _ _ _).put _ _ _).put _ _ _).put _ _ _, _, _, _, _, rfl⟩
    · rintro G2 S2 ⟨hb2, a, b, c, d, rfl⟩
      exact ⟨_, _, _, _, _, rfl⟩
  · rintro G' S' ⟨a, b, c, d', e, rfl⟩
    walk_at "g"
    refine g_call ?_ mono_cuts
    walk_at "g"
    refine ⟨0, 3, rfl, by decide, by decide, by decide, by decide, ?_⟩
    rw [show cutsD 0 3 = .tup [.tup [.int 0, .int 0], .tup [.int 0, .int 0], .tup [.int 0, .int 0]] from rfl]
    walk_at "g"
    refine o_neSelf (k := 2) ⟨_, rfl, rfl, Nat.le_of_ble_eq_true rfl⟩ (by decide) ?_
    walk_at "g"
    refine g_call ?_ mono_cuts
    walk_at "g"
    refine ⟨2, 4, rfl, by decide, by decide, by decide, by decide, ?_⟩
    rw [show cutsD 2 4 = .tup [.tup [.int 0, .int 0], .tup [.int 0, .int 1], .tup [.int 1, .int 1], .tup [.int 1, .int 2]] from rfl]
    walk_at "g"
    refine o_neSelf (k := 2) ⟨_, rfl, rfl, Nat.le_of_ble_eq_true rfl⟩ (by decide) ?_
    walk_at "g"
    refine g_call ?_ mono_cuts
    walk_at "g"
    refine ⟨5, 1, rfl, by decide, by decide, by decide, by decide, ?_⟩
    rw [show cutsD 5 1 = .tup [.tup [.int 0, .int 5]] from rfl]
    walk_at "g"
    refine o_eqSelf (k := 2) ⟨_, rfl, rfl, Nat.le_of_ble_eq_true rfl⟩ (by decide) ?_
    walk_at "g"
    refine g_call ?_ mono_cuts
    walk_at "g"
    refine ⟨7, 3, rfl, by decide, by decide, by decide, by decide, ?_⟩
    rw [show cutsD 7 3 = .tup [.tup [.int 0, .int 2], .tup [.int 2, .int 4], .tup [.int 4, .int 7]] from rfl]
    walk_at "g"
    refine o_eqSelf (k := 2) ⟨_, rfl, rfl, Nat.le_of_ble_eq_true rfl⟩ (by decide) ?_
    exact k _
end

def d_cuts : He.DefD := ⟨("cuts", none), "cuts", "cuts", defArgs s_cuts, defBody s_cuts, defScope s_cuts, [], []⟩
def d_box : He.DefD := ⟨("_law_box", none), "_law_box", "_law_box", defArgs s_box, defBody s_box, defScope s_box, [], []⟩
def d_take : He.DefD := ⟨("_law_take", none), "_law_take", "_law_take", defArgs s_take, defBody s_take, defScope s_take, [], []⟩
def d_pick : He.DefD := ⟨("_law_pick", none), "_law_pick", "_law_pick", defArgs s_pick, defBody s_pick, defScope s_pick, [], []⟩
def d_is_right : He.DefD := ⟨("_law_is_right", none), "_law_is_right", "_law_is_right", defArgs s_is_right, defBody s_is_right, defScope s_is_right, [], []⟩
def d_law : He.DefD := ⟨("law", none), "law", "law", defArgs s_law, defBody s_law, defScope s_law, [], []⟩
def fn : List He.DefD := [d_cuts, d_box, d_take, d_pick, d_is_right, d_law]
def fa : List He.Fa := [.glo "cuts", .glo "_law_box", .glo "_law_take", .glo "_law_pick", .glo "_law_is_right", .glo "law", .free "len", .free "range", .free "tuple", .free "list", .free "int", .free "max", .free "min", .free "abs", .free "isinstance", .free "enumerate", .free "zip", .free "sum", .free "all", .free "any", .free "str", .free "repr", .free "bool"]
def loose : List Str := ["cuts", "_law_box", "_law_take", "_law_pick", "_law_is_right"]
abbrev R : PySem.W.OpenRow := PySem.W.OpenLaw.row PySem.Challenge.rw_ringsums_k13_rows_cut_in_pieces
abbrev hk : PySem.W.Hook := He.hookD 6 fa fn
def ob (s : PySem.W.SharedT) : He.AlD := He.obsDG 6 fa fn (HandSHeadRun.getT s)
theorem ob_eq (s : PySem.W.SharedT) : ob s = hk.obs s.abs := He.obsDG_eq (HandSHeadRun.getT_eq s)
theorem run (w : World) : HandSHeadRun.RunEq R (PySem.W.view R.prog [7]) hk ob 4000 loose w := by
  intro os
  kernel_rfl
theorem facts {P : Program} {w : World} {K : PySem.W.Frag} {h : Heap} {mg : Str → Option Value} {f : Addr} (X : K.In h) (G : h.Ns mainGlobals mg) (hfa : mg ("law" : Str) = some (.ref f)) (c : He.SaysD fa fn K) :
    ∃ fd : FuncData, (∀ (s : Shared) (v : Value), BindsTo s fd ⟨[v], []⟩ [("_law_script", v)]) ∧ ∀ base : Heap, K.In base → base.Ns mainGlobals mg → FnOk P w K mg base CX0 3 f fd ["_law_script"] (spOf K spLaw) := by
  obtain ⟨fd_cuts, F_cuts⟩ := c.def_ 0 (d := d_cuts) rfl
  obtain ⟨fd_box, F_box⟩ := c.def_ 1 (d := d_box) rfl
  obtain ⟨fd_take, F_take⟩ := c.def_ 2 (d := d_take) rfl
  obtain ⟨fd_pick, F_pick⟩ := c.def_ 3 (d := d_pick) rfl
  obtain ⟨fd_is_right, F_is_right⟩ := c.def_ 4 (d := d_is_right) rfl
  obtain ⟨fd_law, F_law⟩ := c.def_ 5 (d := d_law) rfl
  have g_cuts := He.glo_ok X G (c.fact 0 (f := .glo "cuts") rfl)
  have g_box := He.glo_ok X G (c.fact 1 (f := .glo "_law_box") rfl)
  have g_take := He.glo_ok X G (c.fact 2 (f := .glo "_law_take") rfl)
  have g_pick := He.glo_ok X G (c.fact 3 (f := .glo "_law_pick") rfl)
  have g_is_right := He.glo_ok X G (c.fact 4 (f := .glo "_law_is_right") rfl)
  have g_law := He.glo_ok X G (c.fact 5 (f := .glo "law") rfl)
  have T : Bl mg := ⟨He.free_ok X G (c.fact 6 (f := .free "len") rfl), He.free_ok X G (c.fact 7 (f := .free "range") rfl), He.free_ok X G (c.fact 8 (f := .free "tuple") rfl), He.free_ok X G (c.fact 9 (f := .free "list") rfl), He.free_ok X G (c.fact 10 (f := .free "int") rfl), He.free_ok X G (c.fact 11 (f := .free "max") rfl), He.free_ok X G (c.fact 12 (f := .free "min") rfl), He.free_ok X G (c.fact 13 (f := .free "abs") rfl), He.free_ok X G (c.fact 14 (f := .free "isinstance") rfl), He.free_ok X G (c.fact 15 (f := .free "enumerate") rfl), He.free_ok X G (c.fact 16 (f := .free "zip") rfl), He.free_ok X G (c.fact 17 (f := .free "sum") rfl), He.free_ok X G (c.fact 18 (f := .free "all") rfl), He.free_ok X G (c.fact 19 (f := .free "any") rfl), He.free_ok X G (c.fact 20 (f := .free "str") rfl), He.free_ok X G (c.fact 21 (f := .free "repr") rfl), He.free_ok X G (c.fact 22 (f := .free "bool") rfl)⟩
  have e := hfa.symm.trans g_law
  cases e
  have b := FunD.bindsA (ps := ["_law_script"]) F_law fun _ _ _ _ _ _ us hl => match us, hl with | [_], _ => rfl
  refine ⟨fd_law, fun s v => b s [v] rfl, fun base _ _ => ?_⟩
  have c_cuts : Cal P w K mg base "cuts" p_cuts 1 spCuts := ⟨_, _, g_cuts, ok_cuts T  F_cuts, F_cuts.kp, F_cuts.bindsN fun _ _ _ _ _ _ us hl => match us, hl with | [_, _], _ => rfl⟩
  have c_box : Cal P w K mg base "_law_box" p_box 1 (spBox 1) := ⟨_, _, g_box, ok_box T  F_box, F_box.kp, F_box.bindsN fun _ _ _ _ _ _ us hl => match us, hl with | [_, _, _], _ => rfl⟩
  have c_take : Cal P w K mg base "_law_take" p_take 1 (spTake 1073741824) := ⟨_, _, g_take, ok_take T  F_take, F_take.kp, F_take.bindsN fun _ _ _ _ _ _ us hl => match us, hl with | [_, _], _ => rfl⟩
  have c_pick : Cal P w K mg base "_law_pick" p_pick 2 spPick := ⟨_, _, g_pick, ok_pick T c_take F_pick, F_pick.kp, F_pick.bindsN fun _ _ _ _ _ _ us hl => match us, hl with | [_, _], _ => rfl⟩
  have c_is_right : Cal P w K mg base "_law_is_right" p_is_right 2 spIs := ⟨_, _, g_is_right, ok_is_right T c_cuts F_is_right, F_is_right.kp, F_is_right.bindsN fun _ _ _ _ _ _ us hl => match us, hl with | [_, _], _ => rfl⟩
  exact ok_law T c_box c_take c_pick c_cuts c_is_right F_law
end K13
open PySem PySem.W PySem.Calls PyProof.Rows
set_option maxRecDepth 100000 in
set_option maxHeartbeats 0 in
theorem PySem.Challenge.cw_ringsums_k13_rows_cut_in_pieces_holds : PySem.Challenge.rw_ringsums_k13_rows_cut_in_pieces.Holds := by
  w_on; o_law
  refine HandSHeadRun.head_any (r := OpenLaw.row PySem.Challenge.rw_ringsums_k13_rows_cut_in_pieces) (q := view (OpenLaw.row PySem.Challenge.rw_ringsums_k13_rows_cut_in_pieces).prog [7]) (H := K13.hk) (ob := K13.ob) (M := 4000) (loose := K13.loose) (d := HandSHeadRun.topDef (OpenLaw.row PySem.Challenge.rw_ringsums_k13_rows_cut_in_pieces).prog 7) (kwd := []) K13.ob_eq
    (by kernel_rfl) (fun s => by kernel_rfl) K13.run (by kernel_rfl) (by kernel_rfl) (by kernel_rfl) (by rfl) (by first | assumption | decide +kernel) (by decide +kernel) ⟨rfl, rfl, rfl, rfl, rfl, by decide +kernel⟩ ?hw ?hc
  case hw => w_witness2
  case hc =>
    refine L2.walk_ofE (l := PySem.Challenge.rw_ringsums_k13_rows_cut_in_pieces) (n := 63) (k := 3) (x := "_law_script") (CX := L2.CX0) rfl (by decide) (by kernel_rfl) ⟨rfl, by decide, by decide⟩ ?F (fun _ _ _ _ z => z)
    intro w mg fa h Y G hmg0
    obtain ⟨K, KX, c⟩ := Y
    have hmg : mg ("law" : PySem.Str) = some (.ref fa) := by
      have e : (HandSHeadRun.topDef (OpenLaw.row PySem.Challenge.rw_ringsums_k13_rows_cut_in_pieces).prog 7).name = ("law" : PySem.Str) := by kernel_rfl
      rw [← e]
      exact hmg0
    obtain ⟨fd, hb, hF⟩ := K13.facts (P := (PySem.Challenge.rw_ringsums_k13_rows_cut_in_pieces).prog) (w := w) KX G hmg c
    exact ⟨K, fd, RS.spOf K RS.spLaw, KX, hb, RS.law_start, hF⟩

