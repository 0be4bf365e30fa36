import PyProof.Rows.All
import Wide.All
import OpenK.AllK
import Wide.FinOn
import KE.GoesEnum
import HandS.ForMost
import HandS.Flow
import HandS.Wide
import HandS.IsInst
import HandS.Zip
import HandS.Defaults
import HandS.Head0
import HandS.Head1
import HandS.Head2
import HandS.HeadEnd
import HandS.HeadHook1
import HandS.HeadHook2
import HandS.OwnEq
import HandS.TupAny
import HandS.TupLe
import HandS.Style
import HandS.WideBits
import HandS.Text
import HandS.Codes
import HandS.Steps
import HandS.Star
import HandS.Property
import HandS.FStr
import KE.KCallOwn
import KE.KFmtOwn
import KE.KOpsOwn
import OpenK.KMeth
import HandS.RaiseMore
import HandS.More
import HandS.ClsMeth
import HandS.Replace
import PyProof.ReprRoads
import PyProof.CallFns
import HandS.DictComp
import HandS.Iter
import HandS.TryOnly
import PyProof.ReprLen
import KE.KIntText
import PyProof.Rows.ReprOcc
import PySem.Challenge.RW_ringsums_k36_whole_least_forms
set_option Elab.async false
set_option linter.all false
set_option maxRecDepth 100000
set_option maxHeartbeats 4000000
/-! enumerate over a tuple -/
namespace RS
open PySem PySem.Spec PyProof.Rows L2
theorem meets_enum_new1 {v : Value} {o : Obj} {H : Heap → Prop} (B : Begins v o H) :
    Meets (Builtin.«enumerate.__new__» ⟨[.type "enumerate", v], []⟩) (fun _ R s => H s.heap ∧
      R (.ok (.ret (.ref (s.heap.push o).objs.size))) { s with heap := (s.heap.push o).push { cls := .type "enumerate", data := .fields #[.none, .bool false, .ref s.heap.objs.size, rawInt 0, .none, .none] } }) :=
  .of_wp fun prog w A R s h => by
    obtain ⟨hp, g, d, tk, os⟩ := s; obtain ⟨h1, h⟩ := h
    have hsub := sub_enumerate
    have q1 : ∀ {A' : Around} {E : Value → Shared → Prop} {Q : Value → Shared → Prop}, Q (.ref hp.objs.size) ⟨hp.push o, g, d, tk, os⟩ → wpAny (model prog w) A' (pyIter v) Q E ⟨hp, g, d, tk, os⟩ :=
      fun q => B.iter prog w _ _ ⟨hp, g, d, tk, os⟩ _ h1 q
    wp_walk using q1
    refine wpAny_stack_any fun st => wpAny_pure ?_
    split
    · rename_i c _ _ _ _ _
      cases (c == Value.type "enumerate")
      · wp_walk using q1
        exact ⟨_, rfl, h⟩
      · wp_walk using q1
        exact ⟨_, rfl, h⟩
    · wp_walk using q1
      exact ⟨_, rfl, h⟩
theorem enum_begins1 {prog : Program} {w : World} {A : Around} {E : Value → Shared → Prop} {s : Shared} {v : Value} {o : Obj} {H : Heap → Prop} {Q : Value → Shared → Prop} (B : Begins v o H) (h1 : H s.heap)
    (h : ∀ h', IsEnum h' (s.heap.objs.size + 1) s.heap.objs.size 0 .none → h'.get? s.heap.objs.size = some o → h'.objs.size = s.heap.objs.size + 2 →
      (∀ b o, s.heap.get? b = some o → h'.get? b = some o) → Q (.ref (s.heap.objs.size + 1)) { s with heap := h' }) :
    wpAny (model prog w) A (call (.type "enumerate") [v]) Q E s := by
  refine callType_new F.called_enumerate (by decide) (F.typeCall_enumerate_1 _) (F.newCall_enumerate_1 _) (fun obj => F.args_object_init_2 obj _) F.entry_enumerate_new
    (meets_enum_new1 B) ⟨h1, ?_⟩
  have hz : (s.heap.push o).objs.size = s.heap.objs.size + 1 := Heap.size_push ..
  show _ ∧ _
  rw [hz]
  have he : IsEnum ((s.heap.push o).push { cls := .type "enumerate", data := .fields #[.none, .bool false, .ref s.heap.objs.size, rawInt 0, .none, .none] }) (s.heap.objs.size + 1) s.heap.objs.size 0 .none := by
    have := Heap.get?_push_size (s.heap.push o) (o := { cls := .type "enumerate", data := .fields #[.none, .bool false, .ref s.heap.objs.size, rawInt 0, .none, .none] }) rfl
    rw [hz] at this; exact this
  refine ⟨⟨_, he, rfl⟩, h _ he (Heap.get?_push_of_some _ (Heap.get?_push_size _ B.free)) (by rw [Heap.size_push, hz]) fun b o x => Heap.get?_push_of_some _ (Heap.get?_push_of_some _ x)⟩
/-- the tuple at a, each item in a new pair -/
def IteT (K : PySem.W.Frag) (a : Addr) : It :=
  ⟨fun i H => ∃ (xs : List V) (x : V), SqT K H a xs ∧ xs[i]? = some x, fun i H v H' => ∃ T x, v = .ref T ∧ H T = none ∧ H' = upd H T (.tup [.int (i : Nat), x]) ∧ ∀ xs, SqT K H a xs → xs[i]? = some x, fun i H => ∃ xs : List V, SqT K H a xs ∧ xs.length ≤ i⟩
theorem turn_enumT {P : Program} {w : World} {K : PySem.W.Frag} {elts : List Expr} {kk : Nat} {tpos : Pos} (a e it : Addr) :
    Turn P w K (.Tuple elts kk tpos) (IteT K a) [e, it] e (fun i h => (∃ old, IsEnum h e it ((i : Nat) : Int) old) ∧ h.IsTupleIter it a i ∧ e ≠ it) where
  mem := by simp
  obj := fun i h st b hb => by
    obtain ⟨⟨old, he⟩, ⟨o, ho, hc, hd⟩, _⟩ := st
    have e' : b = e ∨ b = it := by simpa using hb
    rcases e' with z | z
    · rw [z]; exact ⟨_, he, fun v q => nomatch q⟩
    · rw [z]; exact ⟨o, ho, fun v q => by rw [hd] at q; cases q⟩
  keep := fun i h h' st k => let ⟨⟨old, he⟩, hi, hne⟩ := st; ⟨⟨old, k e (by simp) _ he⟩, hi.at fun o q => k it (by simp) o q, hne⟩
  item := by
    intro X hP hw hK hc i pins s σ H E I hf st hg
    subst hP hw hK
    obtain ⟨⟨old, he⟩, hit, hne⟩ := st
    obtain ⟨xs, x, hq, hx⟩ := hg
    obtain ⟨its, rv, p, hz⟩ := I.tuple hq
    have hT : s.heap.IsTuple a its.toArray := p
    obtain ⟨u, hu, ru⟩ := rv.get hx
    have hel : e < s.heap.objs.size := Heap.lt_size he
    have hil : it < s.heap.objs.size := by obtain ⟨_, q, _⟩ := hit; exact Heap.lt_size q
    have nae : e ≠ a := fun z => by
      obtain ⟨o, ho, hcl, _⟩ := hT
      rw [← z, he] at ho
      cases ho
      have h2 : (Value.type "enumerate") = Value.type "tuple" := hcl
      exact absurd h2 (by decide)
    have nai : a ≠ it := fun z => by
      obtain ⟨o, ho, hcl, _⟩ := hT
      obtain ⟨o2, ho2, hcl2, _⟩ := hit
      rw [z, ho2] at ho
      cases ho
      rw [hcl2] at hcl
      exact absurd hcl (by decide)
    have D := Draws.tuple (prog := X.prog) (w := X.w) (A := X.A.in1) (I.ok.hd hc) it a nai its.toArray
    refine wpAny_pyNext_enum_itemC D he ⟨hit, hT⟩ (by have := (List.getElem?_eq_some_iff.mp hu).1; simpa using this) hne (by simp; exact ⟨hne, nae⟩) fun y h' tk hy ho hst hT1 hsz hk => ?_
    have ey : y = u := by
      have h1 : its[i]? = some y := by simpa using hy
      rw [hu] at h1
      exact (Option.some.inj h1).symm
    subst ey
    refine ⟨_, rfl, wpAny_letOwnedTupleGo_enum (s := { s with heap := h', toks := tk + 1 }) ho fun h'' he' sb => ?_⟩
    have hT2 : h''.get? s.heap.objs.size = some { cls := .type "tuple", data := .seq #[.int i tk, y] } := (sb.2 _ (Nat.ne_of_gt hel)).trans hT1
    have new : ObjOk X.prog X.w (upd H s.heap.objs.size (.tup [.int (i : Nat), x])) h'' s.heap.objs.size (.tup [.int (i : Nat), x]) :=
      ⟨by show 2 ≤ sizeLine; decide, [.int i tk, y], .cons ⟨_, rfl⟩ (.cons ru .nil), ⟨_, hT2, rfl, _, rfl⟩⟩
    have I1 : Inv X pins σ (upd H s.heap.objs.size (.tup [.int (i : Nat), x])) { s with heap := h'', toks := tk + 1 } :=
      I.turnedNew (ch := [e, it]) (fun b ob hb q => (sb.2 b (fun z => hb (by simp [z]))).trans (hk b ob (fun z => hb (by simp [z])) (fun z => hb (by simp [z])) q)) hf (Nat.le_refl _) new
    refine ⟨.ref s.heap.objs.size, _, I1, rfl, ⟨_, x, rfl, I.hok.fresh (Nat.le_refl _), rfl, fun ys hy => by rw [I.tuple_inj hy hq]; exact hx⟩, ⟨⟨y, ?_⟩, hst.1.at fun o q => (sb.2 it (Ne.symm hne)).trans q, hne⟩, fun b hb => ?_⟩
    · have e1 : ((i + 1 : Nat) : Int) = (i : Int) + 1 := by omega
      rw [e1]; exact he'
    · have hb' : b < s.heap.objs.size := by
        have e' : b = e ∨ b = it := by simpa using hb
        rcases e' with z | z
        · rw [z]; exact hel
        · rw [z]; exact hil
      rw [upd_ne (Nat.ne_of_lt hb')]
      exact (hf b hb).1
  done := by
    intro X hP hw hK hc i pins s σ H E I hf st hg
    subst hP hw hK
    obtain ⟨⟨old, he⟩, hit, hne⟩ := st
    obtain ⟨xs, hq, hx⟩ := hg
    obtain ⟨its, rv, p, hz⟩ := I.tuple hq
    have hT : s.heap.IsTuple a its.toArray := p
    obtain ⟨f0, f1, f2, f3, f4, f5⟩ := hf it (by simp)
    have hl := rv.length
    have nai : a ≠ it := fun z => by
      obtain ⟨o, ho, hcl, _⟩ := hT
      obtain ⟨o2, ho2, hcl2, _⟩ := hit
      rw [z, ho2] at ho
      cases ho
      rw [hcl2] at hcl
      exact absurd hcl (by decide)
    have ei : ((i : Nat) : Int) = ((i : Nat) : Int) := rfl
    have hT' : s.TypeIs (.ref e) "enumerate" := ⟨_, he, rfl⟩
    unfold pyNext
    refine wpAny_bind (wpAny_attempt (wpAny_callSpecial?_slot (name := Str.ofString "__next__") hT' F.slot_enumerate_next
      (wpAny_call_entry F.slot_enumerate_next hT' F.entry_enumerate_next ?_ (F.args_enumerate_next_1 _))))
    show wpAny _ _ (field (.ref e) 2 >>= _) _ _ _
    refine wpAny_bind (wpAny_field he rfl (x := .ref it) rfl ?_)
    refine wpAny_bind (wpAny_nextOf_tuple_end (I.ok.hd hc) hit hT (by simp; omega) fun h' x he' hx' => ?_)
    obtain ⟨o, ho, hcc⟩ := hx'
    refine wpAny_bind (wpAny_isInstance (T := "StopIteration") (b := true) ⟨o, ho, hcc⟩ isSubtype_stop ?_)
    exact wpAny_pure ⟨rfl, I.turned (t' := s.toks) (fun b o hb q => he' b o hb q) f0 f1 f3 f4 f5⟩
  self := fun A i s Q E st h => let ⟨⟨_, he⟩, _⟩ := st; wpAny_pyIter_enum he h
def iEnumT (K : PySem.W.Frag) (ta : TA) : TI := fun σ H R => ta σ H fun vs H1 => ∃ a xs, vs = [.ref a] ∧ SqT K H1 a xs ∧ R (IteT K a) H1
theorem pi_enumT {X : Cx} {e : Expr} {ta : TA} {p pos tpos : Pos} {elts : List Expr} {kk : Nat} (hg : Gl X "enumerate") (hm : X.mg "enumerate" = none) (ha : PA X [e] ta) (hs : starEach [e] X.env = [(false, eval e X.env)] := by rfl) :
    PI X (.Tuple elts kk tpos) (.Call (.Name "enumerate" p) [e] [] pos) (iEnumT X.K ta) := by
  refine ⟨fun pins s σ H R I h => ?_⟩
  refine Call_ (ld_blt I hg hm boot_enumerate (PyProof.Rows.callWith_type1 (thn (ha.run pos pins s σ H _ I h) fun us s1 ⟨vs, H1, I1, r1, q1⟩ => ?_) hs rfl))
  obtain ⟨a, xs, ex, hq, q⟩ := q1
  subst ex
  cases r1 with
  | cons r rr =>
    cases rr
    cases r
    obtain ⟨its, rv, p', hz⟩ := I1.tuple hq
    refine enum_begins1 (begins_tuple a its.toArray) (show s1.heap.IsTuple a its.toArray from p') fun h' he hit hsz hk => wpAny_pyIter_enum he ?_
    have I2 : Inv X pins σ H1 { s1 with heap := h' } := I1.kept (t' := s1.toks) hk
    refine ⟨s1.heap.objs.size + 1, [s1.heap.objs.size + 1, s1.heap.objs.size], _, _, H1, rfl, I2, turn_enumT a (s1.heap.objs.size + 1) s1.heap.objs.size, ⟨⟨.none, he⟩, ⟨_, hit, rfl, rfl⟩, Nat.succ_ne_self _⟩, fun b hb => ?_, q⟩
    have e' : b = s1.heap.objs.size + 1 ∨ b = s1.heap.objs.size := by simpa using hb
    have hle : s1.heap.objs.size ≤ b := by
      rcases e' with z | z
      · rw [z]; exact Nat.le_add_right _ _
      · rw [z]; exact Nat.le_refl _
    exact I1.fpOk hle (I1.hok.fresh hle)
end RS

set_option Elab.async false
set_option linter.all false
set_option maxRecDepth 100000
set_option maxHeartbeats 4000000
/-! A layer of data over the hand layer: immutable data (D), mutable cells (Store). -/
namespace RS
open PySem PySem.Spec PyProof.Rows L2
/-! ### data -/
inductive D where
  | non | bl (b : Bool) | int (i : Int) | str (x : Str) | lst (xs : List D) | tup (xs : List D) | obj (C : Addr) (fs : List (Str × D)) | ref (a : Addr) | ty (n : String) | frz (ns : List Int)

def KTup (K : PySem.W.Frag) (a : Addr) (xs : List V) : Prop := ∃ (o : Obj) (its : Array Value) (n : Nat), K.lookup a = some o ∧ o.cls = .type "tuple" ∧ o.data = .seq its n ∧ its.size ≤ sizeLine ∧ Vals xs its.toList
mutual
inductive Rp (K : PySem.W.Frag) (Z : Addr → Prop) (H : Hp) : V → D → Prop
  | non : Rp K Z H .non .non
  | bl (b : Bool) : Rp K Z H (.bl b) (.bl b)
  | int (i : Int) : Rp K Z H (.int i) (.int i)
  | str (x : Str) : Rp K Z H (.str x) (.str x)
  | ref (a : Addr) : Rp K Z H (.ref a) (.ref a)
  | ty (n : String) : Rp K Z H (.ty n) (.ty n)
  | lst {a : Addr} {xs : List V} {ds : List D} : H a = some (.lst xs) → ¬ Z a → RpAll K Z H xs ds → Rp K Z H (.ref a) (.lst ds)
  | frz {a : Addr} {o : Obj} {ns : List Int} : H a = some (.frz o (.lst (ns.map V.int))) → ¬ Z a → Rp K Z H (.ref a) (.frz ns)
  | frzK {a : Addr} {ns : List Int} : (∀ H, SqL K H a (ns.map V.int)) → Rp K Z H (.ref a) (.frz ns)
  | tup {a : Addr} {xs : List V} {ds : List D} : H a = some (.tup xs) → ¬ Z a → RpAll K Z H xs ds → Rp K Z H (.ref a) (.tup ds)
  | tupK {a : Addr} {xs : List V} {ds : List D} : KTup K a xs → RpAll K Z H xs ds → Rp K Z H (.ref a) (.tup ds)
  | obj {a C dx : Addr} {fs : List (Str × V)} {gs : List (Str × D)} : H a = some (.ins C dx fs) → ¬ Z a → RpF K Z H fs gs → Rp K Z H (.ref a) (.obj C gs)
inductive RpAll (K : PySem.W.Frag) (Z : Addr → Prop) (H : Hp) : List V → List D → Prop
  | nil : RpAll K Z H [] []
  | cons {v : V} {vs : List V} {d : D} {ds : List D} : Rp K Z H v d → RpAll K Z H vs ds → RpAll K Z H (v :: vs) (d :: ds)
inductive RpF (K : PySem.W.Frag) (Z : Addr → Prop) (H : Hp) : List (Str × V) → List (Str × D) → Prop
  | nil : RpF K Z H [] []
  | cons {f : Str} {v : V} {fs : List (Str × V)} {d : D} {gs : List (Str × D)} : Rp K Z H v d → RpF K Z H fs gs → RpF K Z H ((f, v) :: fs) ((f, d) :: gs)
end
section
variable {K : PySem.W.Frag} {Z Z' : Addr → Prop} {H H' : Hp}
/-- H' holds what H holds outside Z; Z' is no wider on what H tracks -/
structure Lift (Z : Addr → Prop) (H : Hp) (Z' : Addr → Prop) (H' : Hp) : Prop where
  keep : ∀ a o, ¬ Z a → H a = some o → H' a = some o
  fresh : ∀ a, Z' a → Z a ∨ H a = none
theorem Lift.rd (L : Lift Z H Z' H') {a : Addr} {u : HO} (h : Rd H a u) (n : ¬ Z a) : Rd H' a u ∧ ¬ Z' a := by
  rcases h with h | ⟨o, h⟩
  · refine ⟨.inl (L.keep a _ n h), fun z => ?_⟩
    rcases L.fresh a z with q | q
    · exact n q
    · rw [h] at q; cases q
  · refine ⟨.inr ⟨o, L.keep a _ n h⟩, fun z => ?_⟩
    rcases L.fresh a z with q | q
    · exact n q
    · rw [h] at q; cases q
mutual
theorem Rp.lift (L : Lift Z H Z' H') : ∀ {v : V} {d : D}, Rp K Z H v d → Rp K Z' H' v d
  | _, _, .non => .non
  | _, _, .bl b => .bl b
  | _, _, .int i => .int i
  | _, _, .str x => .str x
  | _, _, .ref a => .ref a
  | _, _, .ty n => .ty n
  | _, _, .lst h n r => .lst (L.keep _ _ n h) (L.rd (.inl h) n).2 (RpAll.lift L r)
  | _, _, .frz h n => .frz (L.keep _ _ n h) (L.rd (.inl h) n).2
  | _, _, .frzK h => .frzK h
  | _, _, .tup h n r => .tup (L.keep _ _ n h) (L.rd (.inl h) n).2 (RpAll.lift L r)
  | _, _, .tupK h r => .tupK h (RpAll.lift L r)
  | _, _, .obj h n r => .obj (L.keep _ _ n h) (L.rd (.inl h) n).2 (RpF.lift L r)
theorem RpAll.lift (L : Lift Z H Z' H') : ∀ {vs : List V} {ds : List D}, RpAll K Z H vs ds → RpAll K Z' H' vs ds
  | _, _, .nil => .nil
  | _, _, .cons r t => .cons (Rp.lift L r) (RpAll.lift L t)
theorem RpF.lift (L : Lift Z H Z' H') : ∀ {vs : List (Str × V)} {ds : List (Str × D)}, RpF K Z H vs ds → RpF K Z' H' vs ds
  | _, _, .nil => .nil
  | _, _, .cons r t => .cons (Rp.lift L r) (RpF.lift L t)
end
theorem RpAll.length : ∀ {vs : List V} {ds : List D}, RpAll K Z H vs ds → vs.length = ds.length
  | _, _, .nil => rfl
  | _, _, .cons _ t => congrArg (· + 1) t.length
theorem RpAll.get : ∀ {vs : List V} {ds : List D} {i : Nat} {d : D}, RpAll K Z H vs ds → ds[i]? = some d → ∃ v, vs[i]? = some v ∧ Rp K Z H v d
  | _, _, _, _, .nil, e => by simp at e
  | _, _, 0, _, .cons r _, e => by simp at e; subst e; exact ⟨_, rfl, r⟩
  | _, _, i + 1, d, .cons _ t, e => by
    obtain ⟨u, h1, h2⟩ := RpAll.get (i := i) (d := d) t (by simpa using e)
    exact ⟨u, by simpa using h1, h2⟩
theorem RpAll.getV : ∀ {vs : List V} {ds : List D} {i : Nat} {v : V}, RpAll K Z H vs ds → vs[i]? = some v → ∃ d, ds[i]? = some d ∧ Rp K Z H v d
  | _, _, _, _, .nil, e => by simp at e
  | _, _, 0, _, .cons r _, e => by simp at e; subst e; exact ⟨_, rfl, r⟩
  | _, _, i + 1, d, .cons _ t, e => by
    obtain ⟨u, h1, h2⟩ := RpAll.getV (i := i) (v := d) t (by simpa using e)
    exact ⟨u, by simpa using h1, h2⟩
theorem RpAll.append : ∀ {vs ws : List V} {ds es : List D}, RpAll K Z H vs ds → RpAll K Z H ws es → RpAll K Z H (vs ++ ws) (ds ++ es)
  | _, _, _, _, .nil, s => s
  | _, _, _, _, .cons r t, s => .cons r (RpAll.append t s)
theorem RpAll.set {v : V} {d : D} (r : Rp K Z H v d) : ∀ {vs : List V} {ds : List D} (i : Nat), RpAll K Z H vs ds → RpAll K Z H (vs.set i v) (ds.set i d)
  | _, _, _, .nil => .nil
  | _, _, 0, .cons _ t => .cons r t
  | _, _, i + 1, .cons q t => .cons q (RpAll.set r i t)
theorem RpAll.take : ∀ {vs : List V} {ds : List D} (n : Nat), RpAll K Z H vs ds → RpAll K Z H (vs.take n) (ds.take n)
  | _, _, 0, _ => .nil
  | _, _, _ + 1, .nil => .nil
  | _, _, n + 1, .cons r t => .cons r (RpAll.take n t)
theorem RpAll.drop : ∀ {vs : List V} {ds : List D} (n : Nat), RpAll K Z H vs ds → RpAll K Z H (vs.drop n) (ds.drop n)
  | _, _, 0, r => r
  | _, _, _ + 1, .nil => .nil
  | _, _, n + 1, .cons _ t => RpAll.drop n t
theorem RpAll.one {v : V} {d : D} (h : Rp K Z H v d) : RpAll K Z H [v] [d] := .cons h .nil
theorem RpF.lookup : ∀ {vs : List (Str × V)} {ds : List (Str × D)} {f : Str} {d : D}, RpF K Z H vs ds → ds.lookup f = some d → ∃ v, vs.lookup f = some v ∧ Rp K Z H v d
  | _, _, _, _, .nil, e => by cases e
  | _, _, f, d, .cons (f := g) (v := v) (d := d0) r t, e => by
    rw [List.lookup_cons] at e ⊢
    cases q : (f == g) with
    | true =>
      rw [q] at e
      cases e
      exact ⟨v, rfl, r⟩
    | false =>
      rw [q] at e
      exact RpF.lookup t e
theorem RpF.none : ∀ {vs : List (Str × V)} {ds : List (Str × D)} {f : Str}, RpF K Z H vs ds → ds.lookup f = none → vs.lookup f = none
  | _, _, _, .nil, e => rfl
  | _, _, f, .cons (f := g) (v := v) (d := d0) r t, e => by
    rw [List.lookup_cons] at e ⊢
    cases q : (f == g) with
    | true =>
      rw [q] at e
      cases e
    | false =>
      rw [q] at e
      exact RpF.none t e
theorem RpF.length : ∀ {vs : List (Str × V)} {ds : List (Str × D)}, RpF K Z H vs ds → vs.length = ds.length
  | _, _, .nil => rfl
  | _, _, .cons _ t => congrArg (· + 1) t.length
def putD (f : Str) (d : D) : List (Str × D) → List (Str × D)
  | [] => [(f, d)]
  | (g, e) :: r => if g = f then (f, d) :: r else (g, e) :: putD f d r
theorem Rp.tupV {v : V} {ds : List D} (h : Rp K Z H v (.tup ds)) : ∃ a xs, v = .ref a ∧ SqT K H a xs ∧ RpAll K Z H xs ds := by
  cases h with
  | tup h n r => exact ⟨_, _, rfl, .inl (.inl h), r⟩
  | tupK h r => exact ⟨_, _, rfl, .inr h, r⟩
theorem Rp.lstV {v : V} {ds : List D} (h : Rp K Z H v (.lst ds)) : ∃ a xs, v = .ref a ∧ H a = some (.lst xs) ∧ RpAll K Z H xs ds := by
  cases h with
  | lst h n r => exact ⟨_, _, rfl, h, r⟩
theorem Rp.frzV {v : V} {ns : List Int} (h : Rp K Z H v (.frz ns)) : ∃ a, v = .ref a ∧ SqL K H a (ns.map V.int) := by
  cases h with
  | frz h n => exact ⟨_, rfl, .inl (.inr ⟨_, h⟩)⟩
  | frzK h => exact ⟨_, rfl, h H⟩
theorem Rp.objV {v : V} {C : Addr} {gs : List (Str × D)} (h : Rp K Z H v (.obj C gs)) : ∃ a dx fs, v = .ref a ∧ H a = some (.ins C dx fs) ∧ ¬ Z a ∧ RpF K Z H fs gs := by
  cases h with
  | obj h n r => exact ⟨_, _, _, rfl, h, n, r⟩
theorem Rp.intV {v : V} {i : Int} (h : Rp K Z H v (.int i)) : v = .int i := by cases h; rfl
theorem Rp.blV {v : V} {i : Bool} (h : Rp K Z H v (.bl i)) : v = .bl i := by cases h; rfl
theorem Rp.strV {v : V} {i : Str} (h : Rp K Z H v (.str i)) : v = .str i := by cases h; rfl
theorem Rp.nonV {v : V} (h : Rp K Z H v .non) : v = .non := by cases h; rfl
theorem Rp.tyV {v : V} {n : String} (h : Rp K Z H v (.ty n)) : v = .ty n := by cases h; rfl
theorem Rp.refV {v : V} {a : Addr} (h : Rp K Z H v (.ref a)) : v = .ref a := by cases h; rfl
end
/-! ### cells -/
inductive RpK (K : PySem.W.Frag) (Z : Addr → Prop) (H : Hp) {κ : Type} : List (κ × V) → List (κ × D) → Prop
  | nil : RpK K Z H [] []
  | cons {k : κ} {v : V} {vs : List (κ × V)} {d : D} {ds : List (κ × D)} : Rp K Z H v d → RpK K Z H vs ds → RpK K Z H ((k, v) :: vs) ((k, d) :: ds)
theorem RpK.lift {K : PySem.W.Frag} {Z Z' : Addr → Prop} {H H' : Hp} (L : Lift Z H Z' H') {κ : Type} {vs : List (κ × V)} {ds : List (κ × D)} (r : RpK K Z H vs ds) : RpK K Z' H' vs ds := by
  induction r with
  | nil => exact .nil
  | cons a _ ih => exact .cons (a.lift L) ih
inductive Cell where
  | lst (ds : List D)
  | ins (C : Addr) (fs : List (Str × D))
  | dK (kvs : List (Key × D))
  | dT (kvs : List (List Key × D))
def CellOk (K : PySem.W.Frag) (Z : Addr → Prop) (H : Hp) (a : Addr) : Cell → Prop
  | .lst ds => ∃ xs, H a = some (.lst xs) ∧ RpAll K Z H xs ds
  | .ins C fs => ∃ dx gs, H a = some (.ins C dx gs) ∧ RpF K Z H gs fs
  | .dK kvs => ∃ ys, H a = some (.dK ys) ∧ RpK K Z H ys kvs
  | .dT kvs => ∃ ys, H a = some (.dT ys) ∧ RpK K Z H ys kvs
abbrev Store := List (Addr × Cell)
def dom (S : Store) (a : Addr) : Prop := a ∈ S.map (·.1)
structure StOk (K : PySem.W.Frag) (S : Store) (H : Hp) : Prop where
  nd : (S.map (·.1)).Nodup
  ok : ∀ a c, (a, c) ∈ S → CellOk K (dom S) H a c
def setC (S : Store) (a : Addr) (c : Cell) : Store := S.map fun p => if p.1 = a then (a, c) else p
theorem setC_keys (S : Store) (a : Addr) (c : Cell) : (setC S a c).map (·.1) = S.map (·.1) := by
  unfold setC
  rw [List.map_map]
  apply List.map_congr_left
  intro p _
  show (if p.1 = a then (a, c) else p).1 = p.1
  split
  · rename_i h; exact h.symm
  · rfl
theorem dom_setC {S : Store} {a : Addr} {c : Cell} : dom (setC S a c) = dom S := by
  funext b
  unfold dom
  rw [setC_keys]
theorem lookup_mem {S : Store} {a : Addr} {c : Cell} (h : S.lookup a = some c) : (a, c) ∈ S := by
  induction S with
  | nil => cases h
  | cons p r ih =>
    obtain ⟨b, u⟩ := p
    rw [List.lookup_cons] at h
    cases q : (a == b) with
    | true =>
      rw [q] at h
      cases h
      rw [beq_iff_eq.mp q]
      exact List.mem_cons_self
    | false =>
      rw [q] at h
      exact List.mem_cons_of_mem _ (ih h)
theorem dom_of_lookup {S : Store} {a : Addr} {c : Cell} (h : S.lookup a = some c) : dom S a := List.mem_map.mpr ⟨_, lookup_mem h, rfl⟩
theorem ne_dom {S : Store} {x a : Addr} {c : Cell} (n : ¬ dom S x) (l : S.lookup a = some c) : x ≠ a := fun z => n (by rw [z]; exact dom_of_lookup l)
theorem lookup_setC {S : Store} {a : Addr} {c c' : Cell} (h : S.lookup a = some c) : (setC S a c').lookup a = some c' := by
  induction S with
  | nil => cases h
  | cons p r ih =>
    obtain ⟨b, u⟩ := p
    rw [List.lookup_cons] at h
    show ((if b = a then (a, c') else (b, u)) :: setC r a c').lookup a = some c'
    cases q : (a == b) with
    | true =>
      have e : b = a := (beq_iff_eq.mp q).symm
      rw [if_pos e, List.lookup_cons]
      simp
    | false =>
      rw [q] at h
      have e : ¬ b = a := fun z => by rw [z] at q; simp at q
      rw [if_neg e, List.lookup_cons, q]
      exact ih h
theorem lookup_setC_ne {S : Store} {a b : Addr} {c' : Cell} (h : b ≠ a) : (setC S a c').lookup b = S.lookup b := by
  induction S with
  | nil => rfl
  | cons p r ih =>
    obtain ⟨x, u⟩ := p
    show ((if x = a then (a, c') else (x, u)) :: setC r a c').lookup b = _
    by_cases e : x = a
    · rw [if_pos e, List.lookup_cons, List.lookup_cons, e]
      have q : (b == a) = false := beq_eq_false_iff_ne.mpr h
      rw [q]
      exact ih
    · rw [if_neg e, List.lookup_cons, List.lookup_cons]
      rw [ih]
section
variable {K : PySem.W.Frag} {S S' S1 S2 : Store} {H H' H1 H2 : Hp}
theorem StOk.there (h : StOk K S H) {a : Addr} (d : dom S a) : H a ≠ none := by
  obtain ⟨p, hp, e⟩ := List.mem_map.mp d
  obtain ⟨b, c⟩ := p
  have e : b = a := e
  subst e
  have q := h.ok b c hp
  cases c with
  | lst ds => obtain ⟨xs, e, _⟩ := q; rw [e]; exact fun z => nomatch z
  | ins C fs => obtain ⟨dx, gs, e, _⟩ := q; rw [e]; exact fun z => nomatch z
  | dK ds => obtain ⟨xs, e, _⟩ := q; rw [e]; exact fun z => nomatch z
  | dT ds => obtain ⟨xs, e, _⟩ := q; rw [e]; exact fun z => nomatch z
structure Step (K : PySem.W.Frag) (S : Store) (H : Hp) (S' : Store) (H' : Hp) : Prop where
  keep : ∀ a o, ¬ dom S a → H a = some o → H' a = some o
  st : StOk K S' H'
  fresh : ∀ a, dom S' a → dom S a ∨ H a = none
theorem Step.refl (h : StOk K S H) : Step K S H S H := ⟨fun _ _ _ e => e, h, fun _ d => .inl d⟩
theorem Step.lft (s : Step K S H S' H') : Lift (dom S) H (dom S') H' := ⟨s.keep, s.fresh⟩
theorem Step.trans (s : Step K S H S1 H1) (t : Step K S1 H1 S2 H2) : Step K S H S2 H2 where
  keep := fun a o n e => t.keep a o (fun d => by
    rcases s.fresh a d with q | q
    · exact n q
    · rw [e] at q; cases q) (s.keep a o n e)
  st := t.st
  fresh := fun a d => by
    rcases t.fresh a d with q | q
    · exact s.fresh a q
    · by_cases z : dom S a
      · exact .inl z
      · refine .inr ?_
        cases e : H a with
        | none => rfl
        | some o => rw [s.keep a o z e] at q; cases q
theorem CellOk.lift {Z Z' : Addr → Prop} (L : Lift Z H Z' H') {a : Addr} (hs : H' a = H a) : ∀ {c : Cell}, CellOk K Z H a c → CellOk K Z' H' a c
  | .lst ds, ⟨xs, e, r⟩ => ⟨xs, hs.trans e, r.lift L⟩
  | .ins C fs, ⟨dx, gs, e, r⟩ => ⟨dx, gs, hs.trans e, r.lift L⟩
  | .dK ds, ⟨xs, e, r⟩ => ⟨xs, hs.trans e, r.lift L⟩
  | .dT ds, ⟨xs, e, r⟩ => ⟨xs, hs.trans e, r.lift L⟩
/-- a new object that is no cell -/
theorem StOk.new (h : StOk K S H) {p : Addr} {o : HO} (n : H p = none) : StOk K S (upd H p o) :=
  ⟨h.nd, fun a c m => by
    have q := h.ok a c m
    have ha : a ≠ p := fun z => h.there (List.mem_map.mpr ⟨_, m, rfl⟩) (z ▸ n)
    exact q.lift ⟨fun b u _ e => by rw [upd_ne (ne_of_none e n)]; exact e, fun _ d => .inl d⟩ (upd_ne ha)⟩
theorem Step.new (h : StOk K S H) {p : Addr} {o : HO} (n : H p = none) : Step K S H S (upd H p o) :=
  ⟨fun a u _ e => by rw [upd_ne (ne_of_none e n)]; exact e, h.new n, fun _ d => .inl d⟩
theorem StOk.nodom (h : StOk K S H) {p : Addr} (n : H p = none) : ¬ dom S p := fun d => h.there d n
/-- a cell changes -/
theorem StOk.put (h : StOk K S H) {a : Addr} {c c' : Cell} {o : HO} (l : S.lookup a = some c) (new : CellOk K (dom S) (upd H a o) a c') : StOk K (setC S a c') (upd H a o) where
  nd := by rw [setC_keys]; exact h.nd
  ok := fun b u m => by
    rw [dom_setC]
    unfold setC at m
    obtain ⟨p, hp, e⟩ := List.mem_map.mp m
    have e : (if p.1 = a then (a, c') else p) = (b, u) := e
    by_cases z : p.1 = a
    · rw [if_pos z] at e
      cases e
      exact new
    · rw [if_neg z] at e
      subst e
      exact (h.ok b u hp).lift ⟨fun x w n e => by rw [upd_ne (ne_dom n l)]; exact e, fun _ d => .inl d⟩ (upd_ne z)
theorem Step.put (h : StOk K S H) {a : Addr} {c c' : Cell} {o : HO} (l : S.lookup a = some c) (new : CellOk K (dom S) (upd H a o) a c') : Step K S H (setC S a c') (upd H a o) where
  keep := fun x w n e => by rw [upd_ne (ne_dom n l)]; exact e
  st := h.put l new
  fresh := fun x d => by rw [dom_setC] at d; exact .inl d
/-- a change of a cell leaves data that avoid the cells -/
theorem Lift.put {a : Addr} {c : Cell} {o : HO} (l : S.lookup a = some c) : Lift (dom S) H (dom S) (upd H a o) :=
  ⟨fun x w n e => by rw [upd_ne (ne_dom n l)]; exact e, fun _ d => .inl d⟩
/-- a new cell -/
theorem Step.cell (h : StOk K S H) {p : Addr} {c : Cell} {o : HO} (n : H p = none) (new : CellOk K (dom ((p, c) :: S)) (upd H p o) p c) : Step K S H ((p, c) :: S) (upd H p o) where
  keep := fun a u _ e => by rw [upd_ne (ne_of_none e n)]; exact e
  st := ⟨List.nodup_cons.mpr ⟨h.nodom n, h.nd⟩, fun a u m => by
    rcases List.mem_cons.mp m with e | m
    · cases e; exact new
    · have ha : a ≠ p := fun z => h.there (List.mem_map.mpr ⟨_, m, rfl⟩) (z ▸ n)
      refine (h.ok a u m).lift ⟨fun b u _ e => by rw [upd_ne (ne_of_none e n)]; exact e, fun x d => ?_⟩ (upd_ne ha)
      rcases List.mem_cons.mp (show x ∈ p :: S.map (·.1) from d) with z | z
      · rw [z]; exact .inr n
      · exact .inl z⟩
  fresh := fun a d => by
    rcases List.mem_cons.mp (show a ∈ p :: S.map (·.1) from d) with z | z
    · rw [z]; exact .inr n
    · exact .inl z
theorem Lift.newCell {p : Addr} {c : Cell} {o : HO} (n : H p = none) : Lift (dom S) H (dom ((p, c) :: S)) (upd H p o) :=
  ⟨fun a u _ e => by rw [upd_ne (ne_of_none e n)]; exact e, fun a d => by
    rcases List.mem_cons.mp (show a ∈ p :: S.map (·.1) from d) with z | z
    · rw [z]; exact .inr n
    · exact .inl z⟩
/-- fewer cells -/
theorem StOk.sub (h : StOk K S' H') (hs : ∀ p ∈ S, p ∈ S') (nd : (S.map (·.1)).Nodup) : StOk K S H' :=
  ⟨nd, fun a c m => (h.ok a c (hs _ m)).lift ⟨fun _ _ _ e => e, fun b d => by
    obtain ⟨p, hp, e⟩ := List.mem_map.mp d
    exact .inl (List.mem_map.mpr ⟨p, hs p hp, e⟩)⟩ rfl⟩
end
/-! ### slots -/
inductive EnvR (K : PySem.W.Frag) (Z : Addr → Prop) (H : Hp) : List (Option V) → List (Option D) → Prop
  | nil : EnvR K Z H [] []
  | skip {x : Option V} {σ : List (Option V)} {G : List (Option D)} : EnvR K Z H σ G → EnvR K Z H (x :: σ) (none :: G)
  | cons {v : V} {d : D} {σ : List (Option V)} {G : List (Option D)} : Rp K Z H v d → EnvR K Z H σ G → EnvR K Z H (some v :: σ) (some d :: G)
section
variable {K : PySem.W.Frag} {Z Z' : Addr → Prop} {H H' : Hp}
theorem EnvR.lift (L : Lift Z H Z' H') : ∀ {σ : List (Option V)} {G : List (Option D)}, EnvR K Z H σ G → EnvR K Z' H' σ G
  | _, _, .nil => .nil
  | _, _, .skip t => .skip (EnvR.lift L t)
  | _, _, .cons r t => .cons (r.lift L) (EnvR.lift L t)
theorem EnvR.get : ∀ {σ : List (Option V)} {G : List (Option D)} {i : Nat} {d : D}, EnvR K Z H σ G → G[i]? = some (some d) → ∃ v, σ[i]? = some (some v) ∧ Rp K Z H v d
  | _, _, _, _, .nil, e => by simp at e
  | _, _, 0, _, .skip _, e => by simp at e
  | _, _, 0, _, .cons r _, e => by simp at e; subst e; exact ⟨_, rfl, r⟩
  | _, _, i + 1, d, .skip t, e => by
    obtain ⟨u, h1, h2⟩ := EnvR.get (i := i) (d := d) t (by simpa using e)
    exact ⟨u, by simpa using h1, h2⟩
  | _, _, i + 1, d, .cons _ t, e => by
    obtain ⟨u, h1, h2⟩ := EnvR.get (i := i) (d := d) t (by simpa using e)
    exact ⟨u, by simpa using h1, h2⟩
theorem EnvR.set {v : V} {d : D} (r : Rp K Z H v d) : ∀ {σ : List (Option V)} {G : List (Option D)} (i : Nat), EnvR K Z H σ G → EnvR K Z H (σ.set i (some v)) (G.set i (some d))
  | _, _, _, .nil => .nil
  | _, _, 0, .skip t => .cons r t
  | _, _, 0, .cons _ t => .cons r t
  | _, _, i + 1, .skip t => .skip (EnvR.set r i t)
  | _, _, i + 1, .cons q t => .cons q (EnvR.set r i t)
theorem EnvR.wipe1 : ∀ {σ : List (Option V)} {G : List (Option D)} (i : Nat), EnvR K Z H σ G → EnvR K Z H (σ.set i none) (G.set i none)
  | _, _, _, .nil => .nil
  | _, _, 0, .skip t => .skip t
  | _, _, 0, .cons _ t => .skip t
  | _, _, i + 1, .skip t => .skip (EnvR.wipe1 i t)
  | _, _, i + 1, .cons q t => .cons q (EnvR.wipe1 i t)
def wipeG (G : List (Option D)) : List Nat → List (Option D)
  | [] => G
  | v :: vs => (wipeG G vs).set v none
theorem EnvR.wipe {σ : List (Option V)} {G : List (Option D)} (e : EnvR K Z H σ G) : ∀ vs : List Nat, EnvR K Z H (L2.wipe σ vs) (wipeG G vs)
  | [] => e
  | v :: vs => by
    unfold L2.wipe wipeG
    exact EnvR.wipe1 v (EnvR.wipe e vs)
theorem EnvR.start : ∀ {vs : List V} {ds : List D} (n : Nat), RpAll K Z H vs ds → EnvR K Z H (vs.map some ++ List.replicate n none) (ds.map some ++ List.replicate n none)
  | _, _, n, .nil => by
    show EnvR K Z H (List.replicate n none) (List.replicate n none)
    induction n with
    | zero => exact .nil
    | succ n ih => exact .skip ih
  | _, _, n, .cons r t => .cons r (EnvR.start n t)
end
theorem wipe_set {σ : List (Option V)} {x : Option V} {j : Nat} : ∀ {vs : List Nat}, j ∈ vs → wipe (σ.set j x) vs = wipe σ vs
  | [], h => by cases h
  | v :: vs, h => by
    unfold wipe
    by_cases hj : j ∈ vs
    · rw [wipe_set hj]
    · have e : j = v := by
        rcases List.mem_cons.mp h with e | e
        · exact e
        · exact absurd e hj
      subst e
      have aux : ∀ (ws : List Nat), j ∉ ws → (wipe (σ.set j x) ws) = (wipe σ ws).set j x := by
        intro ws
        induction ws with
        | nil => intro _; rfl
        | cons w ws ih =>
          intro hn
          have h1 : j ≠ w := fun e => hn (by simp [e])
          have h2 : j ∉ ws := fun e => hn (by simp [e])
          unfold wipe
          rw [ih h2, List.set_comm _ _ h1]
      rw [aux vs hj, List.set_set]
theorem wipe_none {σ : List (Option V)} {vs : List Nat} : ∀ {j : Nat}, j ∈ vs → (wipe σ vs).set j none = wipe σ vs := by
  induction vs with
  | nil => intro j h; cases h
  | cons v vs ih =>
    intro j h
    unfold wipe
    by_cases e : j = v
    · rw [e, List.set_set]
    · have hj : j ∈ vs := by
        rcases List.mem_cons.mp h with z | z
        · exact absurd z e
        · exact z
      rw [List.set_comm _ _ (fun z => e z.symm), ih hj]
theorem wipe_wipe {σ : List (Option V)} {vs : List Nat} : wipe (wipe σ vs) vs = wipe σ vs := by
  have aux : ∀ ws : List Nat, (∀ j ∈ ws, j ∈ vs) → wipe (wipe σ vs) ws = wipe σ vs := by
    intro ws
    induction ws with
    | nil => intro _; rfl
    | cons w ws ih =>
      intro h
      show (wipe (wipe σ vs) ws).set w none = _
      rw [ih fun j hj => h j (List.mem_cons_of_mem _ hj)]
      exact wipe_none (h w List.mem_cons_self)
  exact aux vs fun _ h => h
end RS

set_option Elab.async false
set_option linter.all false
set_option maxRecDepth 100000
set_option maxHeartbeats 4000000
/-! The rules of the data layer. -/
namespace RS
open PySem PySem.Spec PyProof.Rows L2
abbrev Env' := List (Option D)
abbrev PD := D → Store → Prop
structure EnvOk (K : PySem.W.Frag) (S : Store) (H : Hp) (σ : L2.St) (G : Env') : Prop where
  st : StOk K S H
  env : EnvR K (dom S) H σ G
section
variable {K : PySem.W.Frag} {S S' S1 S2 : Store} {H H' H1 H2 : Hp} {σ σ' : L2.St} {G G' : Env'}
theorem EnvOk.step (e : EnvOk K S H σ G) (s : Step K S H S' H') : EnvOk K S' H' σ G := ⟨s.st, e.env.lift s.lft⟩
theorem EnvOk.set {v : V} {d : D} (e : EnvOk K S H σ G) (r : Rp K (dom S) H v d) (i : Nat) : EnvOk K S H (σ.set i (some v)) (G.set i (some d)) := ⟨e.st, e.env.set r i⟩
end
def EvG (K : PySem.W.Frag) (te : TE) (G : Env') (S : Store) (P : PD) : Prop := ∀ σ H, EnvOk K S H σ G → ∀ Q : VK, (∀ d S' v H', P d S' → Step K S H S' H' → Rp K (dom S') H' v d → Q v H') → te σ H Q
def EvT (K : PySem.W.Frag) (tt : TT) (G : Env') (S : Store) (P : Bool → Store → Prop) : Prop := ∀ σ H, EnvOk K S H σ G → ∀ Q : Bool → Hp → Prop, (∀ b S' H', P b S' → Step K S H S' H' → Q b H') → tt σ H Q
def EvA (K : PySem.W.Frag) (ta : TA) (G : Env') (S : Store) (P : List D → Store → Prop) : Prop := ∀ σ H, EnvOk K S H σ G → ∀ Q : List V → Hp → Prop, (∀ ds S' vs H', P ds S' → Step K S H S' H' → RpAll K (dom S') H' vs ds → Q vs H') → ta σ H Q
def EvO (K : PySem.W.Frag) (to : TO) (G : Env') (S : Store) (P : Option Int → Store → Prop) : Prop := ∀ σ H, EnvOk K S H σ G → ∀ Q : Option Int → Hp → Prop, (∀ o S' H', P o S' → Step K S H S' H' → Q o H') → to σ H Q
def OpG (K : PySem.W.Frag) (r : R2) (x y : D) (S : Store) (P : PD) : Prop := ∀ H vx vy, StOk K S H → Rp K (dom S) H vx x → Rp K (dom S) H vy y → ∀ Q : VK, (∀ d S' v H', P d S' → Step K S H S' H' → Rp K (dom S') H' v d → Q v H') → r vx vy H Q
def UnG (K : PySem.W.Frag) (r : V → Hp → VK → Prop) (x : D) (S : Store) (P : PD) : Prop := ∀ H vx, StOk K S H → Rp K (dom S) H vx x → ∀ Q : VK, (∀ d S' v H', P d S' → Step K S H S' H' → Rp K (dom S') H' v d → Q v H') → r vx H Q
def CbG (K : PySem.W.Frag) (r : List V → Hp → VK → Prop) (xs : List D) (S : Store) (P : PD) : Prop := ∀ H vs, StOk K S H → RpAll K (dom S) H vs xs → ∀ Q : VK, (∀ d S' v H', P d S' → Step K S H S' H' → Rp K (dom S') H' v d → Q v H') → r vs H Q
def MtG (K : PySem.W.Frag) (T : String) (r : V → List V → Hp → VK → Prop) (x : D) (xs : List D) (S : Store) (P : PD) : Prop := ∀ H v vs, StOk K S H → Rp K (dom S) H v x → RpAll K (dom S) H vs xs → ∀ Q : VK, (∀ d S' v H', P d S' → Step K S H S' H' → Rp K (dom S') H' v d → Q v H') → r v vs H Q
def TyG (K : PySem.W.Frag) (T : String) (x : D) (S : Store) : Prop := ∀ H v, StOk K S H → Rp K (dom S) H v x → tyV K T v H
structure EndsD where
  nx : Env' → Store → Prop
  rt : PD
  bk : Env' → Store → Prop := fun _ _ => False
  ct : Env' → Store → Prop := fun _ _ => False
@[reducible] def EndsD.nxt (N : EndsD) (f : Env' → Store → Prop) : EndsD := ⟨f, N.rt, N.bk, N.ct⟩
@[reducible] def EndsD.loop (N : EndsD) (f : Env' → Store → Prop) : EndsD := ⟨f, N.rt, N.nx, f⟩
structure Fits (K : PySem.W.Frag) (S : Store) (H : Hp) (N : EndsD) (E : Ends) : Prop where
  nx : ∀ G' S' σ' H', N.nx G' S' → Step K S H S' H' → EnvOk K S' H' σ' G' → E.nx σ' H'
  rt : ∀ d S' v H', N.rt d S' → Step K S H S' H' → Rp K (dom S') H' v d → E.rt v H'
  bk : ∀ G' S' σ' H', N.bk G' S' → Step K S H S' H' → EnvOk K S' H' σ' G' → E.bk σ' H'
  ct : ∀ G' S' σ' H', N.ct G' S' → Step K S H S' H' → EnvOk K S' H' σ' G' → E.ct σ' H'
def ExG (K : PySem.W.Frag) (ts : TS) (G : Env') (S : Store) (N : EndsD) : Prop := ∀ σ H (E : Ends), EnvOk K S H σ G → Fits K S H N E → ts E σ H
def TgG (K : PySem.W.Frag) (g : TG) (d : D) (G : Env') (S : Store) (P : Env' → Store → Prop) : Prop := ∀ σ H v, EnvOk K S H σ G → Rp K (dom S) H v d → ∀ Q : L2.St → Hp → Prop, (∀ G' S' σ' H', P G' S' → Step K S H S' H' → EnvOk K S' H' σ' G' → Q σ' H') → g v σ H Q
def TgsG (K : PySem.W.Frag) (g : TGs) (ds : List D) (G : Env') (S : Store) (P : Env' → Store → Prop) : Prop := ∀ σ H vs, EnvOk K S H σ G → RpAll K (dom S) H vs ds → ∀ Q : L2.St → Hp → Prop, (∀ G' S' σ' H', P G' S' → Step K S H S' H' → EnvOk K S' H' σ' G' → Q σ' H') → g vs σ H Q
section
variable {K : PySem.W.Frag} {S S' S1 S2 : Store} {H H' H1 H2 : Hp} {σ σ' : L2.St} {G G' : Env'} {ta tb te : TE} {P : PD} {t u : TT} {PB : Bool → Store → Prop} {N : EndsD} {E : Ends}
theorem Fits.step (f : Fits K S H N E) (s : Step K S H S' H') : Fits K S' H' N E :=
  ⟨fun G1 S1 σ1 H1 n t e => f.nx G1 S1 σ1 H1 n (s.trans t) e, fun d S1 v H1 n t r => f.rt d S1 v H1 n (s.trans t) r, fun G1 S1 σ1 H1 n t e => f.bk G1 S1 σ1 H1 n (s.trans t) e, fun G1 S1 σ1 H1 n t e => f.ct G1 S1 σ1 H1 n (s.trans t) e⟩
/-! ### expressions -/
theorem EvG.mono {P' : PD} (h : EvG K te G S P) (k : ∀ d S', P d S' → P' d S') : EvG K te G S P' := fun σ H e Q q => h σ H e Q fun d S' v H' p => q d S' v H' (k d S' p)
theorem g_var {i : Nat} {d : D} (h : G[i]? = some (some d)) (k : P d S) : EvG K (tVar i) G S P := fun σ H e Q q => by
  obtain ⟨v, h1, h2⟩ := e.env.get h
  exact ⟨v, h1, q d S v H k (.refl e.st) h2⟩
theorem g_int {i : Int} (k : P (.int i) S) : EvG K (tC (.int i)) G S P := fun σ H e Q q => q _ S _ H k (.refl e.st) (.int i)
theorem g_str {i : Str} (k : P (.str i) S) : EvG K (tC (.str i)) G S P := fun σ H e Q q => q _ S _ H k (.refl e.st) (.str i)
theorem g_bl {i : Bool} (k : P (.bl i) S) : EvG K (tC (.bl i)) G S P := fun σ H e Q q => q _ S _ H k (.refl e.st) (.bl i)
theorem g_non (k : P .non S) : EvG K (tC .non) G S P := fun σ H e Q q => q _ S _ H k (.refl e.st) .non
theorem g_ty {n : String} (k : P (.ty n) S) : EvG K (tC (.ty n)) G S P := fun σ H e Q q => q _ S _ H k (.refl e.st) (.ty n)
theorem g_ref {a : Addr} (k : P (.ref a) S) : EvG K (tC (.ref a)) G S P := fun σ H e Q q => q _ S _ H k (.refl e.st) (.ref a)
/-- an object of the written part -/
theorem g_kst {v : V} {d : D} (h : ∀ Z H, Rp K Z H v d) (k : P d S) : EvG K (tC v) G S P := fun σ H e Q q => q d S v H k (.refl e.st) (h _ _)
theorem g_op {r : R2} (h : EvG K ta G S fun x S1 => EvG K tb G S1 fun y S2 => OpG K r x y S2 P) : EvG K (tOp r ta tb) G S P := fun σ H e Q q =>
  h σ H e _ fun x S1 vx H1 p1 s1 r1 => p1 σ H1 (e.step s1) _ fun y S2 vy H2 p2 s2 r2 => p2 H2 vx vy s2.st (r1.lift s2.lft) r2 Q fun d S3 v H3 p3 s3 r3 => q d S3 v H3 p3 ((s1.trans s2).trans s3) r3
theorem g_un {r : V → Hp → VK → Prop} (h : EvG K ta G S fun x S1 => UnG K r x S1 P) : EvG K (tUn r ta) G S P := fun σ H e Q q =>
  h σ H e _ fun x S1 vx H1 p1 s1 r1 => p1 H1 vx s1.st r1 Q fun d S3 v H3 p3 s3 r3 => q d S3 v H3 p3 (s1.trans s3) r3
theorem g_and (h : EvG K ta G S fun x S1 => ∃ c, x = .bl c ∧ (c = true → EvG K tb G S1 P) ∧ (c = false → P (.bl false) S1)) : EvG K (tAndV ta tb) G S P := fun σ H e Q q =>
  h σ H e _ fun x S1 vx H1 ⟨c, ex, k1, k2⟩ s1 r1 => by
    subst ex
    refine ⟨c, r1.blV, ?_⟩
    cases c with
    | true => exact (if_pos rfl).symm ▸ k1 rfl σ H1 (e.step s1) Q fun d S3 v H3 p3 s3 r3 => q d S3 v H3 p3 (s1.trans s3) r3
    | false =>
      rw [if_neg Bool.false_ne_true]
      exact q _ S1 _ H1 (k2 rfl) s1 (.bl false)
theorem g_or (h : EvG K ta G S fun x S1 => ∃ c, x = .bl c ∧ (c = true → P (.bl true) S1) ∧ (c = false → EvG K tb G S1 P)) : EvG K (tOrV ta tb) G S P := fun σ H e Q q =>
  h σ H e _ fun x S1 vx H1 ⟨c, ex, k1, k2⟩ s1 r1 => by
    subst ex
    refine ⟨c, r1.blV, ?_⟩
    cases c with
    | true =>
      rw [if_pos rfl]
      exact q _ S1 _ H1 (k1 rfl) s1 (.bl true)
    | false =>
      rw [if_neg Bool.false_ne_true]
      exact k2 rfl σ H1 (e.step s1) Q fun d S3 v H3 p3 s3 r3 => q d S3 v H3 p3 (s1.trans s3) r3
theorem g_not (h : EvG K ta G S fun x S1 => ∃ c, x = .bl c ∧ P (.bl (!c)) S1) : EvG K (tNotV ta) G S P := fun σ H e Q q =>
  h σ H e _ fun x S1 vx H1 ⟨c, ex, k⟩ s1 r1 => by
    subst ex
    exact ⟨c, r1.blV, q _ S1 _ H1 k s1 (.bl _)⟩
theorem g_if (h : EvT K t G S fun c S1 => (c = true → EvG K ta G S1 P) ∧ (c = false → EvG K tb G S1 P)) : EvG K (tIf t ta tb) G S P := fun σ H e Q q =>
  h σ H e _ fun c S1 H1 ⟨k1, k2⟩ s1 => by
    cases c with
    | true =>
      rw [if_pos rfl]
      exact k1 rfl σ H1 (e.step s1) Q fun d S3 v H3 p3 s3 r3 => q d S3 v H3 p3 (s1.trans s3) r3
    | false =>
      rw [if_neg Bool.false_ne_true]
      exact k2 rfl σ H1 (e.step s1) Q fun d S3 v H3 p3 s3 r3 => q d S3 v H3 p3 (s1.trans s3) r3
theorem g_chain {r r' : R2} {tc : TE} (h : EvG K ta G S fun x S1 => EvG K tb G S1 fun y S2 => OpG K r x y S2 fun z S3 => ∃ c, z = .bl c ∧ (c = true → EvG K tc G S3 fun w S4 => OpG K r' y w S4 P) ∧ (c = false → P (.bl false) S3)) :
    EvG K (tChain r r' ta tb tc) G S P := fun σ H e Q q =>
  h σ H e _ fun x S1 vx H1 p1 s1 r1 => p1 σ H1 (e.step s1) _ fun y S2 vy H2 p2 s2 r2 => p2 H2 vx vy s2.st (r1.lift s2.lft) r2 _ fun z S3 vz H3 ⟨c, ez, k1, k2⟩ s3 r3 => by
    subst ez
    refine ⟨c, r3.blV, ?_⟩
    cases c with
    | true =>
      rw [if_pos rfl]
      exact k1 rfl σ H3 (((e.step s1).step s2).step s3) _ fun w S4 vw H4 p4 s4 r4 => p4 H4 vy vw s4.st ((r2.lift s3.lft).lift s4.lft) r4 Q fun d S5 v H5 p5 s5 r5 => q d S5 v H5 p5 ((((s1.trans s2).trans s3).trans s4).trans s5) r5
    | false =>
      rw [if_neg Bool.false_ne_true]
      exact q _ S3 _ H3 (k2 rfl) ((s1.trans s2).trans s3) (.bl false)
/-! arguments -/
theorem a_nil {PA : List D → Store → Prop} (k : PA [] S) : EvA K tNil G S PA := fun σ H e Q q => q [] S [] H k (.refl e.st) .nil
theorem a_cons {tr : TA} {PA : List D → Store → Prop} (h : EvG K ta G S fun x S1 => EvA K tr G S1 fun xs S2 => PA (x :: xs) S2) : EvA K (tCons ta tr) G S PA := fun σ H e Q q =>
  h σ H e _ fun x S1 vx H1 p1 s1 r1 => p1 σ H1 (e.step s1) _ fun xs S2 vs H2 p2 s2 r2 => q (x :: xs) S2 (vx :: vs) H2 p2 (s1.trans s2) (.cons (r1.lift s2.lft) r2)
theorem g_tup {t : TA} (h : EvA K t G S fun xs S1 => xs.length ≤ 100000 ∧ P (.tup xs) S1) : EvG K (tTup t) G S P := fun σ H e Q q =>
  h σ H e _ fun xs S1 vs H1 ⟨hl, p1⟩ s1 r1 => by
    refine ⟨Nat.le_trans (Nat.le_trans (Nat.le_of_eq r1.length) hl) (by decide), fun p hp => ?_⟩
    have s2 : Step K S1 H1 S1 (upd H1 p (.tup vs)) := .new s1.st hp
    exact q _ S1 _ _ p1 (s1.trans s2) (.tup upd_same (s1.st.nodom hp) (r1.lift s2.lft))
/-- a list that is not changed any more -/
theorem g_lst {t : TA} (h : EvA K t G S fun xs S1 => xs.length ≤ 100000 ∧ P (.lst xs) S1) : EvG K (tLst t) G S P := fun σ H e Q q =>
  h σ H e _ fun xs S1 vs H1 ⟨hl, p1⟩ s1 r1 => by
    refine ⟨Nat.le_trans (Nat.le_trans (Nat.le_of_eq r1.length) hl) (by decide), fun p hp => ?_⟩
    have s2 : Step K S1 H1 S1 (upd H1 p (.lst vs)) := .new s1.st hp
    exact q _ S1 _ _ p1 (s1.trans s2) (.lst upd_same (s1.st.nodom hp) (r1.lift s2.lft))
/-- a list that will be changed: a cell -/
theorem g_lstC {t : TA} (h : EvA K t G S fun xs S1 => xs.length ≤ 100000 ∧ ∀ l, ¬ dom S1 l → P (.ref l) ((l, .lst xs) :: S1)) : EvG K (tLst t) G S P := fun σ H e Q q =>
  h σ H e _ fun xs S1 vs H1 ⟨hl, p1⟩ s1 r1 => by
    refine ⟨Nat.le_trans (Nat.le_trans (Nat.le_of_eq r1.length) hl) (by decide), fun p hp => ?_⟩
    have s2 : Step K S1 H1 ((p, .lst xs) :: S1) (upd H1 p (.lst vs)) := .cell s1.st hp ⟨vs, upd_same, r1.lift (Lift.newCell hp)⟩
    exact q _ _ _ _ (p1 p (s1.st.nodom hp)) (s1.trans s2) (.ref p)
theorem g_cb {r : List V → Hp → VK → Prop} {t : TA} (h : EvA K t G S fun xs S1 => CbG K r xs S1 P) : EvG K (tCB r t) G S P := fun σ H e Q q =>
  h σ H e _ fun xs S1 vs H1 p1 s1 r1 => p1 H1 vs s1.st r1 Q fun d S2 v H2 p2 s2 r2 => q d S2 v H2 p2 (s1.trans s2) r2
theorem g_bm {T : String} {r : V → List V → Hp → VK → Prop} {to : TE} {t : TA} (h : EvG K to G S fun x S1 => TyG K T x S1 ∧ EvA K t G S1 fun xs S2 => MtG K T r x xs S2 P) : EvG K (tBM K T r to t) G S P := fun σ H e Q q =>
  h σ H e _ fun x S1 vx H1 ⟨ty, p1⟩ s1 r1 => ⟨ty H1 vx s1.st r1, p1 σ H1 (e.step s1) _ fun xs S2 vs H2 p2 s2 r2 => p2 H2 vx vs s2.st (r1.lift s2.lft) r2 Q fun d S3 v H3 p3 s3 r3 => q d S3 v H3 p3 ((s1.trans s2).trans s3) r3⟩
theorem g_bm0 {T : String} {r : V → List V → Hp → VK → Prop} {to : TE} (h : EvG K to G S fun x S1 => TyG K T x S1 ∧ MtG K T r x [] S1 P) : EvG K (tBM0 K T r to) G S P := fun σ H e Q q =>
  h σ H e _ fun x S1 vx H1 ⟨ty, p1⟩ s1 r1 => ⟨ty H1 vx s1.st r1, p1 H1 vx [] s1.st r1 .nil Q fun d S3 v H3 p3 s3 r3 => q d S3 v H3 p3 (s1.trans s3) r3⟩
/-! ### promises at the level of data -/
abbrev SpG := List D → Store → PD → Prop
def spOf (K : PySem.W.Frag) (g : SpG) : Sp := fun vs H Q _ => ∃ ds S, StOk K S H ∧ RpAll K (dom S) H vs ds ∧ g ds S fun d S' => ∀ v H', Step K S H S' H' → Rp K (dom S') H' v d → Q v H'
theorem g_call {g : SpG} {E : XK} {t : TA} (h : EvA K t G S fun xs S1 => g xs S1 P) (gm : ∀ xs S1 P P', g xs S1 P → (∀ d S', P d S' → P' d S') → g xs S1 P') : EvG K (tCall (spOf K g) [] E t) G S P := fun σ H e Q q =>
  h σ H e _ fun xs S1 vs H1 p1 s1 r1 => by
    show spOf K g (vs ++ []) H1 Q E
    rw [List.append_nil]
    exact ⟨xs, S1, s1.st, r1, gm _ _ _ _ p1 fun d S2 p2 v H2 s2 r2 => q d S2 v H2 p2 (s1.trans s2) r2⟩
/-! ### tests -/
theorem t_test (h : EvG K te G S fun x S1 => ∃ c, x = .bl c ∧ PB c S1) : EvT K (tTest te) G S PB := fun σ H e Q q =>
  h σ H e _ fun x S1 vx H1 ⟨c, ex, k⟩ s1 r1 => by
    subst ex
    exact ⟨c, r1.blV, q c S1 H1 k s1⟩
theorem t_b (h : EvG K te G S fun x S1 => ∃ c, x = .bl c ∧ PB c S1) : EvT K (tB te) G S PB := fun σ H e Q q =>
  h σ H e _ fun x S1 vx H1 ⟨c, ex, k⟩ s1 r1 => by
    subst ex
    exact ⟨c, r1.blV, q c S1 H1 k s1⟩
theorem t_and (h : EvT K t G S fun c S1 => (c = true → EvT K u G S1 PB) ∧ (c = false → PB false S1)) : EvT K (tAnd t u) G S PB := fun σ H e Q q =>
  h σ H e _ fun c S1 H1 ⟨k1, k2⟩ s1 => by
    cases c with
    | true =>
      rw [if_pos rfl]
      exact k1 rfl σ H1 (e.step s1) Q fun b S2 H2 p2 s2 => q b S2 H2 p2 (s1.trans s2)
    | false =>
      rw [if_neg Bool.false_ne_true]
      exact q _ S1 H1 (k2 rfl) s1
theorem t_or (h : EvT K t G S fun c S1 => (c = true → PB true S1) ∧ (c = false → EvT K u G S1 PB)) : EvT K (tOr t u) G S PB := fun σ H e Q q =>
  h σ H e _ fun c S1 H1 ⟨k1, k2⟩ s1 => by
    cases c with
    | true =>
      rw [if_pos rfl]
      exact q _ S1 H1 (k1 rfl) s1
    | false =>
      rw [if_neg Bool.false_ne_true]
      exact k2 rfl σ H1 (e.step s1) Q fun b S2 H2 p2 s2 => q b S2 H2 p2 (s1.trans s2)
theorem t_not (h : EvT K t G S fun c S1 => PB (!c) S1) : EvT K (tNot t) G S PB := fun σ H e Q q => h σ H e _ fun c S1 H1 k s1 => q _ S1 H1 k s1
theorem t_yes {PB : Bool → Store → Prop} (k : PB true S) : EvT K tYes G S PB := fun σ H e Q q => q true S H k (.refl e.st)
/-! ### targets -/
theorem tg_name {i : Nat} {d : D} {PG : Env' → Store → Prop} (k : PG (G.set i (some d)) S) : TgG K (gName i) d G S PG := fun σ H v e r Q q => q _ S _ H k (.refl e.st) (e.set r i)
theorem tg_nil {PG : Env' → Store → Prop} (k : PG G S) : TgsG K gNil [] G S PG := fun σ H vs e r Q q => by
  cases r
  exact ⟨rfl, q _ S _ H k (.refl e.st) e⟩
theorem tg_cons {t : TG} {u : TGs} {d : D} {ds : List D} {PG : Env' → Store → Prop} (h : TgG K t d G S fun G1 S1 => TgsG K u ds G1 S1 PG) : TgsG K (gCons t u) (d :: ds) G S PG := fun σ H vs e r Q q => by
  cases r with
  | cons r1 r2 =>
    refine ⟨_, _, rfl, h σ H _ e r1 _ fun G1 S1 σ1 H1 p1 s1 e1 => p1 σ1 H1 _ e1 (r2.lift s1.lft) Q fun G2 S2 σ2 H2 p2 s2 e2 => q G2 S2 σ2 H2 p2 (s1.trans s2) e2⟩
theorem tg_tup {n : Nat} {t : TGs} {ds : List D} {PG : Env' → Store → Prop} (hl : ds.length = n) (h : TgsG K t ds G S PG) : TgG K (gTup K n t) (.tup ds) G S PG := fun σ H v e r Q q => by
  obtain ⟨a, xs, ev, hs, ra⟩ := r.tupV
  exact ⟨a, xs, ev, hs, ra.length.trans hl, h σ H xs e ra Q q⟩
/-! ### statements -/
theorem x_seq {t u : TS} (h : ExG K t G S (N.nxt fun G' S' => ExG K u G' S' N)) : ExG K (tSeq t u) G S N := fun σ H E e f =>
  h σ H { E with nx := u E } e ⟨fun G' S' σ' H' n s e' => n σ' H' E e' (f.step s), f.rt, f.bk, f.ct⟩
theorem x_next (h : N.nx G S) : ExG K tNext G S N := fun σ H E e f => f.nx G S σ H h (.refl e.st) e
theorem x_break (h : N.bk G S) : ExG K tBreak G S N := fun σ H E e f => f.bk G S σ H h (.refl e.st) e
theorem x_cont (h : N.ct G S) : ExG K tCont G S N := fun σ H E e f => f.ct G S σ H h (.refl e.st) e
theorem x_drop (h : EvG K te G S fun _ S' => N.nx G S') : ExG K (tDrop te) G S N := fun σ H E e f => h σ H e _ fun d S' v H' p s r => f.nx G S' σ H' p s (e.step s)
theorem x_ret (h : EvG K te G S N.rt) : ExG K (tRet te) G S N := fun σ H E e f => h σ H e _ fun d S' v H' p s r => f.rt d S' v H' p s r
theorem x_retN (h : N.rt .non S) : ExG K tRetN G S N := fun σ H E e f => f.rt .non S .non H h (.refl e.st) .non
theorem x_if {a b : TS} (h : EvT K t G S fun c S1 => (c = true → ExG K a G S1 N) ∧ (c = false → ExG K b G S1 N)) : ExG K (tIfS t a b) G S N := fun σ H E e f =>
  h σ H e _ fun c S1 H1 ⟨k1, k2⟩ s1 => by
    cases c with
    | true =>
      rw [if_pos rfl]
      exact k1 rfl σ H1 E (e.step s1) (f.step s1)
    | false =>
      rw [if_neg Bool.false_ne_true]
      exact k2 rfl σ H1 E (e.step s1) (f.step s1)
theorem x_asg {g : TG} (h : EvG K te G S fun d S1 => TgG K g d G S1 N.nx) : ExG K (tAsg te g) G S N := fun σ H E e f =>
  h σ H e _ fun d S1 v H1 p s r => p σ H1 v (e.step s) r E.nx fun G' S' σ' H' n s' e' => f.nx G' S' σ' H' n (s.trans s') e'
theorem x_set {i : Nat} (h : EvG K te G S fun d S1 => N.nx (G.set i (some d)) S1) : ExG K (tAsg te (gName i)) G S N := fun σ H E e f =>
  h σ H e _ fun d S1 v H1 p s r => f.nx _ S1 _ H1 p s ((e.step s).set r i)
theorem x_never (h : False) : ExG K tNever G S N := h.elim
theorem x_par {i j : Nat} {t : TA} (h : EvA K t G S fun ds S1 => ∃ x y, ds = [x, y] ∧ N.nx ((G.set i (some x)).set j (some y)) S1) : ExG K (tPar i j t) G S N := fun σ H E e f =>
  h σ H e _ fun ds S1 vs H1 ⟨x, y, ed, p⟩ s r => by
    subst ed
    cases r with
    | cons r1 r2 =>
      cases r2 with
      | cons r2 r3 =>
        cases r3
        exact ⟨_, _, rfl, f.nx _ S1 _ H1 p s (((e.step s).set r1 i).set r2 j)⟩
theorem x_aug {i : Nat} {fn : Int → Int → Int} {a : Int} (hx : G[i]? = some (some (.int a))) (h : EvG K te G S fun y S1 => ∃ b, y = .int b ∧ N.nx (G.set i (some (.int (fn a b)))) S1) : ExG K (tAug i te (ipI fn)) G S N := fun σ H E e f => by
  obtain ⟨v, h1, h2⟩ := e.env.get hx
  refine ⟨v, h1, h σ H e _ fun y S1 vy H1 ⟨b, ey, p⟩ s r => ?_⟩
  subst ey
  exact ⟨a, b, h2.intV, r.intV, f.nx _ S1 _ H1 p s ((e.step s).set (.int _) i)⟩
/-- the list in slot i is not changed any more -/
def dropC (S : Store) (l : Addr) : Store := S.filter fun p => decide (p.1 ≠ l)
theorem dropC_dom {l : Addr} : ¬ dom (dropC S l) l := fun h => by
  obtain ⟨p, hp, e⟩ := List.mem_map.mp h
  have := (List.mem_filter.mp hp).2
  exact (of_decide_eq_true this) e
theorem dropC_sub {l : Addr} {a : Addr} (h : dom (dropC S l) a) : dom S a := by
  obtain ⟨p, hp, e⟩ := List.mem_map.mp h
  exact List.mem_map.mpr ⟨p, (List.mem_filter.mp hp).1, e⟩
theorem StOk.drop (h : StOk K S H) (l : Addr) : StOk K (dropC S l) H := h.sub (fun p hp => (List.mem_filter.mp hp).1) (List.Nodup.sublist (List.Sublist.map _ List.filter_sublist) h.nd)
theorem Step.drop (h : StOk K S H) (l : Addr) : Step K S H (dropC S l) H := ⟨fun _ _ _ e => e, h.drop l, fun a d => .inl (dropC_sub d)⟩
theorem x_freeze {ts : TS} {i : Nat} {l : Addr} {ds : List D} (hi : G[i]? = some (some (.ref l))) (hl : S.lookup l = some (.lst ds)) (h : ExG K ts (G.set i (some (.lst ds))) (dropC S l) N) : ExG K ts G S N := fun σ H E e f => by
  have s : Step K S H (dropC S l) H := .drop e.st l
  obtain ⟨v, h1, h2⟩ := e.env.get hi
  have hv := h2.refV
  subst hv
  obtain ⟨xs, hx, hr⟩ := e.st.ok l _ (lookup_mem hl)
  have r : Rp K (dom (dropC S l)) H (.ref l) (.lst ds) := .lst hx dropC_dom (hr.lift s.lft)
  have hse : σ.set i (some (.ref l)) = σ := by
    have hi2 := (List.getElem?_eq_some_iff.mp h1)
    obtain ⟨hlt, he⟩ := hi2
    apply List.ext_getElem?
    intro j
    by_cases hj : i = j
    · subst hj
      rw [List.getElem?_set_self hlt, h1]
    · rw [List.getElem?_set_ne hj]
  have e2 := (e.step s).set r i
  rw [hse] at e2
  exact h σ H E e2 (f.step s)
/-- a cell is forgotten -/
theorem x_forget {ts : TS} (l : Addr) (h : ExG K ts G (dropC S l) N) : ExG K ts G S N := fun σ H E e f => h σ H E (e.step (.drop e.st l)) (f.step (.drop e.st l))
theorem x_while {tc : TT} {tb : TS} (W : Nat → Env' → Store → Prop) (m0 : Nat) (h0 : W m0 G S)
    (hs : ∀ m G' S', W m G' S' → EvT K tc G' S' fun b S1 => (b = true → ExG K tb G' S1 (N.loop fun G2 S2 => ∃ m', m' < m ∧ W m' G2 S2)) ∧ (b = false → N.nx G' S1)) : ExG K (tWhile tc tb) G S N := fun σ H E e f => by
  refine ⟨fun m σ' H' => ∃ G' S', W m G' S' ∧ Step K S H S' H' ∧ EnvOk K S' H' σ' G', ⟨m0, G, S, h0, .refl e.st, e⟩, ?_⟩
  rintro m σ' H' ⟨G', S', w, s, e'⟩
  refine hs m G' S' w σ' H' e' _ fun b S1 H1 ⟨k1, k2⟩ s1 => ?_
  cases b with
  | true =>
    rw [if_pos rfl]
    refine ⟨fun σ2 H2 => ∃ G2 S2, (∃ m', m' < m ∧ W m' G2 S2) ∧ Step K S H S2 H2 ∧ EnvOk K S2 H2 σ2 G2, ?_, ?_⟩
    · rintro σ2 H2 ⟨G2, S2, ⟨m', hm, w2⟩, s2, e2⟩
      exact ⟨m', hm, G2, S2, w2, s2, e2⟩
    · refine k1 rfl σ' H1 _ (e'.step s1) ⟨fun G2 S2 σ2 H2 n s2 e2 => ⟨G2, S2, n, (s.trans s1).trans s2, e2⟩, ?_, ?_, fun G2 S2 σ2 H2 n s2 e2 => ⟨G2, S2, n, (s.trans s1).trans s2, e2⟩⟩
      · exact fun d S2 v H2 n s2 r2 => f.rt d S2 v H2 n ((s.trans s1).trans s2) r2
      · exact fun G2 S2 σ2 H2 n s2 e2 => f.nx G2 S2 σ2 H2 n ((s.trans s1).trans s2) e2
  | false =>
    rw [if_neg Bool.false_ne_true]
    exact f.nx _ S1 _ H1 (k2 rfl) (s.trans s1) (e'.step s1)
end
/-! ### walks -/
def ItR (K : PySem.W.Frag) (J : It) (its : List D) (Z : Addr → Prop) (H : Hp) : Prop :=
  ∀ H1 (Z1 : Addr → Prop), Lift Z H Z1 H1 → (∀ a, Z1 a → H1 a ≠ none) →
    (∀ i d, its[i]? = some d → J.go i H1 ∧ ∀ x H2, J.yld i H1 x H2 → (∀ a o, H1 a = some o → H2 a = some o) ∧ Rp K Z1 H2 x d) ∧ J.stop its.length H1
def IG (K : PySem.W.Frag) (wi : TI) (G : Env') (S : Store) (R : List D → Store → Prop) : Prop := ∀ σ H, EnvOk K S H σ G → ∀ R' : It → Hp → Prop, (∀ its S' J H', R its S' → Step K S H S' H' → ItR K J its (dom S') H' → R' J H') → wi σ H R'
section
variable {K : PySem.W.Frag} {S S' S1 S2 : Store} {H H' H1 H2 : Hp} {σ σ' : L2.St} {G G' : Env'} {ta tb te : TE} {P : PD} {t u : TT} {N : EndsD} {E : Ends} {R : List D → Store → Prop}
theorem StOk.ext (h : StOk K S H) (k : ∀ a o, H a = some o → H' a = some o) : StOk K S H' :=
  ⟨h.nd, fun a c m => by
    have q := h.ok a c m
    refine q.lift ⟨fun b u _ e => k b u e, fun _ d => .inl d⟩ ?_
    cases e : H a with
    | none => exact absurd e (h.there (List.mem_map.mpr ⟨_, m, rfl⟩))
    | some o => exact k a o e⟩
theorem Step.ext (h : StOk K S H) (k : ∀ a o, H a = some o → H' a = some o) : Step K S H S H' := ⟨fun a o _ e => k a o e, h.ext k, fun _ d => .inl d⟩
theorem x_for {wi : TI} {g : TG} {tb : TS} (h : IG K wi G S fun its S1 => ∃ W : Nat → Env' → Store → Prop, W 0 G S1 ∧
      (∀ i d G' S', its[i]? = some d → W i G' S' → TgG K g d G' S' fun G2 S2 => ExG K tb G2 S2 (N.loop (W (i + 1)))) ∧ ∀ G' S', W its.length G' S' → N.nx G' S') : ExG K (tFor wi g tb) G S N := fun σ H E e f => by
  refine h σ H e _ fun its S1 J H1 ⟨W, w0, hs, hd⟩ s1 ir => ?_
  refine ⟨fun i m σ' H' => m = its.length - i ∧ i ≤ its.length ∧ ∃ G' S', W i G' S' ∧ Step K S1 H1 S' H' ∧ EnvOk K S' H' σ' G', ⟨its.length, by simp, Nat.zero_le _, G, S1, w0, .refl s1.st, e.step s1⟩, ?_⟩
  rintro i m σ' H' ⟨rfl, hi, G', S', w, s2, e2⟩
  obtain ⟨hgo, hstop⟩ := ir H' (dom S') s2.lft (fun a d => s2.st.there d)
  by_cases hlt : i < its.length
  · obtain ⟨g1, g2⟩ := hgo i its[i] (List.getElem?_eq_getElem hlt)
    refine .inr ⟨g1, fun σ3 H3 => ∃ G3 S3, W (i + 1) G3 S3 ∧ Step K S1 H1 S3 H3 ∧ EnvOk K S3 H3 σ3 G3, ?_, ?_⟩
    · rintro σ3 H3 ⟨G3, S3, w3, s3, e3⟩
      exact ⟨its.length - (i + 1), by omega, rfl, hlt, G3, S3, w3, s3, e3⟩
    · intro x H3 hy
      obtain ⟨k3, r3⟩ := g2 x H3 hy
      have s3 : Step K S' H' S' H3 := .ext s2.st k3
      refine hs i _ G' S' (List.getElem?_eq_getElem hlt) w σ' H3 x (e2.step s3) r3 _ fun G4 S4 σ4 H4 p4 s4 e4 => ?_
      have st := (s2.trans s3).trans s4
      refine p4 σ4 H4 _ e4 ⟨fun G5 S5 σ5 H5 n s5 e5 => ⟨G5, S5, n, st.trans s5, e5⟩, fun d S5 v H5 n s5 r5 => f.rt d S5 v H5 n ((s1.trans st).trans s5) r5, fun G5 S5 σ5 H5 n s5 e5 => f.nx G5 S5 σ5 H5 n ((s1.trans st).trans s5) e5, fun G5 S5 σ5 H5 n s5 e5 => ⟨G5, S5, n, st.trans s5, e5⟩⟩
  · have ei : i = its.length := by omega
    subst ei
    exact .inl ⟨hstop, f.nx _ _ _ _ (hd G' S' w) (s1.trans s2) e2⟩
/-- the target stores in the slots vs alone -/
def WipeOk (g : TG) (vs : List Nat) : Prop := ∀ v σ H (Q Q' : L2.St → Hp → Prop), (∀ σ2 H2, L2.wipe σ2 vs = L2.wipe σ vs → Q σ2 H2 → Q' σ2 H2) → g v σ H Q → g v σ H Q'
def WipesOk (g : TGs) (vs : List Nat) : Prop := ∀ v σ H (Q Q' : L2.St → Hp → Prop), (∀ σ2 H2, L2.wipe σ2 vs = L2.wipe σ vs → Q σ2 H2 → Q' σ2 H2) → g v σ H Q → g v σ H Q'
theorem wo_name {i : Nat} {vs : List Nat} (h : i ∈ vs) : WipeOk (gName i) vs := fun v σ H Q Q' k q => k _ _ (wipe_set h) q
theorem wo_nil {vs : List Nat} : WipesOk gNil vs := fun v σ H Q Q' k q => ⟨q.1, k _ _ rfl q.2⟩
theorem wo_cons {g : TG} {u : TGs} {vs : List Nat} (h1 : WipeOk g vs) (h2 : WipesOk u vs) : WipesOk (gCons g u) vs := fun v σ H Q Q' k ⟨x, r, e, q⟩ =>
  ⟨x, r, e, h1 x σ H _ _ (fun σ2 H2 e2 q2 => h2 r σ2 H2 Q Q' (fun σ3 H3 e3 q3 => k σ3 H3 (e3.trans e2) q3) q2) q⟩
theorem wo_tup {n : Nat} {t : TGs} {vs : List Nat} (h : WipesOk t vs) : WipeOk (gTup K n t) vs := fun v σ H Q Q' k ⟨a, xs, e, hs, hl, q⟩ => ⟨a, xs, e, hs, hl, h xs σ H Q Q' k q⟩
theorem lc_core' {wi : TI} {g : TG} {tt : TT} {te : TE} {vs : List Nat} (wo : WipeOk g vs)
    (h : IG K wi G S fun its S1 => its.length ≤ 100000 ∧ ∃ W : Nat → List D → Store → Prop, W 0 [] S1 ∧
      (∀ i d ds S' l, its[i]? = some d → W i ds S' → ¬ dom S' l → TgG K g d (wipeG G vs) ((l, .lst ds) :: S') fun G2 S2 => EvT K tt G2 S2 fun b S3 =>
        (b = true → EvG K te G2 S3 fun y S4 => ∃ S5, S4 = (l, .lst ds) :: S5 ∧ W (i + 1) (ds ++ [y]) S5) ∧ (b = false → ∃ S5, S3 = (l, .lst ds) :: S5 ∧ W (i + 1) ds S5)) ∧
      ∀ ds S' l, W its.length ds S' → ¬ dom S' l → P (.lst ds) S' ∨ P (.ref l) ((l, .lst ds) :: S')) : EvG K (tLc wi g tt te vs) G S P := fun σ H e Q q => by
  refine h σ H e _ fun its S1 J H1 ⟨hlen, W, w0, hs, hd⟩ s1 ir => fun l hD => ?_
  refine ⟨fun i m H' => m = its.length - i ∧ i ≤ its.length ∧ ∃ ds S', W i ds S' ∧ ds.length ≤ i ∧ Step K S1 H1 ((l, .lst ds) :: S') H', ⟨its.length, by simp, Nat.zero_le _, [], S1, w0, Nat.le_refl _, .cell s1.st hD ⟨[], upd_same, .nil⟩⟩, ?_⟩
  rintro i m H' ⟨rfl, hi, ds, S', w, hdl, s2⟩
  have nD : ¬ dom S' l := (List.nodup_cons.mp s2.st.nd).1
  obtain ⟨hgo, hstop⟩ := ir H' (dom ((l, .lst ds) :: S')) s2.lft (fun a d => s2.st.there d)
  by_cases hlt : i < its.length
  · obtain ⟨g1, g2⟩ := hgo i its[i] (List.getElem?_eq_getElem hlt)
    refine .inr ⟨g1, fun H3 => ∃ ds3 S3, W (i + 1) ds3 S3 ∧ ds3.length ≤ i + 1 ∧ Step K S1 H1 ((l, .lst ds3) :: S3) H3, ?_, ?_⟩
    · rintro H3 ⟨ds3, S3, w3, l3, s3⟩
      exact ⟨its.length - (i + 1), by omega, rfl, hlt, ds3, S3, w3, l3, s3⟩
    · intro x H3 hy
      obtain ⟨k3, r3⟩ := g2 x H3 hy
      have s3 : Step K ((l, .lst ds) :: S') H' ((l, .lst ds) :: S') H3 := .ext s2.st k3
      have st3 := s2.trans s3
      have e3 : EnvOk K ((l, .lst ds) :: S') H3 (L2.wipe σ vs) (wipeG G vs) := ⟨s3.st, ((e.step s1).step st3).env.wipe vs⟩
      have tg := hs i _ ds S' l (List.getElem?_eq_getElem hlt) w nD (L2.wipe σ vs) H3 x e3 r3
      refine wo x (L2.wipe σ vs) H3 _ _ (fun σ2 H2 ew ⟨G2, S2, e2, st2, p2⟩ => ?_) (tg (fun σ2 H2 => ∃ G2 S2, EnvOk K S2 H2 σ2 G2 ∧ Step K ((l, .lst ds) :: S') H3 S2 H2 ∧ EvT K tt G2 S2 fun b S3 =>
        (b = true → EvG K te G2 S3 fun y S4 => ∃ S5, S4 = (l, .lst ds) :: S5 ∧ W (i + 1) (ds ++ [y]) S5) ∧ (b = false → ∃ S5, S3 = (l, .lst ds) :: S5 ∧ W (i + 1) ds S5)) fun G2 S2 σ2 H2 p s e => ⟨G2, S2, e, s, p⟩)
      rw [wipe_wipe] at ew
      refine ⟨ew, p2 σ2 H2 e2 _ fun b S4 H4 ⟨k1, k2⟩ s4 => ?_⟩
      have st4 := (st3.trans st2).trans s4
      cases b with
      | true =>
        rw [if_pos rfl]
        refine k1 rfl σ2 H4 (e2.step s4) _ fun y S5 vy H5 ⟨S6, es, w6⟩ s5 r5 => ?_
        subst es
        have st5 := st4.trans s5
        obtain ⟨acc, ha, ra⟩ := st5.st.ok l (.lst ds) List.mem_cons_self
        have nD6 : ¬ dom S6 l := (List.nodup_cons.mp st5.st.nd).1
        have lk : List.lookup l ((l, Cell.lst ds) :: S6) = some (.lst ds) := by rw [List.lookup_cons]; simp
        have hal : acc.length ≤ i := by rw [ra.length]; exact hdl
        refine ⟨acc, ha, Nat.lt_of_le_of_lt (Nat.le_trans hal (Nat.le_trans hi hlen)) (by decide), ds ++ [y], S6, w6, by simp; exact hdl, ?_⟩
        have sp : Step K ((l, .lst ds) :: S6) H5 (setC ((l, .lst ds) :: S6) l (.lst (ds ++ [y]))) (upd H5 l (.lst (acc ++ [vy]))) :=
          .put st5.st lk ⟨acc ++ [vy], upd_same, (ra.append (.one r5)).lift (Lift.put lk)⟩
        have es : setC ((l, Cell.lst ds) :: S6) l (.lst (ds ++ [y])) = (l, .lst (ds ++ [y])) :: S6 := by
          unfold setC
          rw [List.map_cons, if_pos rfl]
          congr 1
          have : ∀ p ∈ S6, (if p.1 = l then (l, Cell.lst (ds ++ [y])) else p) = p := fun p hp => if_neg fun z => nD6 (List.mem_map.mpr ⟨p, hp, z⟩)
          rw [List.map_congr_left this, List.map_id']
        rw [es] at sp
        exact st5.trans sp
      | false =>
        rw [if_neg Bool.false_ne_true]
        obtain ⟨S6, es, w6⟩ := k2 rfl
        subst es
        exact ⟨ds, S6, w6, Nat.le_succ_of_le hdl, st4⟩
  · have ei : i = its.length := by omega
    subst ei
    refine .inl ⟨hstop, ?_⟩
    rcases hd ds S' l w nD with p | p
    · obtain ⟨xs, hx, rx⟩ := s2.st.ok l (.lst ds) List.mem_cons_self
      have sd : Step K ((l, Cell.lst ds) :: S') H' S' H' := ⟨fun _ _ _ e => e, s2.st.sub (fun p hp => List.mem_cons_of_mem _ hp) (List.nodup_cons.mp s2.st.nd).2, fun a d => .inl (List.mem_cons_of_mem _ d)⟩
      exact q _ _ _ _ p ((s1.trans s2).trans sd) (.lst hx nD (rx.lift sd.lft))
    · exact q _ _ _ _ p (s1.trans s2) (.ref l)
/-- a comprehension whose list is not changed any more -/
theorem g_lc {wi : TI} {g : TG} {tt : TT} {te : TE} {vs : List Nat} (wo : WipeOk g vs)
    (h : IG K wi G S fun its S1 => its.length ≤ 100000 ∧ ∃ W : Nat → List D → Store → Prop, W 0 [] S1 ∧
      (∀ i d ds S' l, its[i]? = some d → W i ds S' → ¬ dom S' l → TgG K g d (wipeG G vs) ((l, .lst ds) :: S') fun G2 S2 => EvT K tt G2 S2 fun b S3 =>
        (b = true → EvG K te G2 S3 fun y S4 => ∃ S5, S4 = (l, .lst ds) :: S5 ∧ W (i + 1) (ds ++ [y]) S5) ∧ (b = false → ∃ S5, S3 = (l, .lst ds) :: S5 ∧ W (i + 1) ds S5)) ∧
      ∀ ds S', W its.length ds S' → P (.lst ds) S') : EvG K (tLc wi g tt te vs) G S P :=
  lc_core' wo fun σ H e R' q => h σ H e R' fun its S' J H' ⟨hl, W, w0, hs, hd⟩ s i => q its S' J H' ⟨hl, W, w0, hs, fun ds S' l w _ => .inl (hd ds S' w)⟩ s i
/-- one whose list is a cell -/
theorem g_lcC {wi : TI} {g : TG} {tt : TT} {te : TE} {vs : List Nat} (wo : WipeOk g vs)
    (h : IG K wi G S fun its S1 => its.length ≤ 100000 ∧ ∃ W : Nat → List D → Store → Prop, W 0 [] S1 ∧
      (∀ i d ds S' l, its[i]? = some d → W i ds S' → ¬ dom S' l → TgG K g d (wipeG G vs) ((l, .lst ds) :: S') fun G2 S2 => EvT K tt G2 S2 fun b S3 =>
        (b = true → EvG K te G2 S3 fun y S4 => ∃ S5, S4 = (l, .lst ds) :: S5 ∧ W (i + 1) (ds ++ [y]) S5) ∧ (b = false → ∃ S5, S3 = (l, .lst ds) :: S5 ∧ W (i + 1) ds S5)) ∧
      ∀ ds S' l, W its.length ds S' → ¬ dom S' l → P (.ref l) ((l, .lst ds) :: S')) : EvG K (tLc wi g tt te vs) G S P :=
  lc_core' wo fun σ H e R' q => h σ H e R' fun its S' J H' ⟨hl, W, w0, hs, hd⟩ s i => q its S' J H' ⟨hl, W, w0, hs, fun ds S' l w n => .inr (hd ds S' l w n)⟩ s i
/-- a comprehension without tests whose element is worth f of the item, the cells as they were -/
theorem g_map {wi : TI} {g : TG} {te : TE} {vs : List Nat} {f : Nat → D → D} (wo : WipeOk g vs)
    (h : IG K wi G S fun its S1 => its.length ≤ 100000 ∧
      (∀ i d ds l, its[i]? = some d → ¬ dom S1 l → TgG K g d (wipeG G vs) ((l, .lst ds) :: S1) fun G2 S2 => EvG K te G2 S2 fun y S4 => y = f i d ∧ S4 = (l, .lst ds) :: S1) ∧
      P (.lst (its.mapIdx f)) S1) : EvG K (tLc wi g tYes te vs) G S P :=
  g_lc wo fun σ H e R' q => h σ H e R' fun its S1 J H' ⟨hl, hs, hd⟩ s ir => q its S1 J H' ⟨hl, fun i ds S' => ds = (its.take i).mapIdx f ∧ S' = S1, ⟨by simp, rfl⟩,
    (fun i d ds S' l hi ⟨e1, e2⟩ nd => by
      subst e2
      intro σ1 H1 v1 e1' r1 Q1 q1
      refine hs i d ds l hi nd σ1 H1 v1 e1' r1 Q1 fun G2 S2 σ2 H2 p2 s2 e2 => q1 G2 S2 σ2 H2 (t_yes ⟨fun _ => p2.mono fun y S4 ⟨ey, e4⟩ => ⟨_, e4, ?_, rfl⟩, fun z => by cases z⟩) s2 e2
      rw [List.take_add_one, hi, ey, e1]
      simp [List.mapIdx_append]
      have hlt := (List.getElem?_eq_some_iff.mp hi).1
      rw [Nat.min_eq_left (Nat.le_of_lt hlt)]),
    fun ds S' ⟨e1, e2⟩ => by
      subst e2
      rw [List.take_length] at e1
      rw [e1]
      exact hd⟩ s ir
end
end RS

set_option Elab.async false
set_option linter.all false
set_option maxRecDepth 100000
set_option maxHeartbeats 4000000
/-! Operators, calls and walks of the data layer. -/
namespace RS
open PySem PySem.Spec PyProof.Rows L2
/-! ### unions of the hand layer's rules -/
def rOr (a b : R2) : R2 := fun x y H Q => a x y H Q ∨ b x y H Q
def cOr (a b : List V → Hp → VK → Prop) : List V → Hp → VK → Prop := fun xs H Q => a xs H Q ∨ b xs H Q
section
variable {X : Cx}
theorem op_or' {f : Value → Value → Sem Value} {a b : R2} (h1 : OpR X f a) (h2 : OpR X f b) : OpR X f (rOr a b) := fun pins s σ H x y u v Q I rx ry h => h.elim (h1 pins s σ H x y u v Q I rx ry) (h2 pins s σ H x y u v Q I rx ry)
theorem call_or {f : Value} {a b : List V → Hp → VK → Prop} (h1 : CallR X f a) (h2 : CallR X f b) : CallR X f (cOr a b) := fun pins s σ H xs us Q I r h => h.elim (h1 pins s σ H xs us Q I r) (h2 pins s σ H xs us Q I r)
theorem ix_or {a b : R2} (h1 : IxR X a) (h2 : IxR X b) : IxR X (rOr a b) := fun value slice pins s σ H x y u v Q I rx ry h hs => h.elim (fun h => h1 value slice pins s σ H x y u v Q I rx ry h hs) (fun h => h2 value slice pins s σ H x y u v Q I rx ry h hs)
end
abbrev rI_add : R2 := rI0 fun i j => .int (i + j)
abbrev rS_add : R2 := fun x y H Q => ∃ i j, x = .str i ∧ y = .str j ∧ i.length + j.length ≤ sizeLine ∧ Q (.str (i ++ j)) H
def rAddU (K : PySem.W.Frag) : R2 := rOr rI_add (rOr rS_add (rOr rCat (rCatT K)))
def rMulU : R2 := rOr (rI CMul fun i j => .int (i * j)) (rOr (rI CMulW fun i j => .int (i * j)) rRep)
def rDivU : R2 := rOr (rI CDiv fun i j => .int (i / j)) (rI CDivW fun i j => .int (i / j))
def rModU : R2 := rI (fun _ j => 0 < j) fun i j => .int (i % j)
def rEqU (K : PySem.W.Frag) : R2 := rOr rEq (rEqD K)
def rNeU (K : PySem.W.Frag) : R2 := rOr rNe (rNeD K)
def rIxU (K : PySem.W.Frag) : R2 := rOr (rIxL K) (rOr (rIxT K) rIxS)
def rLtU : R2 := rI0 fun i j => .bl (decide (i < j))
def rLeU : R2 := rI0 fun i j => .bl (decide (i ≤ j))
def rGtU : R2 := rI0 fun i j => .bl (decide (j < i))
def rGeU : R2 := rI0 fun i j => .bl (decide (j ≤ i))
def rSubU : R2 := rI0 fun i j => .int (i - j)
def rPowU : R2 := rI CPow fun i j => .int (i ^ j.toNat)
section
variable {X : Cx}
theorem op_addU : OpR X (binaryOp .Add) (rAddU X.K) := op_or' op_add (op_or' op_add_str (op_or' op_cat op_catT))
theorem op_mulU : OpR X (binaryOp .Mult) rMulU := op_or' op_mul (op_or' op_mulW op_rep)
theorem op_divU : OpR X (binaryOp .FloorDiv) rDivU := op_or' op_fdiv op_fdivW
theorem op_modU : OpR X (binaryOp .Mod) rModU := op_mod
theorem op_subU : OpR X (binaryOp .Sub) rSubU := op_sub
theorem op_powU : OpR X (binaryOp .Pow) rPowU := op_pow
theorem op_eqU (hu : X.A.units + 64 < cLine) : OpR X (compareOp .Eq) (rEqU X.K) := op_or' op_eq (op_eqD hu)
theorem op_neU (hu : X.A.units + 64 < cLine) : OpR X (compareOp .NotEq) (rNeU X.K) := op_or' op_ne (op_neD hu)
theorem op_ltU : OpR X (compareOp .Lt) rLtU := op_lt
theorem op_leU : OpR X (compareOp .LtE) rLeU := op_le
theorem op_gtU : OpR X (compareOp .Gt) rGtU := op_gt
theorem op_geU : OpR X (compareOp .GtE) rGeU := op_ge
theorem ix_U : IxR X (rIxU X.K) := ix_or ix_list (ix_or ix_tup ix_str)
end
def cLen (K : PySem.W.Frag) : List V → Hp → VK → Prop := fun xs H Q => ∃ x n, xs = [x] ∧ LenV K x H n ∧ Q (.int n) H
def cAbs : List V → Hp → VK → Prop := fun xs H Q => ∃ i, xs = [.int i] ∧ Q (.int (if i < 0 then -i else i)) H
def cMax2 : List V → Hp → VK → Prop := fun xs H Q => ∃ i j, xs = [.int i, .int j] ∧ Q (.int (if j > i then j else i)) H
def cMin2 : List V → Hp → VK → Prop := fun xs H Q => ∃ i j, xs = [.int i, .int j] ∧ Q (.int (if j < i then j else i)) H
def cMax (K : PySem.W.Frag) := cOr cMax2 (rMax K)
def cMin (K : PySem.W.Frag) := cOr cMin2 (rMin K)
def cInt : List V → Hp → VK → Prop := fun xs H Q => (∃ i, xs = [.int i] ∧ Q (.int i) H) ∨ ∃ k, xs = [.bl k] ∧ Q (.int (if k then 1 else 0)) H
def cList (K : PySem.W.Frag) : List V → Hp → VK → Prop := fun xs H Q => ∃ p ys, xs = [.ref p] ∧ (SqL K H p ys ∨ SqT K H p ys) ∧ ∀ l, H l = none → Q (.ref l) (upd H l (.lst ys))
def cTuple (K : PySem.W.Frag) : List V → Hp → VK → Prop := fun xs H Q => ∃ p ys, xs = [.ref p] ∧ ((SqL K H p ys ∧ ∀ l, H l = none → Q (.ref l) (upd H l (.tup ys))) ∨ (SqT K H p ys ∧ Q (.ref p) H))
section
variable {X : Cx}
theorem cr_len : CallR X (.builtin "len") (cLen X.K) := call_len
theorem cr_abs : CallR X (.builtin "abs") cAbs := call_abs
theorem cr_maxU (hc : X.calm = true) : CallR X (.builtin "max") (cMax X.K) := call_or (call_max2 hc) (cr_max hc)
theorem cr_minU (hc : X.calm = true) : CallR X (.builtin "min") (cMin X.K) := call_or (call_min2 hc) (cr_min hc)
theorem cr_int : CallR X (.type "int") cInt := call_int1
theorem cr_list : CallR X (.type "list") (cList X.K) := call_list_of
theorem cr_tuple : CallR X (.type "tuple") (cTuple X.K) := call_tuple_of
end
/-! ### walks -/
def iSeq (K : PySem.W.Frag) (tl : TE) : TI := fun σ H R => tl σ H fun x H1 => ∃ a, x = .ref a ∧ (((∃ xs, SqL K H1 a xs) ∧ R (Itl K a) H1) ∨ ((∃ xs, SqT K H1 a xs) ∧ R (Itt K a) H1))
theorem pi_seq {X : Cx} {tg l : Expr} {tl : TE} (hl : PE X l tl) : PI X tg l (iSeq X.K tl) := by
  refine ⟨fun pins s σ H R I h => ?_⟩
  refine thn (hl.run pins s σ H _ I h) fun v s1 ⟨x, H1, I1, r1, q1⟩ => ?_
  obtain ⟨a, e, q1⟩ := q1
  subst e
  cases r1
  rcases q1 with ⟨⟨xs, hq⟩, q⟩ | ⟨⟨xs, hq⟩, q⟩
  · obtain ⟨its, rv, p, hz⟩ := I1.list hq
    refine wpAny_pyIter_list p.isList ?_
    refine ⟨s1.heap.objs.size, [s1.heap.objs.size], _, _, H1, rfl, I1.kept (t' := s1.toks) fun b o e => Heap.get?_push_of_some _ e, turn_list a _, ⟨_, Heap.get?_push_size _ rfl, rfl, rfl⟩, fun b hb => ?_, q⟩
    have e : b = s1.heap.objs.size := by simpa using hb
    subst e
    exact I1.fpOk (Nat.le_refl _) (I1.hok.fresh (Nat.le_refl _))
  · obtain ⟨its, rv, p, hz⟩ := I1.tuple hq
    refine wpAny_pyIter_tuple (show s1.heap.IsTuple a its.toArray from p) ?_
    refine ⟨s1.heap.objs.size, [s1.heap.objs.size], _, _, H1, rfl, I1.kept (t' := s1.toks) fun b o e => Heap.get?_push_of_some _ e, turn_tuple a _, ⟨_, Heap.get?_push_size _ rfl, rfl, rfl⟩, fun b hb => ?_, q⟩
    have e : b = s1.heap.objs.size := by simpa using hb
    subst e
    exact I1.fpOk (Nat.le_refl _) (I1.hok.fresh (Nat.le_refl _))
def rangeD (lo : Int) (n : Nat) : List D := (List.range n).map fun (k : Nat) => D.int (lo + (k : Int))
theorem rangeD_len (lo : Int) (n : Nat) : (rangeD lo n).length = n := by simp [rangeD]
theorem rangeD_get {lo : Int} {n i : Nat} {d : D} (h : (rangeD lo n)[i]? = some d) : i < n ∧ d = .int (lo + (i : Int)) := by
  unfold rangeD at h
  rw [List.getElem?_map] at h
  cases e : (List.range n)[i]? with
  | none => rw [e] at h; cases h
  | some k =>
    rw [e] at h
    obtain ⟨h1, h2⟩ := List.getElem?_eq_some_iff.mp e
    simp at h1 h2
    subst h2
    exact ⟨h1, (Option.some.inj h).symm⟩
section
variable {K : PySem.W.Frag} {S S1 : Store} {G : Env'} {tl : TE} {ta : TA} {R : List D → Store → Prop} {H : Hp} {Z : Addr → Prop}
theorem itr_range {lo : Int} {n : Nat} : ItR K (Itr lo n) (rangeD lo n) Z H := fun H1 Z1 L zt => by
  refine ⟨fun i d h => ?_, ?_⟩
  · obtain ⟨h1, h2⟩ := rangeD_get h
    exact ⟨h1, fun x H2 hy => by
      obtain ⟨e1, e2⟩ := hy
      subst e1 e2 h2
      exact ⟨fun _ _ e => e, .int _⟩⟩
  · show n ≤ (rangeD lo n).length
    rw [rangeD_len]
    exact Nat.le_refl _
theorem itr_tup {a : Addr} {ds : List D} (h : Rp K Z H (.ref a) (.tup ds)) : ItR K (Itt K a) ds Z H := fun H1 Z1 L zt => by
  obtain ⟨b, xs, e, hs, ra⟩ := (h.lift L).tupV
  cases e
  refine ⟨fun i d hi => ?_, ⟨xs, hs, Nat.le_of_eq ra.length⟩⟩
  obtain ⟨v, h1, h2⟩ := ra.get hi
  refine ⟨⟨xs, v, hs, h1⟩, fun x H2 ⟨e1, e2⟩ => ?_⟩
  subst e1
  have e3 := e2 xs hs
  rw [h1] at e3
  cases e3
  exact ⟨fun _ _ e => e, h2⟩
theorem itr_lst {a : Addr} {ds : List D} (h : Rp K Z H (.ref a) (.lst ds)) : ItR K (Itl K a) ds Z H := fun H1 Z1 L zt => by
  obtain ⟨b, xs, e, hs, ra⟩ := (h.lift L).lstV
  cases e
  have hs : SqL K H1 a xs := SqL.of hs
  refine ⟨fun i d hi => ?_, ⟨xs, hs, Nat.le_of_eq ra.length⟩⟩
  obtain ⟨v, h1, h2⟩ := ra.get hi
  refine ⟨⟨xs, v, hs, h1⟩, fun x H2 ⟨e1, e2⟩ => ?_⟩
  subst e1
  have e3 := e2 xs hs
  rw [h1] at e3
  cases e3
  exact ⟨fun _ _ e => e, h2⟩
theorem itr_frz {a : Addr} {ns : List Int} (h : Rp K Z H (.ref a) (.frz ns)) : ItR K (Itl K a) (ns.map D.int) Z H := fun H1 Z1 L zt => by
  obtain ⟨b, e, hs⟩ := (h.lift L).frzV
  cases e
  refine ⟨fun i d hi => ?_, ⟨_, hs, by simp⟩⟩
  rw [List.getElem?_map] at hi
  cases en : ns[i]? with
  | none => rw [en] at hi; cases hi
  | some n =>
    rw [en] at hi
    have ed : D.int n = d := Option.some.inj hi
    subst ed
    have h1 : (ns.map V.int)[i]? = some (.int n) := by rw [List.getElem?_map, en]; rfl
    refine ⟨⟨_, _, hs, h1⟩, fun x H2 ⟨e1, e2⟩ => ?_⟩
    subst e1
    have e3 := e2 _ hs
    rw [h1] at e3
    cases e3
    exact ⟨fun _ _ e => e, .int n⟩
theorem i_seq (h : EvG K tl G S fun d S' => (∃ ds, d = .lst ds ∧ R ds S') ∨ (∃ ds, d = .tup ds ∧ R ds S') ∨ ∃ ns, d = .frz ns ∧ R (ns.map D.int) S') : IG K (iSeq K tl) G S R := fun σ H e R' q =>
  h σ H e _ fun d S' v H' p s r => by
    rcases p with ⟨ds, ed, p⟩ | ⟨ds, ed, p⟩ | ⟨ns, ed, p⟩
    · subst ed
      obtain ⟨a, xs, ev, hx, ra⟩ := r.lstV
      subst ev
      exact ⟨a, rfl, .inl ⟨⟨xs, SqL.of hx⟩, q ds S' _ H' p s (itr_lst r)⟩⟩
    · subst ed
      obtain ⟨a, xs, ev, hx, ra⟩ := r.tupV
      subst ev
      exact ⟨a, rfl, .inr ⟨⟨xs, hx⟩, q ds S' _ H' p s (itr_tup r)⟩⟩
    · subst ed
      obtain ⟨a, ev, hx⟩ := r.frzV
      subst ev
      exact ⟨a, rfl, .inl ⟨⟨_, hx⟩, q _ S' _ H' p s (itr_frz r)⟩⟩
theorem i_rng1 (h : EvA K ta G S fun ds S' => ∃ j, ds = [.int j] ∧ (-(2 ^ 62) ≤ j ∧ j < 2 ^ 62) ∧ R (rangeD 0 j.toNat) S') : IG K (iRng1 ta) G S R := fun σ H e R' q =>
  h σ H e _ fun ds S' vs H' ⟨j, ed, hj, p⟩ s r => by
    subst ed
    cases r with
    | cons r1 r2 =>
      cases r2
      have := r1.intV
      subst this
      exact ⟨j, rfl, hj.1, hj.2, q _ S' _ H' p s itr_range⟩
theorem i_rng2 (h : EvA K ta G S fun ds S' => ∃ i j, ds = [.int i, .int j] ∧ (-(2 ^ 62) ≤ i ∧ i < 2 ^ 62 ∧ -(2 ^ 62) ≤ j ∧ j < 2 ^ 62) ∧ R (rangeD i (j - i).toNat) S') : IG K (iRng2 ta) G S R := fun σ H e R' q =>
  h σ H e _ fun ds S' vs H' ⟨i, j, ed, hj, p⟩ s r => by
    subst ed
    cases r with
    | cons r1 r2 =>
      cases r2 with
      | cons r2 r3 =>
        cases r3
        have e1 := r1.intV
        have e2 := r2.intV
        subst e1 e2
        exact ⟨i, j, rfl, hj, q _ S' _ H' p s itr_range⟩
def enumD (ds : List D) : List D := ds.mapIdx fun i d => .tup [.int (i : Int), d]
theorem itr_enumT {a : Addr} {ds : List D} (h : Rp K Z H (.ref a) (.tup ds)) : ItR K (IteT K a) (enumD ds) Z H := fun H1 Z1 L zt => by
  obtain ⟨b, xs, e, hs, ra⟩ := (h.lift L).tupV
  cases e
  refine ⟨fun i d hi => ?_, ⟨xs, hs, by rw [ra.length]; simp [enumD]⟩⟩
  unfold enumD at hi
  rw [List.getElem?_mapIdx] at hi
  cases ed : ds[i]? with
  | none => rw [ed] at hi; cases hi
  | some d0 =>
    rw [ed] at hi
    have e0 : D.tup [.int (i : Int), d0] = d := Option.some.inj hi
    subst e0
    obtain ⟨v, h1, h2⟩ := ra.get ed
    refine ⟨⟨xs, v, hs, h1⟩, fun x H2 ⟨T, y, ex, hT, eH, hy⟩ => ?_⟩
    subst ex eH
    have e3 := hy xs hs
    rw [h1] at e3
    cases e3
    have k : ∀ a o, H1 a = some o → upd H1 T (.tup [.int (i : Nat), v]) a = some o := fun a o e => by rw [upd_ne (ne_of_none e hT)]; exact e
    refine ⟨k, .tup upd_same (fun z => zt T z hT) (.cons (.int _) (.one (h2.lift ⟨fun a o _ e => k a o e, fun _ z => .inl z⟩)))⟩
theorem itr_enumL {a : Addr} {ds : List D} (h : Rp K Z H (.ref a) (.lst ds)) : ItR K (Ite K a) (enumD ds) Z H := fun H1 Z1 L zt => by
  obtain ⟨b, xs, e, hs, ra⟩ := (h.lift L).lstV
  cases e
  have hs : SqL K H1 a xs := SqL.of hs
  refine ⟨fun i d hi => ?_, ⟨xs, hs, by rw [ra.length]; simp [enumD]⟩⟩
  unfold enumD at hi
  rw [List.getElem?_mapIdx] at hi
  cases ed : ds[i]? with
  | none => rw [ed] at hi; cases hi
  | some d0 =>
    rw [ed] at hi
    have e0 : D.tup [.int (i : Int), d0] = d := Option.some.inj hi
    subst e0
    obtain ⟨v, h1, h2⟩ := ra.get ed
    refine ⟨⟨xs, v, hs, h1⟩, fun x H2 ⟨T, y, ex, hT, eH, hy⟩ => ?_⟩
    subst ex eH
    have e3 := hy xs hs
    rw [h1] at e3
    cases e3
    have k : ∀ a o, H1 a = some o → upd H1 T (.tup [.int (i : Nat), v]) a = some o := fun a o e => by rw [upd_ne (ne_of_none e hT)]; exact e
    refine ⟨k, .tup upd_same (fun z => zt T z hT) (.cons (.int _) (.one (h2.lift ⟨fun a o _ e => k a o e, fun _ z => .inl z⟩)))⟩
def iEnumU (K : PySem.W.Frag) (ta : TA) : TI := fun σ H R => ta σ H fun vs H1 => ∃ a xs, vs = [.ref a] ∧ ((SqL K H1 a xs ∧ R (Ite K a) H1) ∨ (SqT K H1 a xs ∧ R (IteT K a) H1))
theorem pi_enumU {X : Cx} {e : Expr} {ta : TA} {p pos tpos : Pos} {elts : List Expr} {kk : Nat} (hg : Gl X "enumerate") (hm : X.mg "enumerate" = none) (ha : PA X [e] ta) (hs : starEach [e] X.env = [(false, eval e X.env)] := by rfl) :
    PI X (.Tuple elts kk tpos) (.Call (.Name "enumerate" p) [e] [] pos) (iEnumU X.K ta) := by
  refine ⟨fun pins s σ H R I h => ?_⟩
  refine Call_ (ld_blt I hg hm boot_enumerate (PyProof.Rows.callWith_type1 (thn (ha.run pos pins s σ H _ I h) fun us s1 ⟨vs, H1, I1, r1, q1⟩ => ?_) hs rfl))
  obtain ⟨a, xs, ex, q1⟩ := q1
  subst ex
  cases r1 with
  | cons r rr =>
    cases rr
    cases r
    rcases q1 with ⟨hq, q⟩ | ⟨hq, q⟩
    · obtain ⟨its, rv, p', hz⟩ := I1.list hq
      refine call_enumerate_list p'.isList fun h' he hit hsz hk => wpAny_pyIter_enum he ?_
      have I2 : Inv X pins σ H1 { s1 with heap := h' } := I1.kept (t' := s1.toks) hk
      refine ⟨s1.heap.objs.size + 1, [s1.heap.objs.size + 1, s1.heap.objs.size], _, _, H1, rfl, I2, turn_enum a (s1.heap.objs.size + 1) s1.heap.objs.size, ⟨⟨.none, he⟩, hit, Nat.succ_ne_self _⟩, fun b hb => ?_, q⟩
      have e' : b = s1.heap.objs.size + 1 ∨ b = s1.heap.objs.size := by simpa using hb
      have hle : s1.heap.objs.size ≤ b := by
        rcases e' with z | z
        · rw [z]; exact Nat.le_add_right _ _
        · rw [z]; exact Nat.le_refl _
      exact I1.fpOk hle (I1.hok.fresh hle)
    · obtain ⟨its, rv, p', hz⟩ := I1.tuple hq
      refine enum_begins1 (begins_tuple a its.toArray) (show s1.heap.IsTuple a its.toArray from p') fun h' he hit hsz hk => wpAny_pyIter_enum he ?_
      have I2 : Inv X pins σ H1 { s1 with heap := h' } := I1.kept (t' := s1.toks) hk
      refine ⟨s1.heap.objs.size + 1, [s1.heap.objs.size + 1, s1.heap.objs.size], _, _, H1, rfl, I2, turn_enumT a (s1.heap.objs.size + 1) s1.heap.objs.size, ⟨⟨.none, he⟩, ⟨_, hit, rfl, rfl⟩, Nat.succ_ne_self _⟩, fun b hb => ?_, q⟩
      have e' : b = s1.heap.objs.size + 1 ∨ b = s1.heap.objs.size := by simpa using hb
      have hle : s1.heap.objs.size ≤ b := by
        rcases e' with z | z
        · rw [z]; exact Nat.le_add_right _ _
        · rw [z]; exact Nat.le_refl _
      exact I1.fpOk hle (I1.hok.fresh hle)
theorem i_enum (h : EvA K ta G S fun vs S' => (∃ ds, vs = [.lst ds] ∧ R (enumD ds) S') ∨ ∃ ds, vs = [.tup ds] ∧ R (enumD ds) S') : IG K (iEnumU K ta) G S R := fun σ H e R' q =>
  h σ H e _ fun d S' v H' p s r => by
    rcases p with ⟨ds, ed, p⟩ | ⟨ds, ed, p⟩
    · subst ed
      cases r with
      | cons r1 r2 =>
        cases r2
        obtain ⟨a, xs, ev, hx, ra⟩ := r1.lstV
        subst ev
        exact ⟨a, xs, rfl, .inl ⟨SqL.of hx, q _ S' _ H' p s (itr_enumL r1)⟩⟩
    · subst ed
      cases r with
      | cons r1 r2 =>
        cases r2
        obtain ⟨a, xs, ev, hx, ra⟩ := r1.tupV
        subst ev
        exact ⟨a, xs, rfl, .inr ⟨hx, q _ S' _ H' p s (itr_enumT r1)⟩⟩
end
/-! ### operators on data -/
section
variable {K : PySem.W.Frag} {S : Store} {P : PD} {i j : Int} {x y : Str} {xs ys ds es : List D} {l : Addr} {d : D}
theorem o_rI0 {g : Int → Int → V} {gd : D} (hg : ∀ Z H, Rp K Z H (g i j) gd) (k : P gd S) : OpG K (rI0 g) (.int i) (.int j) S P := fun H vx vy st rx ry Q q => ⟨i, j, rx.intV, ry.intV, q _ S _ H k (.refl st) (hg _ _)⟩
theorem o_rI {C : Int → Int → Prop} {g : Int → Int → V} {gd : D} (hg : ∀ Z H, Rp K Z H (g i j) gd) (hc : C i j) (k : P gd S) : OpG K (rI C g) (.int i) (.int j) S P := fun H vx vy st rx ry Q q => ⟨i, j, rx.intV, ry.intV, hc, q _ S _ H k (.refl st) (hg _ _)⟩
theorem o_inl {a b : R2} {x y : D} (h : OpG K a x y S P) : OpG K (rOr a b) x y S P := fun H vx vy st rx ry Q q => .inl (h H vx vy st rx ry Q q)
theorem o_inr {a b : R2} {x y : D} (h : OpG K b x y S P) : OpG K (rOr a b) x y S P := fun H vx vy st rx ry Q q => .inr (h H vx vy st rx ry Q q)
theorem o_addI (k : P (.int (i + j)) S) : OpG K (rAddU K) (.int i) (.int j) S P := o_inl (o_rI0 (fun _ _ => .int _) k)
theorem o_subI (k : P (.int (i - j)) S) : OpG K rSubU (.int i) (.int j) S P := o_rI0 (fun _ _ => .int _) k
theorem o_mulI (h : (-(2 ^ 64) < i ∧ i < 2 ^ 64) ∨ (-(2 ^ 64) < j ∧ j < 2 ^ 64)) (k : P (.int (i * j)) S) : OpG K rMulU (.int i) (.int j) S P := o_inl (o_rI (fun _ _ => .int _) h k)
theorem o_mulW (h : CMulW i j) (k : P (.int (i * j)) S) : OpG K rMulU (.int i) (.int j) S P := o_inr (o_inl (o_rI (fun _ _ => .int _) h k))
theorem o_divI (h : 0 < j ∧ j < 1073741824) (k : P (.int (i / j)) S) : OpG K rDivU (.int i) (.int j) S P := o_inl (o_rI (fun _ _ => .int _) h k)
theorem o_divW (h : CDivW i j) (k : P (.int (i / j)) S) : OpG K rDivU (.int i) (.int j) S P := o_inr (o_rI (fun _ _ => .int _) h k)
theorem o_modI (h : 0 < j) (k : P (.int (i % j)) S) : OpG K rModU (.int i) (.int j) S P := o_rI (fun _ _ => .int _) h k
theorem o_powI (h : 0 ≤ j ∧ j ≤ 1000000 ∧ i.natAbs < 2 ^ 64) (k : P (.int (i ^ j.toNat)) S) : OpG K rPowU (.int i) (.int j) S P := o_rI (fun _ _ => .int _) h k
theorem o_lt (k : P (.bl (decide (i < j))) S) : OpG K rLtU (.int i) (.int j) S P := o_rI0 (fun _ _ => .bl _) k
theorem o_le (k : P (.bl (decide (i ≤ j))) S) : OpG K rLeU (.int i) (.int j) S P := o_rI0 (fun _ _ => .bl _) k
theorem o_gt (k : P (.bl (decide (j < i))) S) : OpG K rGtU (.int i) (.int j) S P := o_rI0 (fun _ _ => .bl _) k
theorem o_ge (k : P (.bl (decide (j ≤ i))) S) : OpG K rGeU (.int i) (.int j) S P := o_rI0 (fun _ _ => .bl _) k
theorem o_addS (h : x.length + y.length ≤ 1000000) (k : P (.str (x ++ y)) S) : OpG K (rAddU K) (.str x) (.str y) S P := o_inr (o_inl fun H vx vy st rx ry Q q => ⟨x, y, rx.strV, ry.strV, Nat.le_trans h (by decide), q _ S _ H k (.refl st) (.str _)⟩)
theorem o_addL (h : xs.length + ys.length ≤ 1000000) (k : P (.lst (xs ++ ys)) S) : OpG K (rAddU K) (.lst xs) (.lst ys) S P := o_inr (o_inr (o_inl fun H vx vy st rx ry Q q => by
  obtain ⟨a, us, e1, h1, r1⟩ := rx.lstV
  obtain ⟨b, ws, e2, h2, r2⟩ := ry.lstV
  refine ⟨a, b, us, ws, e1, e2, h1, h2, by rw [r1.length, r2.length]; exact Nat.le_trans h (by decide), fun p hp => ?_⟩
  have s : Step K S H S (upd H p (.lst (us ++ ws))) := .new st hp
  exact q _ S _ _ k s (.lst upd_same (st.nodom hp) ((r1.append r2).lift s.lft))))
theorem o_eqI (k : P (.bl (decide (i = j))) S) : OpG K (rEqU K) (.int i) (.int j) S P := o_inl fun H vx vy st rx ry Q q => by
  rw [rx.intV, ry.intV]
  refine ⟨rfl, q _ S _ H k (.refl st) ?_⟩
  have : decide (V.int i = V.int j) = decide (i = j) := by simp
  rw [this]
  exact .bl _
theorem o_neI (k : P (.bl (!decide (i = j))) S) : OpG K (rNeU K) (.int i) (.int j) S P := o_inl fun H vx vy st rx ry Q q => by
  rw [rx.intV, ry.intV]
  refine ⟨rfl, q _ S _ H k (.refl st) ?_⟩
  have : decide (V.int i = V.int j) = decide (i = j) := by simp
  rw [this]
  exact .bl _
theorem o_eqS (k : P (.bl (decide (x = y))) S) : OpG K (rEqU K) (.str x) (.str y) S P := o_inl fun H vx vy st rx ry Q q => by
  rw [rx.strV, ry.strV]
  refine ⟨rfl, q _ S _ H k (.refl st) ?_⟩
  have : decide (V.str x = V.str y) = decide (x = y) := by simp
  rw [this]
  exact .bl _
theorem o_neS (k : P (.bl (!decide (x = y))) S) : OpG K (rNeU K) (.str x) (.str y) S P := o_inl fun H vx vy st rx ry Q q => by
  rw [rx.strV, ry.strV]
  refine ⟨rfl, q _ S _ H k (.refl st) ?_⟩
  have : decide (V.str x = V.str y) = decide (x = y) := by simp
  rw [this]
  exact .bl _
/-! data of the model -/
mutual
def toPy : D → Option PyData
  | .non => some .none
  | .bl b => some (.bool b)
  | .int i => some (.int i)
  | .str x => some (.str x)
  | .lst ds => (toPys ds).map .list
  | .tup ds => (toPys ds).map .tuple
  | .frz ns => some (.list (ns.map .int))
  | .obj _ _ => none
  | .ref _ => none
  | .ty _ => none
def toPys : List D → Option (List PyData)
  | [] => some []
  | d :: ds => (toPy d).bind fun p => (toPys ds).map fun ps => p :: ps
end
mutual
theorem Rp.dp {K : PySem.W.Frag} {Z : Addr → Prop} {H : Hp} : ∀ {v : V} {d : D} {p : PyData}, Rp K Z H v d → toPy d = some p → Dp K H v p
  | _, _, _, .non, e => by unfold toPy at e; cases e; exact .non
  | _, _, _, .bl b, e => by unfold toPy at e; cases e; exact .bl b
  | _, _, _, .int i, e => by unfold toPy at e; cases e; exact .int i
  | _, _, _, .str x, e => by unfold toPy at e; cases e; exact .str x
  | _, _, _, .ref a, e => by unfold toPy at e; cases e
  | _, _, _, .ty a, e => by unfold toPy at e; cases e
  | _, _, _, .frz h n, e => by
    unfold toPy at e
    cases e
    rename_i ns
    refine .lst (.inl (.inr ⟨_, h⟩)) ?_
    clear h n
    induction ns with
    | nil => exact .nil
    | cons a r ih => exact .cons (.int a) ih
  | _, _, _, .frzK h, e => by
    unfold toPy at e
    cases e
    rename_i a ns
    refine .lst (h H) ?_
    clear h
    induction ns with
    | nil => exact .nil
    | cons a r ih => exact .cons (.int a) ih
  | _, _, p, .lst (ds := ds) h n r, e => by
    unfold toPy at e
    cases q : toPys ds with
    | none => rw [q] at e; cases e
    | some ps =>
      rw [q] at e
      cases e
      exact .lst (SqL.of h) (RpAll.dp r q)
  | _, _, p, .tup (ds := ds) h n r, e => by
    unfold toPy at e
    cases q : toPys ds with
    | none => rw [q] at e; cases e
    | some ps =>
      rw [q] at e
      cases e
      exact .tup (SqT.of h) (RpAll.dp r q)
  | _, _, p, .tupK (ds := ds) h r, e => by
    unfold toPy at e
    cases q : toPys ds with
    | none => rw [q] at e; cases e
    | some ps =>
      rw [q] at e
      cases e
      exact .tup (.inr h) (RpAll.dp r q)
  | _, _, _, .obj h n r, e => by unfold toPy at e; cases e
theorem RpAll.dp {K : PySem.W.Frag} {Z : Addr → Prop} {H : Hp} : ∀ {vs : List V} {ds : List D} {ps : List PyData}, RpAll K Z H vs ds → toPys ds = some ps → DpAll K H vs ps
  | _, _, _, .nil, e => by unfold toPys at e; cases e; exact .nil
  | _, _, ps, .cons (d := d) (ds := ds) r t, e => by
    unfold toPys at e
    cases q : toPy d with
    | none => rw [q] at e; cases e
    | some p =>
      cases q2 : toPys ds with
      | none => rw [q, q2] at e; cases e
      | some ps =>
        rw [q, q2] at e
        cases e
        exact .cons (Rp.dp r q) (RpAll.dp t q2)
end
theorem o_eqD {a b : D} {p q : PyData} (h1 : toPy a = some p) (h2 : toPy b = some q) (s1 : SeqAt.shaped p = true) (s2 : SeqAt.shaped q = true) (k : P (.bl (PyData.eqv p q)) S) : OpG K (rEqU K) a b S P := o_inr fun H vx vy st rx ry Q z =>
  ⟨p, q, rx.dp h1, ry.dp h2, s1, s2, z _ S _ H k (.refl st) (.bl _)⟩
theorem o_neD {a b : D} {p q : PyData} (h1 : toPy a = some p) (h2 : toPy b = some q) (s1 : SeqAt.shaped p = true) (s2 : SeqAt.shaped q = true) (k : P (.bl (!PyData.eqv p q)) S) : OpG K (rNeU K) a b S P := o_inr fun H vx vy st rx ry Q z =>
  ⟨p, q, rx.dp h1, ry.dp h2, s1, s2, z _ S _ H k (.refl st) (.bl _)⟩
/-! subscripts -/
theorem RpAll.atI {K : PySem.W.Frag} {Z : Addr → Prop} {H : Hp} {vs : List V} {ds : List D} {i : Int} {d : D} (r : RpAll K Z H vs ds) (h : atI ds i = some d) : ∃ v, L2.atI vs i = some v ∧ Rp K Z H v d := by
  unfold L2.atI at h ⊢
  rw [r.length]
  cases e : ixN ds.length i with
  | none => rw [e] at h; cases h
  | some j =>
    rw [e] at h
    obtain ⟨v, h1, h2⟩ := r.get (show ds[j]? = some d from h)
    exact ⟨v, h1, h2⟩
theorem o_ixT (h : atI ds i = some d) (k : P d S) : OpG K (rIxU K) (.tup ds) (.int i) S P := o_inr (o_inl fun H vx vy st rx ry Q q => by
  obtain ⟨a, xs, e, hs, ra⟩ := rx.tupV
  obtain ⟨v, h1, h2⟩ := ra.atI h
  exact ⟨a, xs, i, v, e, ry.intV, hs, h1, q d S v H k (.refl st) h2⟩)
theorem o_ixL (h : atI ds i = some d) (k : P d S) : OpG K (rIxU K) (.lst ds) (.int i) S P := o_inl fun H vx vy st rx ry Q q => by
  obtain ⟨a, xs, e, hs, ra⟩ := rx.lstV
  obtain ⟨v, h1, h2⟩ := ra.atI h
  exact ⟨a, xs, i, v, e, ry.intV, SqL.of hs, h1, q d S v H k (.refl st) h2⟩
theorem o_ixC (hl : S.lookup l = some (.lst ds)) (h : atI ds i = some d) (k : P d S) : OpG K (rIxU K) (.ref l) (.int i) S P := o_inl fun H vx vy st rx ry Q q => by
  obtain ⟨xs, hx, ra⟩ := st.ok l _ (lookup_mem hl)
  obtain ⟨v, h1, h2⟩ := ra.atI h
  exact ⟨l, xs, i, v, rx.refV, ry.intV, SqL.of hx, h1, q d S v H k (.refl st) h2⟩
theorem o_ixF {ns : List Int} {n : Int} (h : atI ns i = some n) (k : P (.int n) S) : OpG K (rIxU K) (.frz ns) (.int i) S P := o_inl fun H vx vy st rx ry Q q => by
  obtain ⟨a, e, hs⟩ := rx.frzV
  refine ⟨a, _, i, .int n, e, ry.intV, hs, ?_, q _ S _ H k (.refl st) (.int n)⟩
  unfold L2.atI at h ⊢
  rw [List.length_map]
  cases e : ixN ns.length i with
  | none => rw [e] at h; cases h
  | some j =>
    rw [e] at h
    show (ns.map V.int)[j]? = _
    rw [List.getElem?_map, show ns[j]? = some n from h]
    rfl
theorem atI_of {α : Type} {xs : List α} {i : Int} {v : α} (h0 : 0 ≤ i) (h : xs[i.toNat]? = some v) : atI xs i = some v := by
  have := atI_nat h
  rw [Int.toNat_of_nonneg h0] at this
  exact this
/-! built-in calls -/
theorem c_lenT (k : P (.int (ds.length : Int)) S) : CbG K (cLen K) [.tup ds] S P := fun H vs st r Q q => by
  cases r with
  | cons r1 r2 =>
    cases r2
    obtain ⟨a, xs, e, hs, ra⟩ := r1.tupV
    subst e
    refine ⟨_, xs.length, rfl, .inr ⟨xs, hs, rfl⟩, q _ S _ H k (.refl st) ?_⟩
    rw [ra.length]
    exact .int _
theorem c_lenL (k : P (.int (ds.length : Int)) S) : CbG K (cLen K) [.lst ds] S P := fun H vs st r Q q => by
  cases r with
  | cons r1 r2 =>
    cases r2
    obtain ⟨a, xs, e, hs, ra⟩ := r1.lstV
    subst e
    refine ⟨_, xs.length, rfl, .inl ⟨xs, SqL.of hs, rfl⟩, q _ S _ H k (.refl st) ?_⟩
    rw [ra.length]
    exact .int _
theorem c_lenC (hl : S.lookup l = some (.lst ds)) (k : P (.int (ds.length : Int)) S) : CbG K (cLen K) [.ref l] S P := fun H vs st r Q q => by
  cases r with
  | cons r1 r2 =>
    cases r2
    obtain ⟨xs, hx, ra⟩ := st.ok l _ (lookup_mem hl)
    have e := r1.refV
    subst e
    refine ⟨_, xs.length, rfl, .inl ⟨xs, SqL.of hx, rfl⟩, q _ S _ H k (.refl st) ?_⟩
    rw [ra.length]
    exact .int _
theorem c_lenF {ns : List Int} (k : P (.int (ns.length : Int)) S) : CbG K (cLen K) [.frz ns] S P := fun H vs st r Q q => by
  cases r with
  | cons r1 r2 =>
    cases r2
    obtain ⟨a, e, hs⟩ := r1.frzV
    subst e
    refine ⟨_, (ns.map V.int).length, rfl, .inl ⟨_, hs, rfl⟩, q _ S _ H k (.refl st) ?_⟩
    rw [List.length_map]
    exact .int _
theorem c_lenS (h : x.length ≤ 1000000) (k : P (.int (x.length : Int)) S) : CbG K (cLen K) [.str x] S P := fun H vs st r Q q => by
  cases r with
  | cons r1 r2 =>
    cases r2
    have e := r1.strV
    subst e
    exact ⟨_, _, rfl, ⟨Nat.le_trans h (by decide), rfl⟩, q _ S _ H k (.refl st) (.int _)⟩
theorem c_abs (k : P (.int (if i < 0 then -i else i)) S) : CbG K cAbs [.int i] S P := fun H vs st r Q q => by
  cases r with
  | cons r1 r2 =>
    cases r2
    have e := r1.intV
    subst e
    exact ⟨i, rfl, q _ S _ H k (.refl st) (.int _)⟩
theorem c_int (k : P (.int i) S) : CbG K cInt [.int i] S P := fun H vs st r Q q => by
  cases r with
  | cons r1 r2 =>
    cases r2
    have e := r1.intV
    subst e
    exact .inl ⟨i, rfl, q _ S _ H k (.refl st) (.int _)⟩
theorem c_intB {b : Bool} (k : P (.int (if b then 1 else 0)) S) : CbG K cInt [.bl b] S P := fun H vs st r Q q => by
  cases r with
  | cons r1 r2 =>
    cases r2
    have e := r1.blV
    subst e
    exact .inr ⟨b, rfl, q _ S _ H k (.refl st) (.int _)⟩
theorem c_max2 (k : P (.int (if j > i then j else i)) S) : CbG K (cMax K) [.int i, .int j] S P := fun H vs st r Q q => by
  cases r with
  | cons r1 r2 =>
    cases r2 with
    | cons r2 r3 =>
      cases r3
      have e := r1.intV
      have e2 := r2.intV
      subst e e2
      exact .inl ⟨i, j, rfl, q _ S _ H k (.refl st) (.int _)⟩
theorem c_min2 (k : P (.int (if j < i then j else i)) S) : CbG K (cMin K) [.int i, .int j] S P := fun H vs st r Q q => by
  cases r with
  | cons r1 r2 =>
    cases r2 with
    | cons r2 r3 =>
      cases r3
      have e := r1.intV
      have e2 := r2.intV
      subst e e2
      exact .inl ⟨i, j, rfl, q _ S _ H k (.refl st) (.int _)⟩
theorem rpAll_ints {K : PySem.W.Frag} {Z : Addr → Prop} {H : Hp} : ∀ {ns : List Int} {vs : List V}, RpAll K Z H vs (ns.map D.int) → vs = ns.map V.int
  | [], _, h => by cases h; rfl
  | n :: ns, _, h => by
    cases h with
    | cons r t =>
      rw [r.intV, rpAll_ints t]
      rfl
theorem c_maxL {ns : List Int} (h : 0 < ns.length) (k : ∀ m, m ∈ ns → (∀ y, y ∈ ns → y ≤ m) → P (.int m) S) : CbG K (cMax K) [.lst (ns.map D.int)] S P := fun H vs st r Q q => by
  cases r with
  | cons r1 r2 =>
    cases r2
    obtain ⟨a, xs, e, hs, ra⟩ := r1.lstV
    subst e
    have ex := rpAll_ints ra
    subst ex
    exact .inr ⟨a, ns, rfl, SqL.of hs, h, fun m h1 h2 => q _ S _ H (k m h1 h2) (.refl st) (.int _)⟩
theorem c_minL {ns : List Int} (h : 0 < ns.length) (k : ∀ m, m ∈ ns → (∀ y, y ∈ ns → m ≤ y) → P (.int m) S) : CbG K (cMin K) [.lst (ns.map D.int)] S P := fun H vs st r Q q => by
  cases r with
  | cons r1 r2 =>
    cases r2
    obtain ⟨a, xs, e, hs, ra⟩ := r1.lstV
    subst e
    have ex := rpAll_ints ra
    subst ex
    exact .inr ⟨a, ns, rfl, SqL.of hs, h, fun m h1 h2 => q _ S _ H (k m h1 h2) (.refl st) (.int _)⟩
theorem c_tupleL (k : P (.tup ds) S) : CbG K (cTuple K) [.lst ds] S P := fun H vs st r Q q => by
  cases r with
  | cons r1 r2 =>
    cases r2
    obtain ⟨a, xs, e, hs, ra⟩ := r1.lstV
    subst e
    refine ⟨a, xs, rfl, .inl ⟨SqL.of hs, fun p hp => ?_⟩⟩
    have s : Step K S H S (upd H p (.tup xs)) := .new st hp
    exact q _ S _ _ k s (.tup upd_same (st.nodom hp) (ra.lift s.lft))
theorem c_tupleC (hl : S.lookup l = some (.lst ds)) (k : P (.tup ds) S) : CbG K (cTuple K) [.ref l] S P := fun H vs st r Q q => by
  cases r with
  | cons r1 r2 =>
    cases r2
    obtain ⟨xs, hx, ra⟩ := st.ok l _ (lookup_mem hl)
    have e := r1.refV
    subst e
    refine ⟨l, xs, rfl, .inl ⟨SqL.of hx, fun p hp => ?_⟩⟩
    have s : Step K S H S (upd H p (.tup xs)) := .new st hp
    exact q _ S _ _ k s (.tup upd_same (st.nodom hp) (ra.lift s.lft))
theorem c_tupleT (k : P (.tup ds) S) : CbG K (cTuple K) [.tup ds] S P := fun H vs st r Q q => by
  cases r with
  | cons r1 r2 =>
    cases r2
    obtain ⟨a, xs, e, hs, ra⟩ := r1.tupV
    subst e
    exact ⟨a, xs, rfl, .inr ⟨hs, q _ S _ H k (.refl st) r1⟩⟩
/-- x[i] = v of a cell -/
theorem tg_setC {to ti : TE} {G : Env'} {PG : Env' → Store → Prop} (h : EvG K to G S fun o S1 => EvG K ti G S1 fun i' S2 => ∃ l ds k j, o = .ref l ∧ i' = .int k ∧ S2.lookup l = some (.lst ds) ∧ ixN ds.length k = some j ∧ PG G (setC S2 l (.lst (ds.set j d)))) :
    TgG K (gSub to ti rSetL) d G S PG := fun σ H v e r Q q =>
  h σ H e _ fun o S1 vo H1 p1 s1 r1 => p1 σ H1 (e.step s1) _ fun i' S2 vi H2 ⟨l, ds, k, j, eo, ei, hl, hj, p2⟩ s2 r2 => by
    subst eo ei
    have e1 := r1.refV
    have e2 := r2.intV
    subst e1 e2
    obtain ⟨xs, hx, ra⟩ := s2.st.ok l _ (lookup_mem hl)
    refine ⟨l, xs, k, j, rfl, rfl, hx, by rw [ra.length]; exact hj, ?_⟩
    have r' : Rp K (dom S2) H2 v d := (r.lift s1.lft).lift s2.lft
    have sp : Step K S2 H2 (setC S2 l (.lst (ds.set j d))) (upd H2 l (.lst (xs.set j v))) := .put s2.st hl ⟨_, upd_same, (ra.set r' j).lift (Lift.put hl)⟩
    exact q G _ σ _ p2 ((s1.trans s2).trans sp) (((e.step s1).step s2).step sp)
theorem m_append (hl : S.lookup l = some (.lst ds)) (hz : ds.length < 1000000) (k : P .non (setC S l (.lst (ds ++ [d])))) : MtG K "list" rAppend (.ref l) [d] S P := fun H v vs st r ra Q q => by
  cases ra with
  | cons r1 r2 =>
    cases r2
    obtain ⟨xs, hx, rx⟩ := st.ok l _ (lookup_mem hl)
    have e := r.refV
    subst e
    refine ⟨l, xs, _, rfl, rfl, hx, Nat.lt_of_lt_of_le (by rw [rx.length]; exact hz) (by decide), ?_⟩
    have sp : Step K S H (setC S l (.lst (ds ++ [d]))) (upd H l (.lst (xs ++ [_]))) := .put st hl ⟨_, upd_same, (rx.append (.one r1)).lift (Lift.put hl)⟩
    exact q _ _ _ _ k sp .non
theorem ty_cell (hl : S.lookup l = some (.lst ds)) : TyG K "list" (.ref l) S := fun H v st r => by
  obtain ⟨xs, hx, rx⟩ := st.ok l _ (lookup_mem hl)
  have e := r.refV
  subst e
  exact .inl ⟨rfl, xs, SqL.of hx⟩
end
/-! ### a def's promise from its body -/
section
variable {P : Program} {w : World} {K : PySem.W.Frag} {mg : Str → Option Value} {base : Heap}
abbrev FnP (K : PySem.W.Frag) (x : Str) (q : Str) (st : Stmt) (f : Addr) (fd : FuncData) : Prop := FunD K x q (defArgs st) (defBody st) (defScope st) [] [] f fd
@[reducible] def ends0 (P : PD) : EndsD := { nx := fun _ S' => P .non S', rt := P }
def startG (N : List Str) (ds : List D) : Env' := ds.map some ++ List.replicate (N.length - ds.length) none
theorem ok_of {x qual : Str} {params : Arguments} {body : List Stmt} {scope : Scope} {dvs : List V} {kws : List (Str × V)} {f : Addr} {fd : FuncData} {N ps : List Str} {k : Nat} {g : SpG} (F : FunD K x qual params body scope dvs kws f fd) (S : FnScope N ps scope)
    (len : ∀ ds S P, g ds S P → ds.length = ps.length)
    (hbody : ∀ (cdv : Value) (A : Around) (outer : List Env) (s : Shared) (H : Hp) (E : XK), Room k (A.deeper (envOfC qual scope s.heap.objs.size f cdv)) →
      ∃ t, PSs (cxOf CX0 P w K mg base N qual scope f cdv A outer s H E).nox body t ∧ ∀ ds S P, g ds S P → ExG K t (startG N ds) S (ends0 P)) : FnOk P w K mg base CX0 (k + 1) f fd ps (spOf K g) := by
  refine F.ok S (fun vs H Q E h => ?_) (fun cdv A outer s H vs Q E hr h => ?_)
  · obtain ⟨ds, S', st, ra, hg⟩ := h
    rw [ra.length]
    exact len _ _ _ hg
  · obtain ⟨ds, S', st, ra, hg⟩ := h
    obtain ⟨t, h1, h2⟩ := hbody cdv A outer s H E hr
    refine ⟨t, h1.nox, h2 ds S' _ hg (start N vs) H _ ⟨st, ?_⟩ ⟨fun G' S1 σ' H' n sp e => n _ _ sp .non, fun d S1 v H' n sp r => n _ _ sp r, fun _ _ _ _ n => n.elim, fun _ _ _ _ n => n.elim⟩⟩
    have e := EnvR.start (N.length - vs.length) ra
    unfold L2.start startG
    rw [ra.length] at e ⊢
    exact e
end
end RS
namespace RS
open PySem PySem.Spec PyProof.Rows L2
/-! ### a def as callers see it -/
structure Cal (P : Program) (w : World) (K : PySem.W.Frag) (mg : Str → Option Value) (base : Heap) (x : Str) (ps : List Str) (k : Nat) (g : SpG) : Prop where
  ex : ∃ f fd, mg x = some (.ref f) ∧ FnOk P w K mg base CX0 k f fd ps (spOf K g) ∧ PySem.W.keepIn K (.ref f) = true ∧ Binds K fd ps []
theorem pe_callC {X : Cx} {k : Nat} {ps : List Str} {g : SpG} {x : Str} {p pos : Pos} {e : Expr} {es : List Expr} {t : TA} (c : Cal X.prog X.w X.K X.mg X.base x ps k g) (hr : Room k X.A) (hg : Gl X x) (ha : PA X (e :: es) t)
    (hdb : (x == ("__debug__" : Str)) = false := by decide) (he : starEach (e :: es) X.env = (false, eval e X.env) :: starEach es X.env := by rfl) (hpl : (backTo pos (starEach es X.env)).any (·.1) = false := by rfl) :
    PE X (.Call (.Name x p) (e :: es) [] pos) (tCall (spOf X.K g) [] E0 t) := by
  obtain ⟨f, fd, h1, h2, h3, h4⟩ := c.ex
  exact pe_call h2 hr hg h1 h3 h4 .nil pass0 ha hdb he hpl
theorem pe_callC0 {X : Cx} {k : Nat} {ps : List Str} {g : SpG} {x : Str} {p pos : Pos} (c : Cal X.prog X.w X.K X.mg X.base x ps k g) (hr : Room k X.A) (hg : Gl X x)
    (hdb : (x == ("__debug__" : Str)) = false := by decide) :
    PE X (.Call (.Name x p) [] [] pos) (tCall (spOf X.K g) [] E0 tNil) := by
  obtain ⟨f, fd, h1, h2, h3, h4⟩ := c.ex
  exact pe_call0 h2 hr hg h1 h3 h4 .nil pass0 hdb
structure Bl (mg : Str → Option Value) : Prop where
  len : mg "len" = none
  range : mg "range" = none
  tuple : mg "tuple" = none
  list : mg "list" = none
  int : mg "int" = none
  max : mg "max" = none
  min : mg "min" = none
  abs : mg "abs" = none
  isinstance : mg "isinstance" = none
  enumerate : mg "enumerate" = none
  zip : mg "zip" = none
  sum : mg "sum" = none
  all : mg "all" = none
  any : mg "any" = none
  str : mg "str" = none
  repr : mg "repr" = none
  bool : mg "bool" = none
end RS

set_option Elab.async false
set_option linter.all false
set_option maxRecDepth 100000
set_option maxHeartbeats 4000000
namespace RS
open PySem PySem.Spec PyProof.Rows L2
section
variable {K : PySem.W.Frag} {S : Store} {P : PD} {i j : Int} {x y : Str} {xs ys ds es : List D} {l : Addr} {d : D}
theorem u_neg (k : P (.int (-i)) S) : UnG K (rU fun i => .int (-i)) (.int i) S P := fun H v st r Q q => ⟨i, r.intV, q _ S _ H k (.refl st) (.int _)⟩
def tyD : D → Option String
  | .non => some "NoneType"
  | .bl _ => some "bool"
  | .int _ => some "int"
  | .str _ => some "str"
  | .lst _ => some "list"
  | .frz _ => some "list"
  | .tup _ => some "tuple"
  | _ => none
theorem Rp.tyX {Z : Addr → Prop} {H : Hp} {v : V} {d : D} {t : String} (r : Rp K Z H v d) (h : tyD d = some t) (hf : ∀ ns, d ≠ .frz ns) : TyX K H v (.type t) := by
  cases r with
  | non => cases h; exact .base .non
  | bl b => cases h; exact .base (.bl b)
  | int i => cases h; exact .base (.int i)
  | str x => cases h; exact .base (.str x)
  | ref a => cases h
  | ty n => cases h
  | lst e n r => cases h; exact .base (.lst e)
  | frz e n => exact absurd rfl (hf _)
  | frzK e => exact absurd rfl (hf _)
  | tup e n r => cases h; exact .base (.tup e)
  | tupK e r =>
    cases h
    obtain ⟨o, its, n, e1, e2, e3, e4⟩ := e
    exact .kTuple e1 e2
  | obj e n r => cases h
theorem c_isi {T t : String} {b : Bool} (h : tyD d = some t) (hf : ∀ ns, d ≠ .frz ns) (hk : kitB t T = some b) (k : P (.bl b) S) : CbG K (rIsi K) [d, .ty T] S P := fun H vs st r Q q => by
  cases r with
  | cons r1 r2 =>
    cases r2 with
    | cons r2 r3 =>
      cases r3
      have e := r2.tyV
      subst e
      exact ⟨_, _, _, _, b, rfl, .ty T, r1.tyX h hf, kit_ty hk, q _ S _ H k (.refl st) (.bl b)⟩
theorem ty_cellC (hl : S.lookup l = some (.lst ds)) {T : String} {b : Bool} (hk : kitB "list" T = some b) (k : P (.bl b) S) : CbG K (rIsi K) [.ref l, .ty T] S P := fun H vs st r Q q => by
  cases r with
  | cons r1 r2 =>
    cases r2 with
    | cons r2 r3 =>
      cases r3
      have e := r2.tyV
      subst e
      have e1 := r1.refV
      subst e1
      obtain ⟨xs, hx, rx⟩ := st.ok l _ (lookup_mem hl)
      exact ⟨_, _, _, _, b, rfl, .ty T, .base (.lst hx), kit_ty hk, q _ S _ H k (.refl st) (.bl b)⟩
end
theorem cr_isi {X : Cx} : CallR X (.builtin "isinstance") (rIsi X.K) := call_isi
/-! ### the box of draws -/
def bx (w s c : Int) : Cell := .lst [.int w, .int s, .int c]
def BoxAt (S : Store) (b : Addr) : Prop := ∃ w s c, S.lookup b = some (bx w s c)
theorem BoxAt.put {S : Store} {b : Addr} (h : BoxAt S b) (w s c : Int) : BoxAt (setC S b (bx w s c)) b := by
  obtain ⟨w0, s0, c0, e⟩ := h
  exact ⟨w, s, c, lookup_setC e⟩
theorem BoxAt.cons {S : Store} {b l : Addr} {c : Cell} (h : BoxAt S b) (n : ¬ dom S l) : BoxAt ((l, c) :: S) b := by
  obtain ⟨w0, s0, c0, e⟩ := h
  have hne : b ≠ l := fun z => n (z ▸ dom_of_lookup e)
  refine ⟨w0, s0, c0, ?_⟩
  rw [List.lookup_cons, beq_eq_false_iff_ne.mpr hne]
  exact e
theorem setC_cons {S : Store} {b l : Addr} {c c' : Cell} (h : l ≠ b) : setC ((l, c) :: S) b c' = (l, c) :: setC S b c' := by
  unfold setC
  rw [List.map_cons, if_neg h]
theorem BoxAt.ne {S : Store} {b l : Addr} (h : BoxAt S b) (n : ¬ dom S l) : l ≠ b := by
  obtain ⟨w0, s0, c0, e⟩ := h
  exact fun z => n (z ▸ dom_of_lookup e)
def spBox (lim : Int) : SpG := fun ds S P => ∃ ns k own, ds = [.frz ns, .int k, .int own] ∧ 0 ≤ k ∧ k < 1000 ∧ 0 ≤ own ∧ own < 1000 ∧ ∀ l w s c, ¬ dom S l → P (.ref l) ((l, bx w s c) :: S)
def spTake (lim : Int) : SpG := fun ds S P => ∃ b m, ds = [.ref b, .int m] ∧ BoxAt S b ∧ 0 < m ∧ m < lim ∧ ∀ r w s c, 0 ≤ r → r < m → P (.int r) (setC S b (bx w s c))
def spPick : SpG := fun ds S P => ∃ b its, ds = [.ref b, .lst its] ∧ BoxAt S b ∧ 0 < its.length ∧ its.length < 1000 ∧ ∀ (i : Nat) d w s c, its[i]? = some d → P d (setC S b (bx w s c))
theorem mono_box {lim : Int} : ∀ xs S1 (P P' : PD), spBox lim xs S1 P → (∀ d S', P d S' → P' d S') → spBox lim xs S1 P' := fun xs S1 P P' ⟨ns, k, own, h1, h2, h3, h4, h5, h6⟩ m => ⟨ns, k, own, h1, h2, h3, h4, h5, fun l w s c n => m _ _ (h6 l w s c n)⟩
theorem mono_take {lim : Int} : ∀ xs S1 (P P' : PD), spTake lim xs S1 P → (∀ d S', P d S' → P' d S') → spTake lim xs S1 P' := fun xs S1 P P' ⟨b, k, h1, h2, h3, h4, h5⟩ m => ⟨b, k, h1, h2, h3, h4, fun l w s c n n2 => m _ _ (h5 l w s c n n2)⟩
theorem mono_pick : ∀ xs S1 (P P' : PD), spPick xs S1 P → (∀ d S', P d S' → P' d S') → spPick xs S1 P' := fun xs S1 P P' ⟨b, k, h1, h2, h3, h4, h5⟩ m => ⟨b, k, h1, h2, h3, h4, fun l w s c n n2 => m _ _ (h5 l w s c n n2)⟩
def spLaw : SpG := fun ds S P => ∃ ns : List Int, ds = [.frz ns] ∧ S = [] ∧ ns.length ≤ 63 ∧ ∀ S', P (.bl true) S'
end RS
/-! ### the rules with the written part told -/
namespace RS
open PySem PySem.Spec PyProof.Rows L2
section
variable {X : Cx}
theorem op_addK (K : PySem.W.Frag) (h : X.K = K := by rfl) : OpR X (binaryOp .Add) (rAddU K) := h ▸ op_addU
theorem op_eqK (K : PySem.W.Frag) (hu : X.A.units + 64 < cLine) (h : X.K = K := by rfl) : OpR X (compareOp .Eq) (rEqU K) := h ▸ op_eqU hu
theorem op_neK (K : PySem.W.Frag) (hu : X.A.units + 64 < cLine) (h : X.K = K := by rfl) : OpR X (compareOp .NotEq) (rNeU K) := h ▸ op_neU hu
theorem ix_K (K : PySem.W.Frag) (h : X.K = K := by rfl) : IxR X (rIxU K) := h ▸ ix_U
theorem cr_lenK (K : PySem.W.Frag) (h : X.K = K := by rfl) : CallR X (.builtin "len") (cLen K) := h ▸ cr_len
theorem cr_maxK (K : PySem.W.Frag) (hc : X.calm = true := by rfl) (h : X.K = K := by rfl) : CallR X (.builtin "max") (cMax K) := h ▸ cr_maxU hc
theorem cr_minK (K : PySem.W.Frag) (hc : X.calm = true := by rfl) (h : X.K = K := by rfl) : CallR X (.builtin "min") (cMin K) := h ▸ cr_minU hc
theorem cr_listK (K : PySem.W.Frag) (h : X.K = K := by rfl) : CallR X (.type "list") (cList K) := h ▸ cr_list
theorem cr_tupleK (K : PySem.W.Frag) (h : X.K = K := by rfl) : CallR X (.type "tuple") (cTuple K) := h ▸ cr_tuple
theorem cr_isiK (K : PySem.W.Frag) (h : X.K = K := by rfl) : CallR X (.builtin "isinstance") (rIsi K) := h ▸ cr_isi
theorem pi_seqK (K : PySem.W.Frag) {tg l : Expr} {tl : TE} (hl : PE X l tl) (h : X.K = K := by rfl) : PI X tg l (iSeq K tl) := h ▸ pi_seq hl
theorem pi_enumK (K : PySem.W.Frag) {e : Expr} {ta : TA} {p pos tpos : Pos} {elts : List Expr} {kk : Nat} (hg : Gl X "enumerate") (hm : X.mg "enumerate" = none) (ha : PA X [e] ta) (h : X.K = K := by rfl) (hs : starEach [e] X.env = [(false, eval e X.env)] := by rfl) :
    PI X (.Tuple elts kk tpos) (.Call (.Name "enumerate" p) [e] [] pos) (iEnumU K ta) := h ▸ pi_enumU hg hm ha hs
theorem pg_tupK (K : PySem.W.Frag) {es : List Expr} {k : Nat} {t : TGs} {n : Nat} {pos : Pos} (hc : X.calm = true) (ht : PGs X es t) (h : X.K = K := by rfl)
    (hn : (assignEach es X.env).length = n := by rfl) (hst : (assignEach es X.env).findIdx? (·.1) = none := by rfl) : PG X (.Tuple es k pos) (gTup K n t) := h ▸ pg_tup hc ht hn hst
theorem pe_fldK (K : PySem.W.Frag) {e : Expr} {ta : TE} {f : Str} {pos : Pos} (he : PE X e ta) (hb : attributeBase e f X.env (eval e X.env) = eval e X.env) (h : X.K = K := by rfl) : PE X (.Attribute e f pos) (tFld K ta f) := h ▸ pe_fld he hb
theorem pe_bmK (K : PySem.W.Frag) {T id : String} {name : Str} {r : V → List V → Hp → VK → Prop} {o e : Expr} {es : List Expr} {to : TE} {t : TA} {apos cpos : Pos} (pa : PlainAttrs T) (slot : Slot T name id) (hty : typeOf (.builtin id) = pure (.type "method_descriptor")) (hm : MtR X id r) (ho : PE X o to) (ha : PA X (e :: es) t) (h : X.K = K := by rfl)
    (hbase : attributeBase o name X.env (eval o X.env) = eval o X.env := by rfl)
    (hfew : ((backTo cpos (starEach (e :: es) X.env)).all (fun x => !x.1) && (backToKw cpos (keywordEach [] X.env)).all (fun x => x.1.isSome)
      && decide ((e :: es).length + ([] : List Keyword).length + (if ([] : List Keyword).isEmpty then 0 else 1) < 30)) = true := by rfl)
    (hline : (apos.endLine == cpos.line) = true := by rfl) (hs : starEach (e :: es) X.env = (false, eval e X.env) :: starEach es X.env := by rfl) (hplain : (backTo cpos (starEach es X.env)).any (·.1) = false := by rfl) :
    PE X (.Call (.Attribute o name apos) (e :: es) [] cpos) (tBM K T r to t) := h ▸ pe_bm pa slot hty hm ho ha hbase hfew hline hs hplain
theorem pe_bm0K (K : PySem.W.Frag) {T id : String} {name : Str} {r : V → List V → Hp → VK → Prop} {o : Expr} {to : TE} {apos cpos : Pos} (pa : PlainAttrs T) (slot : Slot T name id) (hty : typeOf (.builtin id) = pure (.type "method_descriptor")) (hm : MtR X id r) (ho : PE X o to) (h : X.K = K := by rfl)
    (hbase : attributeBase o name X.env (eval o X.env) = eval o X.env := by rfl) (hline : (apos.endLine == cpos.line) = true := by rfl) : PE X (.Call (.Attribute o name apos) [] [] cpos) (tBM0 K T r to) := h ▸ pe_bm0 pa slot hty hm ho hbase hline
theorem pe_callQ {P : Program} {w : World} (K : PySem.W.Frag) {mg : Str → Option Value} {base : Heap} {k : Nat} {ps : List Str} {g : SpG} {x : Str} {p pos : Pos} {e : Expr} {es : List Expr} {t : TA} (c : Cal P w K mg base x ps k g) (hr : Room k X.A) (hg : Gl X x) (ha : PA X (e :: es) t)
    (h : X.K = K := by rfl) (h1 : X.prog = P := by rfl) (h2 : X.w = w := by rfl) (h3 : X.mg = mg := by rfl) (h4 : X.base = base := by rfl)
    (hdb : (x == ("__debug__" : Str)) = false := by decide) (he : starEach (e :: es) X.env = (false, eval e X.env) :: starEach es X.env := by rfl) (hpl : (backTo pos (starEach es X.env)).any (·.1) = false := by rfl) :
    PE X (.Call (.Name x p) (e :: es) [] pos) (tCall (spOf K g) [] E0 t) := by
  subst h h1 h2 h3 h4
  exact pe_callC c hr hg ha hdb he hpl
theorem pe_callQ0 {P : Program} {w : World} (K : PySem.W.Frag) {mg : Str → Option Value} {base : Heap} {k : Nat} {ps : List Str} {g : SpG} {x : Str} {p pos : Pos} (c : Cal P w K mg base x ps k g) (hr : Room k X.A) (hg : Gl X x)
    (h : X.K = K := by rfl) (h1 : X.prog = P := by rfl) (h2 : X.w = w := by rfl) (h3 : X.mg = mg := by rfl) (h4 : X.base = base := by rfl)
    (hdb : (x == ("__debug__" : Str)) = false := by decide) : PE X (.Call (.Name x p) [] [] pos) (tCall (spOf K g) [] E0 tNil) := by
  subst h h1 h2 h3 h4
  exact pe_callC0 c hr hg hdb
end
end RS
namespace RS
open PySem PySem.Spec PyProof.Rows L2
theorem br_t {A B : Prop} (h : A) : (true = true → A) ∧ (true = false → B) := ⟨fun _ => h, fun z => by cases z⟩
theorem br_f {A B : Prop} (h : B) : (false = true → A) ∧ (false = false → B) := ⟨fun z => (by cases z), fun _ => h⟩
theorem br_nt {A B : Prop} (h : B) : ((!true) = true → A) ∧ ((!true) = false → B) := br_f h
theorem br_nf {A B : Prop} (h : A) : ((!false) = true → A) ∧ ((!false) = false → B) := br_t h
/-- an undecided test over a proposition -/
theorem br_d {p : Prop} [Decidable p] {A B : Prop} (h1 : p → A) (h2 : ¬ p → B) : (decide p = true → A) ∧ (decide p = false → B) := ⟨fun h => h1 (of_decide_eq_true h), fun h => h2 (of_decide_eq_false h)⟩
theorem br_n {p : Prop} [Decidable p] {A B : Prop} (h1 : ¬ p → A) (h2 : p → B) : ((!decide p) = true → A) ∧ ((!decide p) = false → B) := by
  by_cases h : p
  · rw [decide_eq_true h]; exact br_f (h2 h)
  · rw [decide_eq_false h]; exact br_t (h1 h)
theorem setC_setC {S : Store} {a : Addr} {c c' : Cell} : setC (setC S a c) a c' = setC S a c' := by
  unfold setC
  rw [List.map_map]
  apply List.map_congr_left
  intro p _
  show (if (if p.1 = a then (a, c) else p).1 = a then (a, c') else (if p.1 = a then (a, c) else p)) = if p.1 = a then (a, c') else p
  by_cases h : p.1 = a
  · rw [if_pos h, if_pos rfl, if_pos h]
  · rw [if_neg h, if_neg h]
section
variable {K : PySem.W.Frag} {S S' : Store} {G G' : Env'} {N : EndsD} {t u : TS}
theorem x_mono {M M' : Env' → Store → Prop} (h : ExG K t G S (N.nxt M)) (k : ∀ G' S', M G' S' → M' G' S') : ExG K t G S (N.nxt M') := fun σ H E e f =>
  h σ H E e ⟨fun G1 S1 σ1 H1 n s e1 => f.nx G1 S1 σ1 H1 (k _ _ n) s e1, f.rt, f.bk, f.ct⟩
/-- a word between a statement and what follows -/
theorem x_cut (M : Env' → Store → Prop) (h1 : ExG K t G S (N.nxt M)) (h2 : ∀ G' S', M G' S' → ExG K u G' S' N) : ExG K (tSeq t u) G S N := x_seq (x_mono h1 h2)
end
end RS
namespace RS
open PySem PySem.Spec PyProof.Rows L2
/-! ### lists that will be changed: the same readings by other names -/
def tLstC (t : TA) : TE := tLst t
def tLcC (wi : TI) (g : TG) (tt : TT) (te : TE) (vs : List Nat) : TE := tLc wi g tt te vs
def cListC (K : PySem.W.Frag) : List V → Hp → VK → Prop := cList K
section
variable {X : Cx}
theorem pe_lstC {es : List Expr} {t : TA} {pos : Pos} (h : PE X (.List es pos) (tLst t)) : PE X (.List es pos) (tLstC t) := h
theorem ps_lcC {st : Stmt} {wi : TI} {g : TG} {tt : TT} {te : TE} {vs : List Nat} {i : Nat} (h : PS X st (tAsg (tLc wi g tt te vs) (gName i))) : PS X st (tAsg (tLcC wi g tt te vs) (gName i)) := h
theorem pe_lcC {e : Expr} {wi : TI} {g : TG} {tt : TT} {te : TE} {vs : List Nat} (h : PE X e (tLc wi g tt te vs)) : PE X e (tLcC wi g tt te vs) := h
theorem cr_listCK (K : PySem.W.Frag) (h : X.K = K := by rfl) : CallR X (.type "list") (cListC K) := cr_listK K h
end
section
variable {K : PySem.W.Frag} {S : Store} {G : Env'} {P : PD}
theorem g_lstD {t : TA} (h : EvA K t G S fun xs S1 => xs.length ≤ 100000 ∧ ∀ l, ¬ dom S1 l → P (.ref l) ((l, .lst xs) :: S1)) : EvG K (tLstC t) G S P := g_lstC h
theorem g_lcD {wi : TI} {g : TG} {tt : TT} {te : TE} {vs : List Nat} (wo : WipeOk g vs)
    (h : IG K wi G S fun its S1 => its.length ≤ 100000 ∧ ∃ W : Nat → List D → Store → Prop, W 0 [] S1 ∧
      (∀ i d ds S' l, its[i]? = some d → W i ds S' → ¬ dom S' l → TgG K g d (wipeG G vs) ((l, .lst ds) :: S') fun G2 S2 => EvT K tt G2 S2 fun b S3 =>
        (b = true → EvG K te G2 S3 fun y S4 => ∃ S5, S4 = (l, .lst ds) :: S5 ∧ W (i + 1) (ds ++ [y]) S5) ∧ (b = false → ∃ S5, S3 = (l, .lst ds) :: S5 ∧ W (i + 1) ds S5)) ∧
      ∀ ds S' l, W its.length ds S' → ¬ dom S' l → P (.ref l) ((l, .lst ds) :: S')) : EvG K (tLcC wi g tt te vs) G S P := g_lcC wo h
theorem c_listC {d : D} {ds : List D} (hd : d = .lst ds ∨ d = .tup ds) (k : ∀ l, ¬ dom S l → P (.ref l) ((l, .lst ds) :: S)) : CbG K (cListC K) [d] S P := fun H vs st r Q q => by
  cases r with
  | cons r1 r2 =>
    cases r2
    rcases hd with rfl | rfl
    · obtain ⟨a, xs, e, hs, ra⟩ := r1.lstV
      subst e
      refine ⟨a, xs, rfl, .inl (SqL.of hs), fun p hp => ?_⟩
      exact q _ _ _ _ (k p (st.nodom hp)) (.cell st hp ⟨xs, upd_same, ra.lift (Lift.newCell hp)⟩) (.ref p)
    · obtain ⟨a, xs, e, hs, ra⟩ := r1.tupV
      subst e
      refine ⟨a, xs, rfl, .inr hs, fun p hp => ?_⟩
      exact q _ _ _ _ (k p (st.nodom hp)) (.cell st hp ⟨xs, upd_same, ra.lift (Lift.newCell hp)⟩) (.ref p)
end
end RS
namespace RS
open PySem PySem.Spec PyProof.Rows L2
theorem law_start {K : PySem.W.Frag} (H : Hp) (a : Addr) (ns : List Int) (hl : ns.length ≤ 63) (hO : L2.Only H) (hS : SqL K H a (ns.map V.int)) : spOf K spLaw [.ref a] H (fun v _ => v = .bl true) fun _ _ _ => False := by
  refine ⟨[.frz ns], [], ⟨List.nodup_nil, fun _ _ m => by cases m⟩, .cons ?_ .nil, ns, rfl, rfl, hl, fun S' v H' _ r => r.blV⟩
  rcases hS with (h | ⟨o, h⟩) | h
  · rcases hO a with e | ⟨o, xs, e⟩
    · rw [e] at h; cases h
    · rw [e] at h; cases h
  · exact .frz h fun z => by cases z
  · exact .frzK fun _ => .inr h
/-! ### == of plain data -/
def PyOk (k : Nat) (d : D) : Prop := ∃ p, toPy d = some p ∧ p.canLay0 = true ∧ p.depth ≤ k
theorem PyOk.int {k : Nat} (i : Int) : PyOk k (.int i) := ⟨.int i, rfl, rfl, Nat.zero_le _⟩
theorem pys_ok {k : Nat} : ∀ {ds : List D}, (∀ d ∈ ds, PyOk k d) → ∃ ps, toPys ds = some ps ∧ PyData.canLayAll0 ps = true ∧ PyData.depthAll ps ≤ k
  | [], _ => ⟨[], rfl, rfl, Nat.zero_le _⟩
  | d :: ds, h => by
    obtain ⟨p, h1, h2, h3⟩ := h d List.mem_cons_self
    obtain ⟨ps, h4, h5, h6⟩ := pys_ok (ds := ds) fun x hx => h x (List.mem_cons_of_mem _ hx)
    refine ⟨p :: ps, ?_, ?_, ?_⟩
    · unfold toPys; rw [h1, h4]; rfl
    · unfold PyData.canLayAll0; rw [h2, h5]; rfl
    · unfold PyData.depthAll; omega
theorem PyOk.tup {k : Nat} {ds : List D} (h : ∀ d ∈ ds, PyOk k d) : PyOk (k + 1) (.tup ds) := by
  obtain ⟨ps, h1, h2, h3⟩ := pys_ok h
  refine ⟨.tuple ps, ?_, ?_, ?_⟩
  · unfold toPy; rw [h1]; rfl
  · unfold PyData.canLay0; exact h2
  · unfold PyData.depth; omega
theorem PyOk.lst {k : Nat} {ds : List D} (h : ∀ d ∈ ds, PyOk k d) : PyOk (k + 1) (.lst ds) := by
  obtain ⟨ps, h1, h2, h3⟩ := pys_ok h
  refine ⟨.list ps, ?_, ?_, ?_⟩
  · unfold toPy; rw [h1]; rfl
  · unfold PyData.canLay0; exact h2
  · unfold PyData.depth; omega
theorem shaped_of {p : PyData} {k : Nat} (h1 : p.canLay0 = true) (h2 : p.depth ≤ k) (h3 : k ≤ 64) : SeqAt.shaped p = true := by
  unfold SeqAt.shaped
  rw [h1, decide_eq_true (Nat.le_trans h2 h3)]
  rfl
section
variable {K : PySem.W.Frag} {S : Store} {P : PD} {d : D}
theorem o_neSelf {k : Nat} (h : PyOk k d) (hk : k ≤ 64) (q : P (.bl false) S) : OpG K (rNeU K) d d S P := by
  obtain ⟨p, h1, h2, h3⟩ := h
  refine o_neD h1 h1 (shaped_of h2 h3 hk) (shaped_of h2 h3 hk) ?_
  rw [SeqAt.eqv_refl p h2]
  exact q
theorem o_eqSelf {k : Nat} (h : PyOk k d) (hk : k ≤ 64) (q : P (.bl true) S) : OpG K (rEqU K) d d S P := by
  obtain ⟨p, h1, h2, h3⟩ := h
  refine o_eqD h1 h1 (shaped_of h2 h3 hk) (shaped_of h2 h3 hk) ?_
  rw [SeqAt.eqv_refl p h2]
  exact q
end
end RS

set_option Elab.async false
set_option linter.all false
set_option maxRecDepth 100000
set_option maxHeartbeats 4000000
/-! Promises of defs that are called where no repr is under way (so that repr of data is told exactly). -/
namespace RS
open PySem PySem.Spec PyProof.Rows L2
/-- no guard is set around -/
abbrev Gd (A : Around) : Prop := A.guards = some []
structure FnA (P : Program) (w : World) (K : PySem.W.Frag) (mg : Str → Option Value) (base : Heap) (CX : CXT) (k : Nat) (f : Addr) (fd : FuncData) (ps : List Str) (sp : Sp) : Prop where
  len : ∀ vs H Q E, sp vs H Q E → vs.length = ps.length
  run : ∀ (A : Around) (outer : List Env) (s : Shared) (H : Hp) (args : Args) (us : List Value) (vs : List V) (Q : VK) (E : XK), Gd A → Room k A → Env0 P w K mg base A outer s H → BindsTo s fd args (ps.zip us) → Vals vs us → sp vs H Q E →
    codeAny (model P w) A (.call (.ref f) args) (CR CX outer P w H s Q E) s
section
variable {P : Program} {w : World} {K : PySem.W.Frag} {mg : Str → Option Value} {base : Heap} {CX : CXT}
theorem FnA.mono {j k : Nat} {f : Addr} {fd : FuncData} {ps : List Str} {sp : Sp} (F : FnA P w K mg base CX j f fd ps sp) (h : j ≤ k) : FnA P w K mg base CX k f fd ps sp :=
  ⟨F.len, fun A outer s H args us vs Q E hG hr => F.run A outer s H args us vs Q E hG (hr.mono h)⟩
/-- a def's promise by its body -/
theorem fnA_body {x qual : Str} {params : Arguments} {body : List Stmt} {scope : Scope} {dvs : List V} {kws : List (Str × V)} {f : Addr} {fd : FuncData} {N ps : List Str} {k : Nat} {sp : Sp} (F : FunD K x qual params body scope dvs kws f fd) (S : FnScope N ps scope)
    (len : ∀ vs H Q E, sp vs H Q E → vs.length = ps.length)
    (hbody : ∀ (cdv : Value) (A : Around) (outer : List Env) (s : Shared) (H : Hp) (vs : List V) (Q : VK) (E : XK), Gd (A.deeper (envOfC qual scope s.heap.objs.size f cdv)) → Room k (A.deeper (envOfC qual scope s.heap.objs.size f cdv)) → sp vs H Q E →
      ∃ t, PSs (cxOf CX P w K mg base N qual scope f cdv A outer s H E) body t ∧ t { nx := fun _ H' => Q .non H', rt := Q } (L2.start N vs) H) : FnA P w K mg base CX (k + 1) f fd ps sp := by
  obtain ⟨oc, od, dV, kV, doc, pm, an, cdv, ct, osl, rfl, lk, hcd, _, _⟩ := F.ex
  refine ⟨len, fun A outer s H args us vs Q E hG hr e0 hb r hsp => ?_⟩
  have kin : K.In s.heap := e0.mod.kin.keeps fun b o e => (e0.bs b o e).1
  have nolim : s.heap.NoLimit := e0.mod.nolimit.keeps fun b o e => (e0.bs b o e).1
  refine codeAny_call_function hr.depth (kin _ _ lk) rfl S.co S.gen rfl (PySem.W.codeRec_of kin hcd) (hb _ _ _ _ (wpAny_newFunctionEnv_cells S.kind (fun ⟨n, v⟩ hy => (S.par n (List.of_mem_zip hy).1).elim .inl fun q => .inr ⟨q, PySem.W.cellsFrom_some _ _ _ (.inl q)⟩) fun env he s1 x => ?_))
  subst he
  obtain ⟨t, ht, hq⟩ := hbody cdv A outer s H vs Q E hG (hr.deeper _) hsp
  refine ⟨nolim.keeps x.toInCall.keep, codeAny_func (wpAny_mono (ht.run [] s1 (L2.start N vs) H _ (inv_start S hr.hd e0 (len _ _ _ _ hsp) r x) hq) (fun fl s' hs => ?_) fun e s' hs => hs)⟩
  cases fl with
  | ret u => exact let ⟨v, σ', H', J, rv, q⟩ := hs; ⟨v, H', J.os, J.bare, J.base, J.hok, rv, q⟩
  | next => exact let ⟨σ', H', J, q⟩ := hs; ⟨.non, H', J.os, J.bare, J.base, J.hok, rfl, q⟩
  | brk => exact let ⟨_, _, _, q⟩ := hs; q.elim
  | cont => exact let ⟨_, _, _, q⟩ := hs; q.elim
end
section
variable {X : Cx} {pins : List (Addr × Obj)} {σ : L2.St} {H : Hp} {s : Shared} {Q : VK}
/-- a call at or below the body at hand -/
theorem runA {A : Around} {n : Nat} {f : Addr} {fd : FuncData} {ps : List Str} {sp : Sp} {us ds : List Value} {vs dvs : List V} (F : FnA X.prog X.w X.K X.mg X.base CX0 n f fd ps sp) (sb : Sub X n A) (hG : Gd A) (hb : Binds X.K fd ps ds) (hd : Vals dvs ds)
    (I : Inv X pins σ H s) (r : Vals vs us) (h : sp (vs ++ dvs) H Q E0) : codeAny (model X.prog X.w) A (.call (.ref f) ⟨us, []⟩) (fun r s' => match r with | .ok (.ret u) => EP X pins σ Q u s' | _ => False) s := by
  have e := I.env0
  have r2 : Vals (vs ++ dvs) (us ++ ds) := r.append hd
  have hl : (us ++ ds).length = ps.length := by rw [← r2.length]; exact F.len _ _ _ _ h
  refine codeAny_mono (F.run A X.stack s H ⟨us, []⟩ (us ++ ds) (vs ++ dvs) Q E0 hG sb.room ⟨by rw [sb.fr]; exact e.frames, e.mod, e.bs, e.bsz, e.funs, e.frf, e.hok, e.bare⟩ (hb s us I.kIn hl) r2 h) fun r s' hq => ?_
  cases r with
  | error e => exact False.elim hq
  | ok fl =>
    cases fl with
    | ret w => exact I.after hq
    | next => exact False.elim hq
    | brk => exact False.elim hq
    | cont => exact False.elim hq
theorem runA' {A : Around} {n : Nat} {f : Addr} {fd : FuncData} {ps : List Str} {sp : Sp} {us ds : List Value} {vs dvs : List V} (F : FnA X.prog X.w X.K X.mg X.base CX0 n f fd ps sp) (sb : Sub X n A) (hG : Gd A) (hb : Binds X.K fd ps ds) (hd : Vals dvs ds)
    (I : Inv X pins σ H s) (r : Vals vs us) (h : sp (vs ++ dvs) H Q E0) {E : Value → Shared → Prop} : wpAny (model X.prog X.w) A (call (.ref f) us) (EP X pins σ Q) E s := by
  refine wpAny_call (codeAny_mono (runA F sb hG hb hd I r h) fun r s' hq => ?_)
  cases r with
  | error e => exact False.elim hq
  | ok fl =>
    cases fl with
    | ret w => exact hq
    | next => exact False.elim hq
    | brk => exact False.elim hq
    | cont => exact False.elim hq
theorem Room.sub {k : Nat} (hr : Room k X.A) : Sub X k X.A := ⟨hr, rfl⟩
theorem gd_make {A : Around} (h : Gd A) (C : Addr) (us : List Value) (kw : List (Str × Value)) : Gd (A.under (.builtin "type.__call__" ⟨.ref C :: us, kw⟩)) := by
  have e : (Code.builtin "type.__call__" ⟨.ref C :: us, kw⟩).guards = [] := by
    first | rfl | (unfold Code.guards; rw [if_neg (by decide)])
  show pushGuards (Code.builtin "type.__call__" ⟨.ref C :: us, kw⟩).guards A.guards = some []
  rw [e, h]
  rfl
/-- an instance made -/
theorem makeA {C f : Addr} {k : Nat} {fd : FuncData} {ps : List Str} {sp : Sp} {us ds : List Value} {vs dvs : List V} (M : Mk X.K C f) (F : FnA X.prog X.w X.K X.mg X.base CX0 k f fd ps sp) (hr : Room (k + 1) X.A) (hG : Gd X.A) (hb : Binds X.K fd ps ds) (hd : Vals dvs ds)
    (I : Inv X pins σ H s) (r : Vals vs us) (h : ∀ x dx, H x = none → H dx = none → dx ≠ x → sp (.ref x :: (vs ++ dvs)) (upd (upd H dx (.own x)) x (.ins C dx [])) (fun v H2 => v = .non ∧ Q (.ref x) H2) E0) :
    wpAny (model X.prog X.w) X.A (call (.ref C) us) (EP X pins σ Q) X.xe s := by
  have hq := h (s.heap.objs.size + 1) s.heap.objs.size (I.hok.fresh (Nat.le_succ _)) (I.hok.fresh (Nat.le_refl _)) (Nat.ne_of_lt (Nat.lt_succ_self _))
  have I2 := Inv.made (C := C) I
  have r2 : Vals (V.ref (s.heap.objs.size + 1) :: (vs ++ dvs)) (Value.ref (s.heap.objs.size + 1) :: (us ++ ds)) := .cons rfl (r.append hd)
  refine wpAny_call (make_map (f := f) I.kIn M.makes M.init (beq_iff_eq.mp M.fn) (codeAny_mono (F.run _ X.stack _ _ ⟨Value.ref (s.heap.objs.size + 1) :: us, []⟩ (Value.ref (s.heap.objs.size + 1) :: (us ++ ds)) _ _ E0 (gd_make hG C us []) (hr.make C us [])
    (I2.env0.make C us []) (hb _ (Value.ref (s.heap.objs.size + 1) :: us) I2.kIn (by have e := r2.length; rw [F.len _ _ _ _ hq] at e; exact e.symm)) r2 hq) fun r s' hq' => ?_))
  cases r with
  | error e => exact False.elim hq'
  | ok fl =>
    cases fl with
    | ret u =>
      obtain ⟨v, H', I3, rv, ev, q3⟩ := I2.after hq'
      subst ev
      exact ⟨rv, ⟨V.ref (s.heap.objs.size + 1), H', I3, rfl, q3⟩⟩
    | next => exact False.elim hq'
    | brk => exact False.elim hq'
    | cont => exact False.elim hq'
end
/-- to the library's ends: only the law's own call matters there -/
theorem fnA_law {P : Program} {w : World} {K : PySem.W.Frag} {mg : Str → Option Value} {base : Heap} {k : Nat} {f : Addr} {fd : FuncData} {ps : List Str} {sp : Sp} (F : FnA P w K mg base CX0 k f fd ps sp) (outer : List Env) (s : Shared) (H : Hp) (args : Args) (us : List Value) (vs : List V) (Q : VK) (E : XK)
    (hr : Room k callerA) (e : Env0 P w K mg base callerA outer s H) (hb : BindsTo s fd args (ps.zip us)) (r : Vals vs us) (h : sp vs H Q E) : codeAny (model P w) callerA (.call (.ref f) args) (CR CX0 outer P w H s Q E) s :=
  F.run callerA outer s H args us vs Q E rfl hr e hb r h
end RS

set_option Elab.async false
set_option linter.all false
set_option maxRecDepth 100000
set_option maxHeartbeats 4000000
/-! The functional layer: data Dt with numbered cells; what a def computes as a Lean function. -/
namespace RX
open PySem PySem.Spec PyProof.Rows L2 RS
/-! ### data -/
inductive Dt where
  | non | bl (b : Bool) | int (i : Int) | str (x : Str) | lst (xs : List Dt) | tup (xs : List Dt) | obj (c : Nat) (fs : List (Str × Dt)) | loc (n : Nat) | ty (n : String) | cls (c : Nat) | frz (ns : List Int)
inductive Xc where
  | lst (xs : List Dt)
  | ins (c : Nat) (fs : List (Str × Dt))
  | dK (kvs : List (Key × Dt))
  | dT (kvs : List (List Key × Dt))
abbrev Xs := List Xc
abbrev Xe := List (Option Dt)
mutual
inductive RD (κ : Nat → Addr) (ρ : List Addr) : Dt → D → Prop
  | non : RD κ ρ .non .non
  | bl (b : Bool) : RD κ ρ (.bl b) (.bl b)
  | int (i : Int) : RD κ ρ (.int i) (.int i)
  | str (x : Str) : RD κ ρ (.str x) (.str x)
  | ty (n : String) : RD κ ρ (.ty n) (.ty n)
  | frz (ns : List Int) : RD κ ρ (.frz ns) (.frz ns)
  | cls (c : Nat) : RD κ ρ (.cls c) (.ref (κ c))
  | loc {n : Nat} {a : Addr} : ρ[n]? = some a → RD κ ρ (.loc n) (.ref a)
  | lst {xs : List Dt} {ds : List D} : RDs κ ρ xs ds → RD κ ρ (.lst xs) (.lst ds)
  | tup {xs : List Dt} {ds : List D} : RDs κ ρ xs ds → RD κ ρ (.tup xs) (.tup ds)
  | obj {c : Nat} {fs : List (Str × Dt)} {gs : List (Str × D)} : RDF κ ρ fs gs → RD κ ρ (.obj c fs) (.obj (κ c) gs)
inductive RDs (κ : Nat → Addr) (ρ : List Addr) : List Dt → List D → Prop
  | nil : RDs κ ρ [] []
  | cons {x : Dt} {xs : List Dt} {d : D} {ds : List D} : RD κ ρ x d → RDs κ ρ xs ds → RDs κ ρ (x :: xs) (d :: ds)
inductive RDF (κ : Nat → Addr) (ρ : List Addr) : List (Str × Dt) → List (Str × D) → Prop
  | nil : RDF κ ρ [] []
  | cons {f : Str} {x : Dt} {fs : List (Str × Dt)} {d : D} {gs : List (Str × D)} : RD κ ρ x d → RDF κ ρ fs gs → RDF κ ρ ((f, x) :: fs) ((f, d) :: gs)
end
section
variable {κ : Nat → Addr} {ρ ρ' ρ1 : List Addr}
theorem pre_get {n : Nat} {a : Addr} (h : ρ <+: ρ') (e : ρ[n]? = some a) : ρ'[n]? = some a := by
  obtain ⟨r, rfl⟩ := h
  rw [List.getElem?_append_left (List.getElem?_eq_some_iff.mp e).1]
  exact e
mutual
theorem RD.mono (h : ρ <+: ρ') : ∀ {x : Dt} {d : D}, RD κ ρ x d → RD κ ρ' x d
  | _, _, .non => .non
  | _, _, .bl b => .bl b
  | _, _, .int i => .int i
  | _, _, .str x => .str x
  | _, _, .ty n => .ty n
  | _, _, .frz n => .frz n
  | _, _, .cls c => .cls c
  | _, _, .loc e => .loc (pre_get h e)
  | _, _, .lst r => .lst (RDs.mono h r)
  | _, _, .tup r => .tup (RDs.mono h r)
  | _, _, .obj r => .obj (RDF.mono h r)
theorem RDs.mono (h : ρ <+: ρ') : ∀ {x : List Dt} {d : List D}, RDs κ ρ x d → RDs κ ρ' x d
  | _, _, .nil => .nil
  | _, _, .cons a b => .cons (RD.mono h a) (RDs.mono h b)
theorem RDF.mono (h : ρ <+: ρ') : ∀ {x : List (Str × Dt)} {d : List (Str × D)}, RDF κ ρ x d → RDF κ ρ' x d
  | _, _, .nil => .nil
  | _, _, .cons a b => .cons (RD.mono h a) (RDF.mono h b)
end
theorem RDs.length : ∀ {x : List Dt} {d : List D}, RDs κ ρ x d → x.length = d.length
  | _, _, .nil => rfl
  | _, _, .cons _ b => congrArg (· + 1) b.length
theorem RDs.append : ∀ {x y : List Dt} {d e : List D}, RDs κ ρ x d → RDs κ ρ y e → RDs κ ρ (x ++ y) (d ++ e)
  | _, _, _, _, .nil, s => s
  | _, _, _, _, .cons a b, s => .cons a (RDs.append b s)
theorem RDs.get : ∀ {xs : List Dt} {ds : List D} {i : Nat} {x : Dt}, RDs κ ρ xs ds → xs[i]? = some x → ∃ d, ds[i]? = some d ∧ RD κ ρ x d
  | _, _, _, _, .nil, e => by simp at e
  | _, _, 0, _, .cons r _, e => by simp at e; subst e; exact ⟨_, rfl, r⟩
  | _, _, i + 1, d, .cons _ t, e => by
    obtain ⟨u, h1, h2⟩ := RDs.get (i := i) (x := d) t (by simpa using e)
    exact ⟨u, by simpa using h1, h2⟩
theorem RDs.getD : ∀ {xs : List Dt} {ds : List D} {i : Nat} {d : D}, RDs κ ρ xs ds → ds[i]? = some d → ∃ x, xs[i]? = some x ∧ RD κ ρ x d
  | _, _, _, _, .nil, e => by simp at e
  | _, _, 0, _, .cons r _, e => by simp at e; subst e; exact ⟨_, rfl, r⟩
  | _, _, i + 1, d, .cons _ t, e => by
    obtain ⟨u, h1, h2⟩ := RDs.getD (i := i) (d := d) t (by simpa using e)
    exact ⟨u, by simpa using h1, h2⟩
theorem RDs.set {x : Dt} {d : D} (r : RD κ ρ x d) : ∀ {xs : List Dt} {ds : List D} (i : Nat), RDs κ ρ xs ds → RDs κ ρ (xs.set i x) (ds.set i d)
  | _, _, _, .nil => .nil
  | _, _, 0, .cons _ t => .cons r t
  | _, _, i + 1, .cons q t => .cons q (RDs.set r i t)
theorem RDs.take : ∀ {xs : List Dt} {ds : List D} (n : Nat), RDs κ ρ xs ds → RDs κ ρ (xs.take n) (ds.take n)
  | _, _, 0, _ => .nil
  | _, _, _ + 1, .nil => .nil
  | _, _, n + 1, .cons r t => .cons r (RDs.take n t)
theorem RDs.drop : ∀ {xs : List Dt} {ds : List D} (n : Nat), RDs κ ρ xs ds → RDs κ ρ (xs.drop n) (ds.drop n)
  | _, _, 0, r => r
  | _, _, _ + 1, .nil => .nil
  | _, _, n + 1, .cons _ t => RDs.drop n t
theorem RDs.ofInts : ∀ (ns : List Int), RDs κ ρ (ns.map Dt.int) (ns.map D.int)
  | [] => .nil
  | n :: r => .cons (.int n) (RDs.ofInts r)
theorem RDF.lookup : ∀ {fs : List (Str × Dt)} {gs : List (Str × D)} {f : Str} {x : Dt}, RDF κ ρ fs gs → fs.lookup f = some x → ∃ d, gs.lookup f = some d ∧ RD κ ρ x d
  | _, _, _, _, .nil, e => by cases e
  | _, _, f, x, .cons (f := g) r t, e => by
    rw [List.lookup_cons] at e ⊢
    cases q : (f == g) with
    | true => rw [q] at e; cases e; exact ⟨_, rfl, r⟩
    | false => rw [q] at e; exact RDF.lookup t e
theorem RDF.length : ∀ {fs : List (Str × Dt)} {gs : List (Str × D)}, RDF κ ρ fs gs → fs.length = gs.length
  | _, _, .nil => rfl
  | _, _, .cons _ b => congrArg (· + 1) b.length
def putX (f : Str) (d : Dt) : List (Str × Dt) → List (Str × Dt)
  | [] => [(f, d)]
  | (g, e) :: r => if g = f then (f, d) :: r else (g, e) :: putX f d r
theorem RDF.put {f : Str} {x : Dt} {d : D} (h : RD κ ρ x d) : ∀ {fs : List (Str × Dt)} {gs : List (Str × D)}, RDF κ ρ fs gs → RDF κ ρ (putX f x fs) (putD f d gs)
  | _, _, .nil => .cons h .nil
  | _, _, .cons (f := g) r t => by
    unfold putX putD
    by_cases q : g = f
    · rw [if_pos q, if_pos q]; exact .cons h t
    · rw [if_neg q, if_neg q]; exact .cons r (RDF.put h t)
/-! inversions -/
theorem RD.intD {i : Int} {d : D} (h : RD κ ρ (.int i) d) : d = .int i := by cases h; rfl
theorem RD.blD {i : Bool} {d : D} (h : RD κ ρ (.bl i) d) : d = .bl i := by cases h; rfl
theorem RD.strD {i : Str} {d : D} (h : RD κ ρ (.str i) d) : d = .str i := by cases h; rfl
theorem RD.nonD {d : D} (h : RD κ ρ .non d) : d = .non := by cases h; rfl
theorem RD.tyD {n : String} {d : D} (h : RD κ ρ (.ty n) d) : d = .ty n := by cases h; rfl
theorem RD.frzD {n : List Int} {d : D} (h : RD κ ρ (.frz n) d) : d = .frz n := by cases h; rfl
theorem RD.clsD {n : Nat} {d : D} (h : RD κ ρ (.cls n) d) : d = .ref (κ n) := by cases h; rfl
theorem RD.lstD {xs : List Dt} {d : D} (h : RD κ ρ (.lst xs) d) : ∃ ds, d = .lst ds ∧ RDs κ ρ xs ds := by cases h with | lst h => exact ⟨_, rfl, h⟩
theorem RD.tupD {xs : List Dt} {d : D} (h : RD κ ρ (.tup xs) d) : ∃ ds, d = .tup ds ∧ RDs κ ρ xs ds := by cases h with | tup h => exact ⟨_, rfl, h⟩
theorem RD.objD {c : Nat} {xs : List (Str × Dt)} {d : D} (h : RD κ ρ (.obj c xs) d) : ∃ ds, d = .obj (κ c) ds ∧ RDF κ ρ xs ds := by cases h with | obj h => exact ⟨_, rfl, h⟩
theorem RD.locD {n : Nat} {d : D} (h : RD κ ρ (.loc n) d) : ∃ a, d = .ref a ∧ ρ[n]? = some a := by cases h with | loc h => exact ⟨_, rfl, h⟩
end
/-! ### stores -/
inductive RDK (κ : Nat → Addr) (ρ : List Addr) {τ : Type} : List (τ × Dt) → List (τ × D) → Prop
  | nil : RDK κ ρ [] []
  | cons {k : τ} {x : Dt} {xs : List (τ × Dt)} {d : D} {ds : List (τ × D)} : RD κ ρ x d → RDK κ ρ xs ds → RDK κ ρ ((k, x) :: xs) ((k, d) :: ds)
theorem RDK.mono {κ : Nat → Addr} {ρ ρ' : List Addr} (h : ρ <+: ρ') {τ : Type} {xs : List (τ × Dt)} {ds : List (τ × D)} (r : RDK κ ρ xs ds) : RDK κ ρ' xs ds := by
  induction r with
  | nil => exact .nil
  | cons a _ ih => exact .cons (a.mono h) ih
inductive RC (κ : Nat → Addr) (ρ : List Addr) : Xc → Cell → Prop
  | lst {xs : List Dt} {ds : List D} : RDs κ ρ xs ds → RC κ ρ (.lst xs) (.lst ds)
  | ins {c : Nat} {fs : List (Str × Dt)} {gs : List (Str × D)} : RDF κ ρ fs gs → RC κ ρ (.ins c fs) (.ins (κ c) gs)
  | dK {xs : List (Key × Dt)} {ds : List (Key × D)} : RDK κ ρ xs ds → RC κ ρ (.dK xs) (.dK ds)
  | dT {xs : List (List Key × Dt)} {ds : List (List Key × D)} : RDK κ ρ xs ds → RC κ ρ (.dT xs) (.dT ds)
structure RSt (κ : Nat → Addr) (ρ : List Addr) (S : Xs) (T : Store) : Prop where
  nd : ρ.Nodup
  len : ρ.length = S.length
  cell : ∀ (n : Nat) (a : Addr) (x : Xc), ρ[n]? = some a → S[n]? = some x → ∃ c, T.lookup a = some c ∧ RC κ ρ x c
structure Go (κ : Nat → Addr) (ρ : List Addr) (T : Store) (ρ' : List Addr) (S' : Xs) (T' : Store) : Prop where
  pre : ρ <+: ρ'
  rst : RSt κ ρ' S' T'
  frame : ∀ a c, a ∉ ρ → T.lookup a = some c → T'.lookup a = some c
  fresh : ∀ a, a ∈ ρ' → a ∈ ρ ∨ ¬ dom T a
section
variable {κ : Nat → Addr} {ρ ρ' ρ1 ρ2 : List Addr} {S S1 S2 : Xs} {T T1 T2 : Store}
theorem RC.mono (h : ρ <+: ρ') {x : Xc} {c : Cell} : RC κ ρ x c → RC κ ρ' x c
  | .lst r => .lst (r.mono h)
  | .ins r => .ins (r.mono h)
  | .dK r => .dK (r.mono h)
  | .dT r => .dT (r.mono h)
theorem dom_lookup {a : Addr} (h : dom T a) : ∃ c, T.lookup a = some c := by
  obtain ⟨p, hp, e⟩ := List.mem_map.mp h
  induction T with
  | nil => cases hp
  | cons q r ih =>
    obtain ⟨b, u⟩ := q
    rw [List.lookup_cons]
    cases z : (a == b) with
    | true => exact ⟨u, rfl⟩
    | false =>
      rcases List.mem_cons.mp hp with k | k
      · subst k
        have : b = a := e
        rw [this] at z
        simp at z
      · exact ih (List.mem_map.mpr ⟨p, k, e⟩) k
theorem Go.refl (h : RSt κ ρ S T) : Go κ ρ T ρ S T := ⟨List.prefix_rfl, h, fun _ _ _ e => e, fun _ m => .inl m⟩
theorem Go.trans (h : Go κ ρ T ρ1 S1 T1) (k : Go κ ρ1 T1 ρ2 S2 T2) : Go κ ρ T ρ2 S2 T2 where
  pre := h.pre.trans k.pre
  rst := k.rst
  frame := fun a c n e => by
    have hn : a ∉ ρ1 := fun z => (h.fresh a z).elim n (fun q => q (dom_of_lookup e))
    exact k.frame a c hn (h.frame a c n e)
  fresh := fun a m => by
    rcases k.fresh a m with q | q
    · exact h.fresh a q
    · by_cases z : a ∈ ρ
      · exact .inl z
      · refine .inr fun d => ?_
        obtain ⟨c, e⟩ := dom_lookup d
        exact q (dom_of_lookup (h.frame a c z e))
/-- a new cell -/
theorem Go.new (h : RSt κ ρ S T) {l : Addr} {x : Xc} {c : Cell} (n : ¬ dom T l) (r : RC κ ρ x c) : Go κ ρ T (ρ ++ [l]) (S ++ [x]) ((l, c) :: T) ∧ (ρ ++ [l])[S.length]? = some l := by
  have hp : ρ <+: ρ ++ [l] := List.prefix_append _ _
  have hl : l ∉ ρ := fun m => by
    obtain ⟨i, hi, e⟩ := List.mem_iff_getElem.mp m
    have hs : i < S.length := h.len ▸ hi
    obtain ⟨c', e', _⟩ := h.cell i l S[i] (by rw [List.getElem?_eq_getElem hi, e]) (List.getElem?_eq_getElem hs)
    exact n (dom_of_lookup e')
  refine ⟨⟨hp, ⟨?_, by simp [h.len], ?_⟩, ?_, ?_⟩, by rw [← h.len]; simp⟩
  · rw [List.nodup_append]
    refine ⟨h.nd, by simp, fun a ha b hb => ?_⟩
    simp at hb
    subst hb
    exact fun z => hl (z ▸ ha)
  · intro i a x' h1 h2
    by_cases hi : i < S.length
    · rw [List.getElem?_append_left hi] at h2
      rw [List.getElem?_append_left (h.len.symm ▸ hi)] at h1
      obtain ⟨c', e', r'⟩ := h.cell i a x' h1 h2
      refine ⟨c', ?_, r'.mono hp⟩
      rw [List.lookup_cons]
      have : (a == l) = false := beq_eq_false_iff_ne.mpr fun z => hl (z ▸ List.mem_of_getElem? h1)
      rw [this]
      exact e'
    · have hi2 : i = S.length := by
        have := (List.getElem?_eq_some_iff.mp h2).1
        simp at this
        omega
      subst hi2
      rw [← h.len] at h1
      simp at h1 h2
      subst h1 h2
      exact ⟨c, by rw [List.lookup_cons]; simp, r.mono hp⟩
  · intro a c' na e
    rw [List.lookup_cons]
    have : (a == l) = false := beq_eq_false_iff_ne.mpr fun z => n (z ▸ dom_of_lookup e)
    rw [this]
    exact e
  · intro a ha
    rcases List.mem_append.mp ha with q | q
    · exact .inl q
    · simp at q; subst q; exact .inr n
/-- a cell changes -/
theorem Go.put (h : RSt κ ρ S T) {n : Nat} {a : Addr} {x : Xc} {c : Cell} (ha : ρ[n]? = some a) (r : RC κ ρ x c) : Go κ ρ T ρ (S.set n x) (setC T a c) := by
  have hn : n < S.length := h.len ▸ (List.getElem?_eq_some_iff.mp ha).1
  obtain ⟨c0, e0, _⟩ := h.cell n a _ ha (List.getElem?_eq_getElem hn)
  refine ⟨List.prefix_rfl, ⟨h.nd, by simp [h.len], ?_⟩, ?_, fun _ m => .inl m⟩
  · intro i b y h1 h2
    by_cases z : i = n
    · subst z
      rw [h1] at ha
      cases ha
      rw [List.getElem?_set_self hn] at h2
      cases h2
      exact ⟨c, lookup_setC e0, r⟩
    · rw [List.getElem?_set_ne (Ne.symm z)] at h2
      obtain ⟨c', e', r'⟩ := h.cell i b y h1 h2
      refine ⟨c', ?_, r'⟩
      rw [lookup_setC_ne]
      · exact e'
      · intro q
        subst q
        exact z ((List.getElem?_inj (List.getElem?_eq_some_iff.mp h1).1 h.nd).mp (h1.trans ha.symm))
  · intro b c' nb e
    rw [lookup_setC_ne]
    · exact e
    · intro q
      subst q
      exact nb (List.mem_of_getElem? ha)
end
/-! ### what is computed -/
inductive Res (α : Type) where
  | ok (a : α) (S : Xs)
  | bad
@[inline] def Res.bind {α β : Type} (r : Res α) (f : α → Xs → Res β) : Res β := match r with | .ok a S => f a S | .bad => .bad
@[simp] theorem bind_ok {α β : Type} (a : α) (S : Xs) (f : α → Xs → Res β) : (Res.ok a S).bind f = f a S := rfl
@[simp] theorem bind_bad {α β : Type} (f : α → Xs → Res β) : (Res.bad : Res α).bind f = .bad := rfl
inductive Out where
  | nx (G : Xe) | rt (d : Dt) | bk (G : Xe) | ct (G : Xe)
abbrev Me := Xe → Xs → Res Dt
abbrev Mt := Xe → Xs → Res Bool
abbrev Ma := Xe → Xs → Res (List Dt)
abbrev Ms := Xe → Xs → Res Out
abbrev Mf := List Dt → Xs → Res Dt
inductive RG (κ : Nat → Addr) (ρ : List Addr) : Xe → Env' → Prop
  | nil : RG κ ρ [] []
  | cons0 {G : Xe} {E : Env'} {o : Option D} : RG κ ρ G E → RG κ ρ (none :: G) (o :: E)
  | cons {x : Dt} {d : D} {G : Xe} {E : Env'} : RD κ ρ x d → RG κ ρ G E → RG κ ρ (some x :: G) (some d :: E)
section
variable {κ : Nat → Addr} {ρ ρ' : List Addr}
theorem RG.mono (h : ρ <+: ρ') : ∀ {G : Xe} {E : Env'}, RG κ ρ G E → RG κ ρ' G E
  | _, _, .nil => .nil
  | _, _, .cons0 r => .cons0 (RG.mono h r)
  | _, _, .cons a r => .cons (a.mono h) (RG.mono h r)
theorem RG.get : ∀ {G : Xe} {E : Env'} {i : Nat} {x : Dt}, RG κ ρ G E → G[i]? = some (some x) → ∃ d, E[i]? = some (some d) ∧ RD κ ρ x d
  | _, _, _, _, .nil, e => by simp at e
  | _, _, 0, _, .cons0 _, e => by simp at e
  | _, _, 0, _, .cons a _, e => by simp at e; subst e; exact ⟨_, rfl, a⟩
  | _, _, i + 1, x, .cons0 r, e => RG.get (i := i) (x := x) r (by simpa using e)
  | _, _, i + 1, x, .cons _ r, e => RG.get (i := i) (x := x) r (by simpa using e)
theorem RG.set {x : Dt} {d : D} (h : RD κ ρ x d) : ∀ {G : Xe} {E : Env'} (i : Nat), RG κ ρ G E → RG κ ρ (G.set i (some x)) (E.set i (some d))
  | _, _, _, .nil => .nil
  | _, _, 0, .cons0 r => .cons h r
  | _, _, 0, .cons _ r => .cons h r
  | _, _, i + 1, .cons0 r => .cons0 (RG.set h i r)
  | _, _, i + 1, .cons a r => .cons a (RG.set h i r)
theorem RG.start : ∀ {xs : List Dt} {ds : List D} (n : Nat), RDs κ ρ xs ds → RG κ ρ (xs.map some ++ List.replicate n none) (ds.map some ++ List.replicate n none)
  | _, _, n, .nil => by
    induction n with
    | zero => exact .nil
    | succ n ih => exact .cons0 ih
  | _, _, n, .cons a r => .cons a (RG.start n r)
end
def EvX (K : PySem.W.Frag) (κ : Nat → Addr) (te : TE) (m : Me) : Prop := ∀ ρ G S E T x S', RG κ ρ G E → RSt κ ρ S T → m G S = .ok x S' → EvG K te E T fun d T' => ∃ ρ', Go κ ρ T ρ' S' T' ∧ RD κ ρ' x d
def TsX (K : PySem.W.Frag) (κ : Nat → Addr) (tt : TT) (m : Mt) : Prop := ∀ ρ G S E T b S', RG κ ρ G E → RSt κ ρ S T → m G S = .ok b S' → EvT K tt E T fun c T' => c = b ∧ ∃ ρ', Go κ ρ T ρ' S' T'
def ArX (K : PySem.W.Frag) (κ : Nat → Addr) (ta : TA) (m : Ma) : Prop := ∀ ρ G S E T xs S', RG κ ρ G E → RSt κ ρ S T → m G S = .ok xs S' → EvA K ta E T fun ds T' => ∃ ρ', Go κ ρ T ρ' S' T' ∧ RDs κ ρ' xs ds
def OpX (K : PySem.W.Frag) (κ : Nat → Addr) (r : R2) (f : Dt → Dt → Xs → Res Dt) : Prop := ∀ ρ S T x y dx dy z S', RSt κ ρ S T → RD κ ρ x dx → RD κ ρ y dy → f x y S = .ok z S' → OpG K r dx dy T fun d T' => ∃ ρ', Go κ ρ T ρ' S' T' ∧ RD κ ρ' z d
def UnX (K : PySem.W.Frag) (κ : Nat → Addr) (r : V → Hp → VK → Prop) (f : Dt → Xs → Res Dt) : Prop := ∀ ρ S T x dx z S', RSt κ ρ S T → RD κ ρ x dx → f x S = .ok z S' → UnG K r dx T fun d T' => ∃ ρ', Go κ ρ T ρ' S' T' ∧ RD κ ρ' z d
def CbX (K : PySem.W.Frag) (κ : Nat → Addr) (r : List V → Hp → VK → Prop) (f : List Dt → Xs → Res Dt) : Prop := ∀ ρ S T xs ds z S', RSt κ ρ S T → RDs κ ρ xs ds → f xs S = .ok z S' → CbG K r ds T fun d T' => ∃ ρ', Go κ ρ T ρ' S' T' ∧ RD κ ρ' z d
def TgX (K : PySem.W.Frag) (κ : Nat → Addr) (g : TG) (m : Dt → Xe → Xs → Res Xe) : Prop := ∀ ρ x d G S E T G' S', RD κ ρ x d → RG κ ρ G E → RSt κ ρ S T → m x G S = .ok G' S' → TgG K g d E T fun E' T' => ∃ ρ', Go κ ρ T ρ' S' T' ∧ RG κ ρ' G' E'
def TgsX (K : PySem.W.Frag) (κ : Nat → Addr) (g : TGs) (m : List Dt → Xe → Xs → Res Xe) : Prop := ∀ ρ x d G S E T G' S', RDs κ ρ x d → RG κ ρ G E → RSt κ ρ S T → m x G S = .ok G' S' → TgsG K g d E T fun E' T' => ∃ ρ', Go κ ρ T ρ' S' T' ∧ RG κ ρ' G' E'
def ItX (K : PySem.W.Frag) (κ : Nat → Addr) (wi : TI) (m : Ma) : Prop := ∀ ρ G S E T xs S', RG κ ρ G E → RSt κ ρ S T → m G S = .ok xs S' → IG K wi E T fun its T' => ∃ ρ', Go κ ρ T ρ' S' T' ∧ RDs κ ρ' xs its
/-- the ends of a statement that computes r -/
def EndsX (κ : Nat → Addr) (ρ : List Addr) (T : Store) (r : Out) (S' : Xs) : EndsD where
  nx := fun E' T' => ∃ G' ρ', r = .nx G' ∧ Go κ ρ T ρ' S' T' ∧ RG κ ρ' G' E'
  rt := fun d T' => ∃ x ρ', r = .rt x ∧ Go κ ρ T ρ' S' T' ∧ RD κ ρ' x d
  bk := fun E' T' => ∃ G' ρ', r = .bk G' ∧ Go κ ρ T ρ' S' T' ∧ RG κ ρ' G' E'
  ct := fun E' T' => ∃ G' ρ', r = .ct G' ∧ Go κ ρ T ρ' S' T' ∧ RG κ ρ' G' E'
def StX (K : PySem.W.Frag) (κ : Nat → Addr) (ts : TS) (m : Ms) : Prop := ∀ ρ G S E T r S', RG κ ρ G E → RSt κ ρ S T → m G S = .ok r S' → ExG K ts E T (EndsX κ ρ T r S')
end RX

set_option Elab.async false
set_option linter.all false
set_option maxRecDepth 100000
set_option maxHeartbeats 4000000
namespace RX
open PySem PySem.Spec PyProof.Rows L2 RS
theorem Res.bind_eq {α β : Type} {r : Res α} {f : α → Xs → Res β} {b : β} {S : Xs} (h : r.bind f = .ok b S) : ∃ a S1, r = .ok a S1 ∧ f a S1 = .ok b S := by
  cases r with
  | ok a S1 => exact ⟨a, S1, rfl, h⟩
  | bad => cases h
section
variable {K : PySem.W.Frag} {κ : Nat → Addr} {S S' S1 S2 : Store} {G G' : Env'} {ta tb te : TE} {P P' : PD} {t u : TT}
theorem evT_mono {Q Q' : Bool → Store → Prop} (h : EvT K t G S Q) (k : ∀ b S', Q b S' → Q' b S') : EvT K t G S Q' := fun σ H e R q => h σ H e R fun d S' H' p => q d S' H' (k d S' p)
theorem evA_mono {t : TA} {Q Q' : List D → Store → Prop} (h : EvA K t G S Q) (k : ∀ b S', Q b S' → Q' b S') : EvA K t G S Q' := fun σ H e R q => h σ H e R fun d S' v H' p => q d S' v H' (k d S' p)
theorem opG_mono {r : R2} {x y : D} (h : OpG K r x y S P) (k : ∀ d S', P d S' → P' d S') : OpG K r x y S P' := fun H a b s ra rb R q => h H a b s ra rb R fun d S' v H' p => q d S' v H' (k d S' p)
theorem unG_mono {r : V → Hp → VK → Prop} {x : D} (h : UnG K r x S P) (k : ∀ d S', P d S' → P' d S') : UnG K r x S P' := fun H a s ra R q => h H a s ra R fun d S' v H' p => q d S' v H' (k d S' p)
theorem cbG_mono {r : List V → Hp → VK → Prop} {x : List D} (h : CbG K r x S P) (k : ∀ d S', P d S' → P' d S') : CbG K r x S P' := fun H a s ra R q => h H a s ra R fun d S' v H' p => q d S' v H' (k d S' p)
theorem tgG_mono {g : TG} {x : D} {Q Q' : Env' → Store → Prop} (h : TgG K g x G S Q) (k : ∀ d S', Q d S' → Q' d S') : TgG K g x G S Q' := fun H a s e ra R q => h H a s e ra R fun d S' v H' p => q d S' v H' (k d S' p)
theorem tgsG_mono {g : TGs} {x : List D} {Q Q' : Env' → Store → Prop} (h : TgsG K g x G S Q) (k : ∀ d S', Q d S' → Q' d S') : TgsG K g x G S Q' := fun H a s e ra R q => h H a s e ra R fun d S' v H' p => q d S' v H' (k d S' p)
theorem ig_mono {w : TI} {R R' : List D → Store → Prop} (h : IG K w G S R) (k : ∀ d S', R d S' → R' d S') : IG K w G S R' := fun σ H e Q q => h σ H e Q fun its S' J H' r => q its S' J H' (k its S' r)
theorem exG_mono {s : TS} {N N' : EndsD} (h : ExG K s G S N) (h1 : ∀ G' S', N.nx G' S' → N'.nx G' S') (h2 : ∀ d S', N.rt d S' → N'.rt d S') (h3 : ∀ G' S', N.bk G' S' → N'.bk G' S') (h4 : ∀ G' S', N.ct G' S' → N'.ct G' S') : ExG K s G S N' := fun σ H E e f =>
  h σ H E e ⟨fun G' S' σ' H' n => f.nx G' S' σ' H' (h1 _ _ n), fun d S' v H' n => f.rt d S' v H' (h2 _ _ n), fun G' S' σ' H' n => f.bk G' S' σ' H' (h3 _ _ n), fun G' S' σ' H' n => f.ct G' S' σ' H' (h4 _ _ n)⟩
end
/-! ### expressions -/
def mBad : Me := fun _ _ => .bad
def mVar (i : Nat) : Me := fun G S => match G[i]? with | some (some x) => .ok x S | _ => .bad
def mC (x : Dt) : Me := fun _ S => .ok x S
def mOp (f : Dt → Dt → Xs → Res Dt) (a b : Me) : Me := fun G S => (a G S).bind fun x S1 => (b G S1).bind fun y S2 => f x y S2
def mUn (f : Dt → Xs → Res Dt) (a : Me) : Me := fun G S => (a G S).bind fun x S1 => f x S1
def rBl (x : Dt) (S : Xs) : Res Bool := match x with | .bl b => .ok b S | _ => .bad
def mB (a : Me) : Mt := fun G S => (a G S).bind rBl
def mAndV (a b : Me) : Me := fun G S => (mB a G S).bind fun c S1 => if c = true then b G S1 else .ok (.bl false) S1
def mOrV (a b : Me) : Me := fun G S => (mB a G S).bind fun c S1 => if c = true then .ok (.bl true) S1 else b G S1
def mNotV (a : Me) : Me := fun G S => (mB a G S).bind fun c S1 => .ok (.bl (!c)) S1
def mIf (t : Mt) (a b : Me) : Me := fun G S => (t G S).bind fun c S1 => if c = true then a G S1 else b G S1
def mChain (f g : Dt → Dt → Xs → Res Dt) (a b c : Me) : Me := fun G S => (a G S).bind fun x S1 => (b G S1).bind fun y S2 => ((f x y S2).bind rBl).bind fun d S3 => if d = true then (c G S3).bind fun z S4 => g y z S4 else .ok (.bl false) S3
def aNil : Ma := fun _ S => .ok [] S
def aCons (a : Me) (r : Ma) : Ma := fun G S => (a G S).bind fun x S1 => (r G S1).bind fun xs S2 => .ok (x :: xs) S2
def mTup (r : Ma) : Me := fun G S => (r G S).bind fun xs S1 => if xs.length ≤ 100000 then .ok (.tup xs) S1 else .bad
def mLst (r : Ma) : Me := fun G S => (r G S).bind fun xs S1 => if xs.length ≤ 100000 then .ok (.lst xs) S1 else .bad
def mLstC (r : Ma) : Me := fun G S => (r G S).bind fun xs S1 => if xs.length ≤ 100000 then .ok (.loc S1.length) (S1 ++ [.lst xs]) else .bad
def mCb (f : List Dt → Xs → Res Dt) (r : Ma) : Me := fun G S => (r G S).bind f
section
variable {K : PySem.W.Frag} {κ : Nat → Addr} {ta tb tc te : TE} {ma mb mc me : Me} {t u : TT} {mt mu : Mt} {f g : Dt → Dt → Xs → Res Dt}
theorem em_bad {te : TE} : EvX K κ te mBad := fun ρ G S E T x S' rg rs h => by cases h
theorem em_var {i : Nat} : EvX K κ (tVar i) (mVar i) := fun ρ G S E T x S' rg rs h => by
  unfold mVar at h
  split at h
  · rename_i y e
    cases h
    obtain ⟨d, h1, h2⟩ := rg.get e
    exact g_var h1 ⟨ρ, .refl rs, h2⟩
  · cases h
theorem em_int {i : Int} : EvX K κ (tC (.int i)) (mC (.int i)) := fun ρ G S E T x S' rg rs h => by cases h; exact g_int ⟨ρ, .refl rs, .int i⟩
theorem em_str {i : Str} : EvX K κ (tC (.str i)) (mC (.str i)) := fun ρ G S E T x S' rg rs h => by cases h; exact g_str ⟨ρ, .refl rs, .str i⟩
theorem em_bl {i : Bool} : EvX K κ (tC (.bl i)) (mC (.bl i)) := fun ρ G S E T x S' rg rs h => by cases h; exact g_bl ⟨ρ, .refl rs, .bl i⟩
theorem em_non : EvX K κ (tC .non) (mC .non) := fun ρ G S E T x S' rg rs h => by cases h; exact g_non ⟨ρ, .refl rs, .non⟩
theorem em_ty {n : String} : EvX K κ (tC (.ty n)) (mC (.ty n)) := fun ρ G S E T x S' rg rs h => by cases h; exact g_ty ⟨ρ, .refl rs, .ty n⟩
theorem em_cls {c : Nat} : EvX K κ (tC (.ref (κ c))) (mC (.cls c)) := fun ρ G S E T x S' rg rs h => by cases h; exact g_ref ⟨ρ, .refl rs, .cls c⟩
/-- a constant of the module -/
theorem em_kst {v : V} {x : Dt} {d : D} (hr : ∀ Z H, Rp K Z H v d) (hd : ∀ ρ, RD κ ρ x d) : EvX K κ (tC v) (mC x) := fun ρ G S E T y S' rg rs h => by cases h; exact g_kst hr ⟨ρ, .refl rs, hd ρ⟩
theorem em_op {r : R2} (hop : OpX K κ r f) (ha : EvX K κ ta ma) (hb : EvX K κ tb mb) : EvX K κ (tOp r ta tb) (mOp f ma mb) := fun ρ G S E T z S' rg rs h => by
  obtain ⟨x, S1, e1, h⟩ := Res.bind_eq h
  obtain ⟨y, S2, e2, h⟩ := Res.bind_eq h
  exact g_op (EvG.mono (ha ρ G S E T x S1 rg rs e1) fun dx T1 ⟨ρ1, g1, rx⟩ => EvG.mono (hb ρ1 G S1 E T1 y S2 (rg.mono g1.pre) g1.rst e2) fun dy T2 ⟨ρ2, g2, ry⟩ =>
    opG_mono (hop ρ2 S2 T2 x y dx dy z S' g2.rst (rx.mono g2.pre) ry h) fun d T3 ⟨ρ3, g3, rz⟩ => ⟨ρ3, (g1.trans g2).trans g3, rz⟩)
theorem em_un {r : V → Hp → VK → Prop} {f : Dt → Xs → Res Dt} (hop : UnX K κ r f) (ha : EvX K κ ta ma) : EvX K κ (tUn r ta) (mUn f ma) := fun ρ G S E T z S' rg rs h => by
  obtain ⟨x, S1, e1, h⟩ := Res.bind_eq h
  exact g_un (EvG.mono (ha ρ G S E T x S1 rg rs e1) fun dx T1 ⟨ρ1, g1, rx⟩ => unG_mono (hop ρ1 S1 T1 x dx z S' g1.rst rx h) fun d T3 ⟨ρ3, g3, rz⟩ => ⟨ρ3, g1.trans g3, rz⟩)
theorem rBl_ok {x : Dt} {S S1 : Xs} {b : Bool} (h : rBl x S = .ok b S1) : x = .bl b ∧ S1 = S := by
  unfold rBl at h
  split at h
  · cases h; exact ⟨rfl, rfl⟩
  · cases h
/-- a bool comes -/
theorem ev_bl (ha : EvX K κ ta ma) {ρ : List Addr} {G : Xe} {S S1 : Xs} {E : Env'} {T : Store} {c : Bool} (rg : RG κ ρ G E) (rs : RSt κ ρ S T) (h : mB ma G S = .ok c S1) : EvG K ta E T fun d T' => d = .bl c ∧ ∃ ρ', Go κ ρ T ρ' S1 T' := by
  obtain ⟨x, S2, e1, h⟩ := Res.bind_eq h
  obtain ⟨rfl, rfl⟩ := rBl_ok h
  exact EvG.mono (ha ρ G S E T _ _ rg rs e1) fun d T' ⟨ρ', g, r⟩ => ⟨r.blD, ρ', g⟩
theorem em_and (ha : EvX K κ ta ma) (hb : EvX K κ tb mb) : EvX K κ (tAndV ta tb) (mAndV ma mb) := fun ρ G S E T z S' rg rs h => by
  obtain ⟨c, S1, e1, h⟩ := Res.bind_eq h
  refine g_and (EvG.mono (ev_bl ha rg rs e1) fun d T' ⟨ed, ρ1, g1⟩ => ⟨c, ed, fun ec => ?_, fun ec => ?_⟩)
  · rw [if_pos ec] at h
    exact EvG.mono (hb ρ1 G S1 E T' z S' (rg.mono g1.pre) g1.rst h) fun d T3 ⟨ρ3, g3, rz⟩ => ⟨ρ3, g1.trans g3, rz⟩
  · subst ec
    rw [if_neg Bool.false_ne_true] at h
    cases h
    exact ⟨ρ1, g1, .bl _⟩
theorem em_or (ha : EvX K κ ta ma) (hb : EvX K κ tb mb) : EvX K κ (tOrV ta tb) (mOrV ma mb) := fun ρ G S E T z S' rg rs h => by
  obtain ⟨c, S1, e1, h⟩ := Res.bind_eq h
  refine g_or (EvG.mono (ev_bl ha rg rs e1) fun d T' ⟨ed, ρ1, g1⟩ => ⟨c, ed, fun ec => ?_, fun ec => ?_⟩)
  · rw [if_pos ec] at h
    cases h
    exact ⟨ρ1, g1, .bl _⟩
  · subst ec
    rw [if_neg Bool.false_ne_true] at h
    exact EvG.mono (hb ρ1 G S1 E T' z S' (rg.mono g1.pre) g1.rst h) fun d T3 ⟨ρ3, g3, rz⟩ => ⟨ρ3, g1.trans g3, rz⟩
theorem em_not (ha : EvX K κ ta ma) : EvX K κ (tNotV ta) (mNotV ma) := fun ρ G S E T z S' rg rs h => by
  obtain ⟨c, S1, e1, h⟩ := Res.bind_eq h
  cases h
  exact g_not (EvG.mono (ev_bl ha rg rs e1) fun d T' ⟨ed, ρ1, g1⟩ => ⟨c, ed, ρ1, g1, .bl _⟩)
theorem em_if (ht : TsX K κ t mt) (ha : EvX K κ ta ma) (hb : EvX K κ tb mb) : EvX K κ (tIf t ta tb) (mIf mt ma mb) := fun ρ G S E T z S' rg rs h => by
  obtain ⟨c, S1, e1, h⟩ := Res.bind_eq h
  refine g_if (evT_mono (ht ρ G S E T c S1 rg rs e1) fun b T1 ⟨eb, ρ1, g1⟩ => ⟨fun ec => ?_, fun ec => ?_⟩)
  · rw [if_pos (eb.symm.trans ec)] at h
    exact EvG.mono (ha ρ1 G S1 E T1 z S' (rg.mono g1.pre) g1.rst h) fun d T3 ⟨ρ3, g3, rz⟩ => ⟨ρ3, g1.trans g3, rz⟩
  · rw [eb.symm.trans ec, if_neg Bool.false_ne_true] at h
    exact EvG.mono (hb ρ1 G S1 E T1 z S' (rg.mono g1.pre) g1.rst h) fun d T3 ⟨ρ3, g3, rz⟩ => ⟨ρ3, g1.trans g3, rz⟩
theorem em_chain {r r' : R2} (h1 : OpX K κ r f) (h2 : OpX K κ r' g) (ha : EvX K κ ta ma) (hb : EvX K κ tb mb) (hc : EvX K κ tc mc) : EvX K κ (tChain r r' ta tb tc) (mChain f g ma mb mc) := fun ρ G S E T z S' rg rs h => by
  obtain ⟨x, S1, e1, h⟩ := Res.bind_eq h
  obtain ⟨y, S2, e2, h⟩ := Res.bind_eq h
  obtain ⟨c, S3, e3, h⟩ := Res.bind_eq h
  obtain ⟨w, S4, e4, e3⟩ := Res.bind_eq e3
  obtain ⟨rfl, rfl⟩ := rBl_ok e3
  refine g_chain (EvG.mono (ha ρ G S E T x S1 rg rs e1) fun dx T1 ⟨ρ1, g1, rx⟩ => EvG.mono (hb ρ1 G S1 E T1 y S2 (rg.mono g1.pre) g1.rst e2) fun dy T2 ⟨ρ2, g2, ry⟩ =>
    opG_mono (h1 ρ2 S2 T2 x y dx dy _ _ g2.rst (rx.mono g2.pre) ry e4) fun d T3 ⟨ρ3, g3, rz⟩ => ⟨c, rz.blD, fun ec => ?_, fun ec => ?_⟩)
  · rw [if_pos ec] at h
    obtain ⟨w, S5, e5, h⟩ := Res.bind_eq h
    have g13 := (g1.trans g2).trans g3
    exact EvG.mono (hc ρ3 G _ E T3 w S5 (rg.mono g13.pre) g3.rst e5) fun dw T4 ⟨ρ4, g4, rw'⟩ => opG_mono (h2 ρ4 S5 T4 y w dy dw z S' g4.rst (ry.mono (g3.pre.trans g4.pre)) rw' h) fun d T5 ⟨ρ5, g5, r5⟩ => ⟨ρ5, (g13.trans g4).trans g5, r5⟩
  · subst ec
    rw [if_neg Bool.false_ne_true] at h
    cases h
    exact ⟨ρ3, (g1.trans g2).trans g3, .bl _⟩
theorem ar_nil : ArX K κ tNil aNil := fun ρ G S E T z S' rg rs h => by cases h; exact a_nil ⟨ρ, .refl rs, .nil⟩
theorem ar_cons {tr : TA} {mr : Ma} (ha : EvX K κ ta ma) (hr : ArX K κ tr mr) : ArX K κ (tCons ta tr) (aCons ma mr) := fun ρ G S E T z S' rg rs h => by
  obtain ⟨x, S1, e1, h⟩ := Res.bind_eq h
  obtain ⟨y, S2, e2, h⟩ := Res.bind_eq h
  cases h
  exact a_cons (EvG.mono (ha ρ G S E T x S1 rg rs e1) fun dx T1 ⟨ρ1, g1, rx⟩ => evA_mono (hr ρ1 G S1 E T1 y _ (rg.mono g1.pre) g1.rst e2) fun dy T2 ⟨ρ2, g2, ry⟩ => ⟨ρ2, g1.trans g2, .cons (rx.mono g2.pre) ry⟩)
theorem em_tup {tr : TA} {mr : Ma} (hr : ArX K κ tr mr) : EvX K κ (tTup tr) (mTup mr) := fun ρ G S E T z S' rg rs h => by
  obtain ⟨x, S1, e1, h⟩ := Res.bind_eq h
  split at h
  · rename_i hl
    cases h
    exact g_tup (evA_mono (hr ρ G S E T x _ rg rs e1) fun dx T1 ⟨ρ1, g1, rx⟩ => ⟨rx.length ▸ hl, ρ1, g1, .tup rx⟩)
  · cases h
theorem em_lst {tr : TA} {mr : Ma} (hr : ArX K κ tr mr) : EvX K κ (tLst tr) (mLst mr) := fun ρ G S E T z S' rg rs h => by
  obtain ⟨x, S1, e1, h⟩ := Res.bind_eq h
  split at h
  · rename_i hl
    cases h
    exact g_lst (evA_mono (hr ρ G S E T x _ rg rs e1) fun dx T1 ⟨ρ1, g1, rx⟩ => ⟨rx.length ▸ hl, ρ1, g1, .lst rx⟩)
  · cases h
theorem em_lstC {tr : TA} {mr : Ma} (hr : ArX K κ tr mr) : EvX K κ (tLst tr) (mLstC mr) := fun ρ G S E T z S' rg rs h => by
  obtain ⟨x, S1, e1, h⟩ := Res.bind_eq h
  split at h
  · rename_i hl
    cases h
    refine g_lstC (evA_mono (hr ρ G S E T x _ rg rs e1) fun dx T1 ⟨ρ1, g1, rx⟩ => ⟨rx.length ▸ hl, fun l nd => ?_⟩)
    obtain ⟨g2, e⟩ := Go.new g1.rst nd (.lst rx)
    exact ⟨_, g1.trans g2, .loc e⟩
  · cases h
theorem em_cb {r : List V → Hp → VK → Prop} {f : List Dt → Xs → Res Dt} {tr : TA} {mr : Ma} (hf : CbX K κ r f) (hr : ArX K κ tr mr) : EvX K κ (tCB r tr) (mCb f mr) := fun ρ G S E T z S' rg rs h => by
  obtain ⟨x, S1, e1, h⟩ := Res.bind_eq h
  exact g_cb (evA_mono (hr ρ G S E T x S1 rg rs e1) fun dx T1 ⟨ρ1, g1, rx⟩ => cbG_mono (hf ρ1 S1 T1 x dx z S' g1.rst rx h) fun d T3 ⟨ρ3, g3, rz⟩ => ⟨ρ3, g1.trans g3, rz⟩)
/-! calls of defs -/
def spX (κ : Nat → Addr) (m : Mf) : SpG := fun ds T P => ∃ ρ xs S x S', RSt κ ρ S T ∧ RDs κ ρ xs ds ∧ m xs S = .ok x S' ∧ ∀ d ρ' T', Go κ ρ T ρ' S' T' → RD κ ρ' x d → P d T'
theorem spX_mono {m : Mf} : ∀ xs S1 (P P' : PD), spX κ m xs S1 P → (∀ d S', P d S' → P' d S') → spX κ m xs S1 P' := fun xs S1 P P' ⟨ρ, ys, S, x, S', h1, h2, h3, h4⟩ k => ⟨ρ, ys, S, x, S', h1, h2, h3, fun d ρ' T' g r => k _ _ (h4 d ρ' T' g r)⟩
def mCall (m : Mf) (r : Ma) : Me := fun G S => (r G S).bind m
theorem em_call {m : Mf} {E : XK} {tr : TA} {mr : Ma} (hr : ArX K κ tr mr) : EvX K κ (tCall (spOf K (spX κ m)) [] E tr) (mCall m mr) := fun ρ G S E T z S' rg rs h => by
  obtain ⟨x, S1, e1, h⟩ := Res.bind_eq h
  exact g_call (evA_mono (hr ρ G S E T x S1 rg rs e1) fun dx T1 ⟨ρ1, g1, rx⟩ => ⟨ρ1, x, S1, z, S', g1.rst, rx, h, fun d ρ' T' g r => ⟨ρ', g1.trans g, r⟩⟩) spX_mono
/-! tests -/
def mAnd (a b : Mt) : Mt := fun G S => (a G S).bind fun c S1 => if c = true then b G S1 else .ok false S1
def mOr (a b : Mt) : Mt := fun G S => (a G S).bind fun c S1 => if c = true then .ok true S1 else b G S1
def mNot (a : Mt) : Mt := fun G S => (a G S).bind fun c S1 => .ok (!c) S1
def mYes : Mt := fun _ S => .ok true S
theorem ts_b (ha : EvX K κ ta ma) : TsX K κ (tB ta) (mB ma) := fun ρ G S E T z S' rg rs h => t_b (EvG.mono (ev_bl ha rg rs h) fun d T' ⟨ed, ρ1, g1⟩ => ⟨z, ed, rfl, ρ1, g1⟩)
theorem ts_test (ha : EvX K κ ta ma) : TsX K κ (tTest ta) (mB ma) := fun ρ G S E T z S' rg rs h => t_test (EvG.mono (ev_bl ha rg rs h) fun d T' ⟨ed, ρ1, g1⟩ => ⟨z, ed, rfl, ρ1, g1⟩)
theorem ts_and (ha : TsX K κ t mt) (hb : TsX K κ u mu) : TsX K κ (tAnd t u) (mAnd mt mu) := fun ρ G S E T z S' rg rs h => by
  obtain ⟨c, S1, e1, h⟩ := Res.bind_eq h
  refine t_and (evT_mono (ha ρ G S E T c S1 rg rs e1) fun b T1 ⟨eb, ρ1, g1⟩ => ⟨fun ec => ?_, fun ec => ?_⟩)
  · rw [if_pos (eb.symm.trans ec)] at h
    exact evT_mono (hb ρ1 G S1 E T1 z S' (rg.mono g1.pre) g1.rst h) fun d T3 ⟨ed, ρ3, g3⟩ => ⟨ed, ρ3, g1.trans g3⟩
  · rw [eb.symm.trans ec, if_neg Bool.false_ne_true] at h
    cases h
    exact ⟨rfl, ρ1, g1⟩
theorem ts_or (ha : TsX K κ t mt) (hb : TsX K κ u mu) : TsX K κ (tOr t u) (mOr mt mu) := fun ρ G S E T z S' rg rs h => by
  obtain ⟨c, S1, e1, h⟩ := Res.bind_eq h
  refine t_or (evT_mono (ha ρ G S E T c S1 rg rs e1) fun b T1 ⟨eb, ρ1, g1⟩ => ⟨fun ec => ?_, fun ec => ?_⟩)
  · rw [if_pos (eb.symm.trans ec)] at h
    cases h
    exact ⟨rfl, ρ1, g1⟩
  · rw [eb.symm.trans ec, if_neg Bool.false_ne_true] at h
    exact evT_mono (hb ρ1 G S1 E T1 z S' (rg.mono g1.pre) g1.rst h) fun d T3 ⟨ed, ρ3, g3⟩ => ⟨ed, ρ3, g1.trans g3⟩
theorem ts_not (ha : TsX K κ t mt) : TsX K κ (tNot t) (mNot mt) := fun ρ G S E T z S' rg rs h => by
  obtain ⟨c, S1, e1, h⟩ := Res.bind_eq h
  cases h
  exact t_not (evT_mono (ha ρ G S E T c _ rg rs e1) fun b T1 ⟨eb, ρ1, g1⟩ => ⟨congrArg not eb, ρ1, g1⟩)
theorem ts_yes : TsX K κ tYes mYes := fun ρ G S E T z S' rg rs h => by cases h; exact t_yes ⟨rfl, ρ, .refl rs⟩
end
/-! ### targets -/
def gN (i : Nat) : Dt → Xe → Xs → Res Xe := fun x G S => .ok (G.set i (some x)) S
def gsNil : List Dt → Xe → Xs → Res Xe := fun xs G S => match xs with | [] => .ok G S | _ => .bad
def gsCons (g : Dt → Xe → Xs → Res Xe) (r : List Dt → Xe → Xs → Res Xe) : List Dt → Xe → Xs → Res Xe := fun xs G S => match xs with | x :: ys => (g x G S).bind fun G1 S1 => r ys G1 S1 | [] => .bad
def gTp (n : Nat) (r : List Dt → Xe → Xs → Res Xe) : Dt → Xe → Xs → Res Xe := fun x G S => match x with | .tup xs => if xs.length = n then r xs G S else .bad | _ => .bad
def ixX (n : Nat) (i : Int) : Option Nat := L2.ixN n i
/-- o[i] = x, o a list that is a cell -/
def gSb (o i : Me) : Dt → Xe → Xs → Res Xe := fun x G S => (o G S).bind fun a S1 => (i G S1).bind fun j S2 => match a, j with
  | .loc n, .int k => match S2[n]? with
    | some (.lst xs) => match L2.ixN xs.length k with
      | some q => .ok G (S2.set n (.lst (xs.set q x)))
      | none => .bad
    | _ => .bad
  | _, _ => .bad
section
variable {K : PySem.W.Frag} {κ : Nat → Addr} {to ti : TE} {mo mi : Me}
theorem tgx_name {i : Nat} : TgX K κ (gName i) (gN i) := fun ρ x d G S E T G' S' rd rg rs h => by
  cases h
  exact tg_name ⟨ρ, .refl rs, rg.set rd i⟩
theorem tgx_nil : TgsX K κ gNil gsNil := fun ρ x d G S E T G' S' rd rg rs h => by
  unfold gsNil at h
  split at h
  · cases h
    cases rd
    exact tg_nil ⟨ρ, .refl rs, rg⟩
  · cases h
theorem tgx_cons {g : TG} {u : TGs} {mg : Dt → Xe → Xs → Res Xe} {mu : List Dt → Xe → Xs → Res Xe} (h1 : TgX K κ g mg) (h2 : TgsX K κ u mu) : TgsX K κ (gCons g u) (gsCons mg mu) := fun ρ x d G S E T G' S' rd rg rs h => by
  unfold gsCons at h
  split at h
  · obtain ⟨G1, S1, e1, h⟩ := Res.bind_eq h
    cases rd with
    | cons r1 r2 => exact tg_cons (tgG_mono (h1 ρ _ _ G S E T G1 S1 r1 rg rs e1) fun E1 T1 ⟨ρ1, g1, rg1⟩ => tgsG_mono (h2 ρ1 _ _ G1 S1 E1 T1 G' S' (r2.mono g1.pre) rg1 g1.rst h) fun E2 T2 ⟨ρ2, g2, rg2⟩ => ⟨ρ2, g1.trans g2, rg2⟩)
  · cases h
theorem tgx_tup {n : Nat} {u : TGs} {mu : List Dt → Xe → Xs → Res Xe} (h2 : TgsX K κ u mu) : TgX K κ (gTup K n u) (gTp n mu) := fun ρ x d G S E T G' S' rd rg rs h => by
  unfold gTp at h
  split at h
  · split at h
    · rename_i hl
      obtain ⟨ds, rfl, ra⟩ := rd.tupD
      exact tg_tup (ra.length ▸ hl) (h2 ρ _ _ G S E T G' S' ra rg rs h)
    · cases h
  · cases h
theorem tgx_sub (ho : EvX K κ to mo) (hi : EvX K κ ti mi) : TgX K κ (L2.gSub to ti rSetL) (gSb mo mi) := fun ρ x d G S E T G' S' rd rg rs h => by
  obtain ⟨a, S1, e1, h⟩ := Res.bind_eq h
  obtain ⟨j, S2, e2, h⟩ := Res.bind_eq h
  cases a with
  | loc n =>
    cases j with
    | int k =>
      have h : (match S2[n]? with
        | some (.lst xs) => match L2.ixN xs.length k with
          | some q => Res.ok G (S2.set n (.lst (xs.set q x)))
          | none => .bad
        | _ => .bad) = .ok G' S' := h
      split at h
      · rename_i xs ec
        split at h
        · rename_i q eq
          cases h
          refine tg_setC (EvG.mono (ho ρ G S E T _ S1 rg rs e1) fun da T1 ⟨ρ1, g1, ra⟩ => EvG.mono (hi ρ1 G S1 E T1 _ S2 (rg.mono g1.pre) g1.rst e2) fun dj T2 ⟨ρ2, g2, rj⟩ => ?_)
          obtain ⟨l, el, hl⟩ := (ra.mono g2.pre).locD
          obtain ⟨c, hc, rc⟩ := g2.rst.cell n l _ hl ec
          cases rc with
          | lst rx =>
            exact ⟨l, _, k, q, el, rj.intD, hc, rx.length ▸ eq, ρ2, (g1.trans g2).trans (Go.put g2.rst hl (.lst (rx.set (rd.mono (g1.pre.trans g2.pre)) q))), rg.mono (g1.pre.trans g2.pre)⟩
        · cases h
      · cases h
    | _ => cases h
  | _ => cases h
end
end RX

set_option Elab.async false
set_option linter.all false
set_option maxRecDepth 100000
set_option maxHeartbeats 4000000
namespace RX
open PySem PySem.Spec PyProof.Rows L2 RS
/-! ### statements -/
def sBad : Ms := fun _ _ => .bad
def sNext : Ms := fun G S => .ok (.nx G) S
def sBreak : Ms := fun G S => .ok (.bk G) S
def sCont : Ms := fun G S => .ok (.ct G) S
def sSeq (a b : Ms) : Ms := fun G S => (a G S).bind fun o S1 => match o with | .nx G1 => b G1 S1 | o => .ok o S1
def sDrop (e : Me) : Ms := fun G S => (e G S).bind fun _ S1 => .ok (.nx G) S1
def sRet (e : Me) : Ms := fun G S => (e G S).bind fun x S1 => .ok (.rt x) S1
def sRetN : Ms := fun _ S => .ok (.rt .non) S
def sIf (t : Mt) (a b : Ms) : Ms := fun G S => (t G S).bind fun c S1 => if c = true then a G S1 else b G S1
def sAsg (e : Me) (g : Dt → Xe → Xs → Res Xe) : Ms := fun G S => (e G S).bind fun x S1 => (g x G S1).bind fun G1 S2 => .ok (.nx G1) S2
def sPar (i j : Nat) (r : Ma) : Ms := fun G S => (r G S).bind fun xs S1 => match xs with | [x, y] => .ok (.nx ((G.set i (some x)).set j (some y))) S1 | _ => .bad
def sAug (i : Nat) (fn : Int → Int → Int) (e : Me) : Ms := fun G S => match G[i]? with
  | some (some (.int a)) => (e G S).bind fun y S1 => match y with | .int b => .ok (.nx (G.set i (some (.int (fn a b))))) S1 | _ => .bad
  | _ => .bad
def forX (g : Dt → Xe → Xs → Res Xe) (b : Ms) : List Dt → Xe → Xs → Res Out
  | [], G, S => .ok (.nx G) S
  | x :: xs, G, S => (g x G S).bind fun G1 S1 => (b G1 S1).bind fun o S2 => match o with
    | .nx G2 => forX g b xs G2 S2
    | .ct G2 => forX g b xs G2 S2
    | .bk G2 => .ok (.nx G2) S2
    | .rt d => .ok (.rt d) S2
def sFor (w : Ma) (g : Dt → Xe → Xs → Res Xe) (b : Ms) : Ms := fun G S => (w G S).bind fun xs S1 => forX g b xs G S1
def whileX (t : Mt) (b : Ms) : Nat → Xe → Xs → Res Out
  | 0, _, _ => .bad
  | k + 1, G, S => (t G S).bind fun c S1 => if c = true then (b G S1).bind fun o S2 => match o with
    | .nx G2 => whileX t b k G2 S2
    | .ct G2 => whileX t b k G2 S2
    | .bk G2 => .ok (.nx G2) S2
    | .rt d => .ok (.rt d) S2 else .ok (.nx G) S1
def sWhile (fuel : Nat) (t : Mt) (b : Ms) : Ms := fun G S => whileX t b fuel G S
section
variable {K : PySem.W.Frag} {κ : Nat → Addr} {ta tb te : TE} {ma mb me : Me} {t u : TT} {mt mu : Mt} {s s' : TS} {ms ms' : Ms}
/-- ends behind a first step -/
theorem exG_after {ρ ρ1 : List Addr} {T T1 : Store} {S' S1 : Xs} {r : Out} {E : Env'} (g1 : Go κ ρ T ρ1 S1 T1) (h : ExG K s E T1 (EndsX κ ρ1 T1 r S')) : ExG K s E T1 (EndsX κ ρ T r S') :=
  exG_mono h (fun _ _ ⟨G', ρ', e, g, rg⟩ => ⟨G', ρ', e, g1.trans g, rg⟩) (fun _ _ ⟨G', ρ', e, g, rg⟩ => ⟨G', ρ', e, g1.trans g, rg⟩) (fun _ _ ⟨G', ρ', e, g, rg⟩ => ⟨G', ρ', e, g1.trans g, rg⟩) (fun _ _ ⟨G', ρ', e, g, rg⟩ => ⟨G', ρ', e, g1.trans g, rg⟩)
theorem st_bad {s : TS} : StX K κ s sBad := fun ρ G S E T r S' rg rs h => by cases h
theorem st_next : StX K κ tNext sNext := fun ρ G S E T r S' rg rs h => by cases h; exact x_next ⟨_, ρ, rfl, .refl rs, rg⟩
theorem st_break : StX K κ tBreak sBreak := fun ρ G S E T r S' rg rs h => by cases h; exact x_break ⟨_, ρ, rfl, .refl rs, rg⟩
theorem st_cont : StX K κ tCont sCont := fun ρ G S E T r S' rg rs h => by cases h; exact x_cont ⟨_, ρ, rfl, .refl rs, rg⟩
theorem st_seq (h1 : StX K κ s ms) (h2 : StX K κ s' ms') : StX K κ (tSeq s s') (sSeq ms ms') := fun ρ G S E T r S' rg rs h => by
  obtain ⟨o, S1, e1, h⟩ := Res.bind_eq h
  refine x_seq ?_
  have k := h1 ρ G S E T o S1 rg rs e1
  cases o with
  | nx G1 =>
    refine exG_mono k (fun E1 T1 ⟨G', ρ', e, g, rg'⟩ => ?_) (fun _ _ ⟨_, _, e, _⟩ => by cases e) (fun _ _ ⟨_, _, e, _⟩ => by cases e) (fun _ _ ⟨_, _, e, _⟩ => by cases e)
    cases e
    exact exG_after g (h2 ρ' G1 S1 E1 T1 r S' rg' g.rst h)
  | rt d =>
    cases h
    exact exG_mono k (fun _ _ ⟨_, _, e, _⟩ => by cases e) (fun _ _ h => h) (fun _ _ ⟨_, _, e, _⟩ => by cases e) (fun _ _ ⟨_, _, e, _⟩ => by cases e)
  | bk d =>
    cases h
    exact exG_mono k (fun _ _ ⟨_, _, e, _⟩ => by cases e) (fun _ _ ⟨_, _, e, _⟩ => by cases e) (fun _ _ h => h) (fun _ _ ⟨_, _, e, _⟩ => by cases e)
  | ct d =>
    cases h
    exact exG_mono k (fun _ _ ⟨_, _, e, _⟩ => by cases e) (fun _ _ ⟨_, _, e, _⟩ => by cases e) (fun _ _ ⟨_, _, e, _⟩ => by cases e) (fun _ _ h => h)
theorem st_drop (he : EvX K κ te me) : StX K κ (tDrop te) (sDrop me) := fun ρ G S E T r S' rg rs h => by
  obtain ⟨o, S1, e1, h⟩ := Res.bind_eq h
  cases h
  exact x_drop (EvG.mono (he ρ G S E T o _ rg rs e1) fun d T1 ⟨ρ1, g1, _⟩ => ⟨G, ρ1, rfl, g1, rg.mono g1.pre⟩)
theorem st_ret (he : EvX K κ te me) : StX K κ (tRet te) (sRet me) := fun ρ G S E T r S' rg rs h => by
  obtain ⟨o, S1, e1, h⟩ := Res.bind_eq h
  cases h
  exact x_ret (EvG.mono (he ρ G S E T o _ rg rs e1) fun d T1 ⟨ρ1, g1, r⟩ => ⟨o, ρ1, rfl, g1, r⟩)
theorem st_retN : StX K κ tRetN sRetN := fun ρ G S E T r S' rg rs h => by cases h; exact x_retN ⟨.non, ρ, rfl, .refl rs, .non⟩
theorem st_if (ht : TsX K κ t mt) (h1 : StX K κ s ms) (h2 : StX K κ s' ms') : StX K κ (tIfS t s s') (sIf mt ms ms') := fun ρ G S E T r S' rg rs h => by
  obtain ⟨c, S1, e1, h⟩ := Res.bind_eq h
  refine x_if (evT_mono (ht ρ G S E T c S1 rg rs e1) fun b T1 ⟨eb, ρ1, g1⟩ => ⟨fun ec => ?_, fun ec => ?_⟩)
  · rw [if_pos (eb.symm.trans ec)] at h
    exact exG_after g1 (h1 ρ1 G S1 E T1 r S' (rg.mono g1.pre) g1.rst h)
  · rw [eb.symm.trans ec, if_neg Bool.false_ne_true] at h
    exact exG_after g1 (h2 ρ1 G S1 E T1 r S' (rg.mono g1.pre) g1.rst h)
theorem st_asg {g : TG} {mg : Dt → Xe → Xs → Res Xe} (he : EvX K κ te me) (hg : TgX K κ g mg) : StX K κ (tAsg te g) (sAsg me mg) := fun ρ G S E T r S' rg rs h => by
  obtain ⟨x, S1, e1, h⟩ := Res.bind_eq h
  obtain ⟨G1, S2, e2, h⟩ := Res.bind_eq h
  cases h
  exact x_asg (EvG.mono (he ρ G S E T x S1 rg rs e1) fun d T1 ⟨ρ1, g1, r⟩ => tgG_mono (hg ρ1 x d G S1 E T1 G1 _ r (rg.mono g1.pre) g1.rst e2) fun E2 T2 ⟨ρ2, g2, rg2⟩ => ⟨G1, ρ2, rfl, g1.trans g2, rg2⟩)
theorem st_par {i j : Nat} {tr : TA} {mr : Ma} (hr : ArX K κ tr mr) : StX K κ (tPar i j tr) (sPar i j mr) := fun ρ G S E T r S' rg rs h => by
  obtain ⟨xs, S1, e1, h⟩ := Res.bind_eq h
  split at h
  · rename_i x y
    cases h
    refine x_par (evA_mono (hr ρ G S E T _ _ rg rs e1) fun d T1 ⟨ρ1, g1, r⟩ => ?_)
    cases r with
    | cons r1 r2 =>
      cases r2 with
      | cons r2 r3 =>
        cases r3
        exact ⟨_, _, rfl, _, ρ1, rfl, g1, ((rg.mono g1.pre).set r1 i).set r2 j⟩
  · cases h
theorem st_aug {i : Nat} {fn : Int → Int → Int} (he : EvX K κ te me) : StX K κ (tAug i te (ipI fn)) (sAug i fn me) := fun ρ G S E T r S' rg rs h => by
  unfold sAug at h
  split at h
  · rename_i a ea
    obtain ⟨y, S1, e1, h⟩ := Res.bind_eq h
    split at h
    · rename_i b
      cases h
      obtain ⟨d, hd, rd⟩ := rg.get ea
      have := rd.intD
      subst this
      exact x_aug hd (EvG.mono (he ρ G S E T _ _ rg rs e1) fun d T1 ⟨ρ1, g1, r⟩ => ⟨b, r.intD, _, ρ1, rfl, g1, (rg.mono g1.pre).set (.int _) i⟩)
    · cases h
  · cases h
theorem st_for {wi : TI} {mw : Ma} {g : TG} {mg : Dt → Xe → Xs → Res Xe} (hw : ItX K κ wi mw) (hg : TgX K κ g mg) (hb : StX K κ s ms) : StX K κ (tFor wi g s) (sFor mw mg ms) := fun ρ G S E T r S' rg rs h => by
  obtain ⟨xs, S1, e1, h⟩ := Res.bind_eq h
  refine x_for (ig_mono (hw ρ G S E T xs S1 rg rs e1) fun its T1 ⟨ρ1, g1, ri⟩ => ⟨fun i E' T' => ∃ ρ' G' S2, Go κ ρ1 T1 ρ' S2 T' ∧ RG κ ρ' G' E' ∧ forX mg ms (xs.drop i) G' S2 = .ok r S',
    ⟨ρ1, G, S1, .refl g1.rst, rg.mono g1.pre, h⟩, ?_, ?_⟩)
  · rintro i d E' T' hi ⟨ρ', G', S2, g2, rg2, h⟩
    obtain ⟨x, hx, rx⟩ := ri.getD hi
    have hd : xs.drop i = x :: xs.drop (i + 1) := by
      obtain ⟨hlt, e⟩ := List.getElem?_eq_some_iff.mp hx
      rw [← e]
      exact List.drop_eq_getElem_cons hlt
    rw [hd] at h
    obtain ⟨G3, S3, e3, h⟩ := Res.bind_eq h
    obtain ⟨o, S4, e4, h⟩ := Res.bind_eq h
    refine tgG_mono (hg ρ' x d G' S2 E' T' G3 S3 (rx.mono g2.pre) rg2 g2.rst e3) fun E3 T3 ⟨ρ3, g3, rg3⟩ => ?_
    have k := hb ρ3 G3 S3 E3 T3 o S4 rg3 g3.rst e4
    have g23 := g2.trans g3
    cases o with
    | nx G4 =>
      refine exG_mono k (fun E4 T4 ⟨G', ρ', e, g, rg'⟩ => ?_) (fun _ _ ⟨_, _, e, _⟩ => by cases e) (fun _ _ ⟨_, _, e, _⟩ => by cases e) (fun _ _ ⟨_, _, e, _⟩ => by cases e)
      cases e
      exact ⟨ρ', G4, S4, g23.trans g, rg', h⟩
    | ct G4 =>
      refine exG_mono k (fun _ _ ⟨_, _, e, _⟩ => by cases e) (fun _ _ ⟨_, _, e, _⟩ => by cases e) (fun _ _ ⟨_, _, e, _⟩ => by cases e) (fun E4 T4 ⟨G', ρ', e, g, rg'⟩ => ?_)
      cases e
      exact ⟨ρ', G4, S4, g23.trans g, rg', h⟩
    | bk G4 =>
      cases h
      refine exG_mono k (fun _ _ ⟨_, _, e, _⟩ => by cases e) (fun _ _ ⟨_, _, e, _⟩ => by cases e) (fun E4 T4 ⟨G', ρ', e, g, rg'⟩ => ?_) (fun _ _ ⟨_, _, e, _⟩ => by cases e)
      cases e
      exact ⟨_, ρ', rfl, (g1.trans g23).trans g, rg'⟩
    | rt d4 =>
      cases h
      refine exG_mono k (fun _ _ ⟨_, _, e, _⟩ => by cases e) (fun E4 T4 ⟨G', ρ', e, g, rg'⟩ => ?_) (fun _ _ ⟨_, _, e, _⟩ => by cases e) (fun _ _ ⟨_, _, e, _⟩ => by cases e)
      cases e
      exact ⟨_, ρ', rfl, (g1.trans g23).trans g, rg'⟩
  · rintro E' T' ⟨ρ', G', S2, g2, rg2, h⟩
    rw [← ri.length, List.drop_length] at h
    cases h
    exact ⟨_, ρ', rfl, g1.trans g2, rg2⟩
theorem st_while {fuel : Nat} (ht : TsX K κ t mt) (hb : StX K κ s ms) : StX K κ (tWhile t s) (sWhile fuel mt ms) := fun ρ G S E T r S' rg rs h => by
  refine x_while (fun m E' T' => ∃ ρ' G' S2, Go κ ρ T ρ' S2 T' ∧ RG κ ρ' G' E' ∧ whileX mt ms m G' S2 = .ok r S') fuel ⟨ρ, G, S, .refl rs, rg, h⟩ ?_
  rintro m E' T' ⟨ρ', G', S2, g2, rg2, h⟩
  cases m with
  | zero => cases h
  | succ m =>
    obtain ⟨c, S3, e3, h⟩ := Res.bind_eq h
    refine evT_mono (ht ρ' G' S2 E' T' c S3 rg2 g2.rst e3) fun b T3 ⟨eb, ρ3, g3⟩ => ⟨fun ec => ?_, fun ec => ?_⟩
    · rw [if_pos (eb.symm.trans ec)] at h
      obtain ⟨o, S4, e4, h⟩ := Res.bind_eq h
      have k := hb ρ3 G' S3 E' T3 o S4 (rg2.mono g3.pre) g3.rst e4
      have g23 := g2.trans g3
      cases o with
      | nx G4 =>
        refine exG_mono k (fun E4 T4 ⟨G', ρ', e, g, rg'⟩ => ?_) (fun _ _ ⟨_, _, e, _⟩ => by cases e) (fun _ _ ⟨_, _, e, _⟩ => by cases e) (fun _ _ ⟨_, _, e, _⟩ => by cases e)
        cases e
        exact ⟨m, Nat.lt_succ_self m, ρ', G4, S4, g23.trans g, rg', h⟩
      | ct G4 =>
        refine exG_mono k (fun _ _ ⟨_, _, e, _⟩ => by cases e) (fun _ _ ⟨_, _, e, _⟩ => by cases e) (fun _ _ ⟨_, _, e, _⟩ => by cases e) (fun E4 T4 ⟨G', ρ', e, g, rg'⟩ => ?_)
        cases e
        exact ⟨m, Nat.lt_succ_self m, ρ', G4, S4, g23.trans g, rg', h⟩
      | bk G4 =>
        cases h
        refine exG_mono k (fun _ _ ⟨_, _, e, _⟩ => by cases e) (fun _ _ ⟨_, _, e, _⟩ => by cases e) (fun E4 T4 ⟨G', ρ', e, g, rg'⟩ => ?_) (fun _ _ ⟨_, _, e, _⟩ => by cases e)
        cases e
        exact ⟨_, ρ', rfl, g23.trans g, rg'⟩
      | rt d4 =>
        cases h
        refine exG_mono k (fun _ _ ⟨_, _, e, _⟩ => by cases e) (fun E4 T4 ⟨G', ρ', e, g, rg'⟩ => ?_) (fun _ _ ⟨_, _, e, _⟩ => by cases e) (fun _ _ ⟨_, _, e, _⟩ => by cases e)
        cases e
        exact ⟨_, ρ', rfl, g23.trans g, rg'⟩
    · rw [eb.symm.trans ec, if_neg Bool.false_ne_true] at h
      cases h
      exact ⟨_, ρ3, rfl, g2.trans g3, rg2.mono g3.pre⟩
end
end RX

set_option Elab.async false
set_option linter.all false
set_option maxRecDepth 100000
set_option maxHeartbeats 4000000
namespace RX
open PySem PySem.Spec PyProof.Rows L2 RS
def wipeX (G : Xe) : List Nat → Xe
  | [] => G
  | v :: vs => (wipeX G vs).set v none
def lcX (g : Dt → Xe → Xs → Res Xe) (tt : Mt) (e : Me) (G : Xe) : List Dt → Xs → Res (List Dt)
  | [], S => .ok [] S
  | x :: xs, S => (g x G S).bind fun G1 S1 => (tt G1 S1).bind fun c S2 => if c = true then (e G1 S2).bind fun y S3 => (lcX g tt e G xs S3).bind fun ys S4 => .ok (y :: ys) S4 else lcX g tt e G xs S2
def lcR (w : Ma) (g : Dt → Xe → Xs → Res Xe) (tt : Mt) (e : Me) (vs : List Nat) : Ma := fun G S => (w G S).bind fun xs S1 => if xs.length ≤ 100000 then lcX g tt e (wipeX G vs) xs S1 else .bad
def mLc (w : Ma) (g : Dt → Xe → Xs → Res Xe) (tt : Mt) (e : Me) (vs : List Nat) : Me := fun G S => (lcR w g tt e vs G S).bind fun ys S2 => .ok (.lst ys) S2
def mLcC (w : Ma) (g : Dt → Xe → Xs → Res Xe) (tt : Mt) (e : Me) (vs : List Nat) : Me := fun G S => (lcR w g tt e vs G S).bind fun ys S2 => .ok (.loc S2.length) (S2 ++ [.lst ys])
section
variable {K : PySem.W.Frag} {κ : Nat → Addr}
theorem RG.set0 {ρ : List Addr} : ∀ {G : Xe} {E : Env'} (i : Nat) (o : Option D), RG κ ρ G E → RG κ ρ (G.set i none) (E.set i o)
  | _, _, _, _, .nil => .nil
  | _, _, 0, _, .cons0 r => .cons0 r
  | _, _, 0, _, .cons _ r => .cons0 r
  | _, _, i + 1, o, .cons0 r => .cons0 (RG.set0 i o r)
  | _, _, i + 1, o, .cons a r => .cons a (RG.set0 i o r)
theorem RG.wipe {ρ : List Addr} {G : Xe} {E : Env'} (r : RG κ ρ G E) : ∀ vs : List Nat, RG κ ρ (wipeX G vs) (wipeG E vs)
  | [] => r
  | v :: vs => (RG.wipe r vs).set0 v none
theorem lookup_dropC {T : Store} {a l : Addr} (h : a ≠ l) : (dropC T l).lookup a = T.lookup a := by
  induction T with
  | nil => rfl
  | cons p r ih =>
    obtain ⟨b, c⟩ := p
    unfold dropC at ih ⊢
    rw [List.filter_cons]
    by_cases q : b = l
    · subst q
      simp only [ne_eq, not_true_eq_false, decide_false, Bool.false_eq_true, if_false]
      rw [List.lookup_cons, ih]
      have : (a == b) = false := beq_eq_false_iff_ne.mpr h
      rw [this]
    · rw [if_pos (by simpa using q), List.lookup_cons, List.lookup_cons, ih]
/-- a run of a comprehension: the list at l holds what was made -/
structure Lcr (K : PySem.W.Frag) (κ : Nat → Addr) (ρ1 : List Addr) (T1 : Store) (H1 : Hp) (l : Addr) (ρ : List Addr) (S : Xs) (T : Store) (H : Hp) (pr : List Dt) (ds : List D) : Prop where
  pre : ρ1 <+: ρ
  rst : RSt κ ρ S T
  frame : ∀ a c, a ∉ ρ1 → T1.lookup a = some c → T.lookup a = some c
  fresh : ∀ a, a ∈ ρ → a ∈ ρ1 ∨ ¬ dom T1 a
  nl : l ∉ ρ
  at' : T.lookup l = some (.lst ds)
  rd : RDs κ ρ pr ds
  step : Step K T1 H1 T H
theorem Lcr.go {ρ1 ρ ρ' : List Addr} {T1 T T' : Store} {H1 H H' : Hp} {l : Addr} {S S' : Xs} {pre : List Dt} {ds : List D} (h : Lcr K κ ρ1 T1 H1 l ρ S T H pre ds) (g : Go κ ρ T ρ' S' T') (s : Step K T H T' H') : Lcr K κ ρ1 T1 H1 l ρ' S' T' H' pre ds where
  pre := h.pre.trans g.pre
  rst := g.rst
  frame := fun a c n e => by
    have e2 := h.frame a c n e
    refine g.frame a c (fun z => ?_) e2
    rcases h.fresh a z with q | q
    · exact n q
    · exact q (dom_of_lookup e)
  fresh := fun a m => by
    rcases g.fresh a m with q | q
    · exact h.fresh a q
    · by_cases z : a ∈ ρ1
      · exact .inl z
      · refine .inr fun d => ?_
        obtain ⟨c, e⟩ := dom_lookup d
        exact q (dom_of_lookup (h.frame a c z e))
  nl := fun m => by
    rcases g.fresh l m with q | q
    · exact h.nl q
    · exact q (dom_of_lookup h.at')
  at' := g.frame l _ h.nl h.at'
  rd := h.rd.mono g.pre
  step := h.step.trans s
theorem Lcr.put {ρ1 ρ : List Addr} {T1 T : Store} {H1 H : Hp} {l : Addr} {S : Xs} {pre : List Dt} {ds : List D} {x : Dt} {d : D} {v : V} {acc : List V} (h : Lcr K κ ρ1 T1 H1 l ρ S T H pre ds) (nl1 : ¬ dom T1 l) (rx : RD κ ρ x d) (rv : Rp K (dom T) H v d) (ha : H l = some (.lst acc)) (ra : RpAll K (dom T) H acc ds) :
    Lcr K κ ρ1 T1 H1 l ρ S (setC T l (.lst (ds ++ [d]))) (upd H l (.lst (acc ++ [v]))) (pre ++ [x]) (ds ++ [d]) where
  pre := h.pre
  rst := ⟨h.rst.nd, h.rst.len, fun n a y h1 h2 => by
    obtain ⟨c, e, r⟩ := h.rst.cell n a y h1 h2
    have hne : a ≠ l := fun z => h.nl (z ▸ List.mem_of_getElem? h1)
    exact ⟨c, by rw [lookup_setC_ne hne]; exact e, r⟩⟩
  frame := fun a c n e => by
    have hne : a ≠ l := fun z => nl1 (z ▸ dom_of_lookup e)
    rw [lookup_setC_ne hne]
    exact h.frame a c n e
  fresh := h.fresh
  nl := h.nl
  at' := lookup_setC h.at'
  rd := h.rd.append (.cons rx .nil)
  step := h.step.trans (.put h.step.st h.at' ⟨acc ++ [v], upd_same, (ra.append (.one rv)).lift (Lift.put h.at')⟩)
theorem lc_x {wi : TI} {mw : Ma} {g : TG} {mg : Dt → Xe → Xs → Res Xe} {tt : TT} {mt : Mt} {te : TE} {me : Me} {vs : List Nat} (wo : WipeOk g vs) (hw : ItX K κ wi mw) (hg : TgX K κ g mg) (ht : TsX K κ tt mt) (he : EvX K κ te me)
    {ρ : List Addr} {G : Xe} {S S' : Xs} {E : Env'} {T : Store} {ys : List Dt} (rg : RG κ ρ G E) (rs : RSt κ ρ S T) (h : lcR mw mg mt me vs G S = .ok ys S') {P : PD}
    (hP : ∀ ρ1 T1 l ρ' T' ds, Go κ ρ T ρ1 S' T1 ∨ True → ¬ dom T l → Go κ ρ T ρ' S' (dropC T' l) → Go κ ρ T (ρ' ++ [l]) (S' ++ [.lst ys]) T' → (ρ' ++ [l])[S'.length]? = some l → T'.lookup l = some (.lst ds) → RDs κ ρ' ys ds → P (.lst ds) (dropC T' l) ∨ P (.ref l) T') : EvG K (tLc wi g tt te vs) E T P := fun σ H e Q q => by
  obtain ⟨xs, S1, e1, h⟩ := Res.bind_eq h
  split at h
  case isFalse => cases h
  rename_i hlen
  refine hw ρ G S E T xs S1 rg rs e1 σ H e _ fun its T1 J H1 ⟨ρ1, g1, ri⟩ s1 ir => fun l hD => ?_
  have nl1 : ¬ dom T1 l := s1.st.nodom hD
  have nl0 : ¬ dom T l := fun z => by
    obtain ⟨c, ec⟩ := dom_lookup z
    by_cases zr : l ∈ ρ
    · obtain ⟨i, hi, ei⟩ := List.mem_iff_getElem.mp (g1.pre.subset zr)
      have hs : i < S1.length := g1.rst.len ▸ hi
      obtain ⟨c', e', _⟩ := g1.rst.cell i l S1[i] (by rw [List.getElem?_eq_getElem hi, ei]) (List.getElem?_eq_getElem hs)
      exact nl1 (dom_of_lookup e')
    · exact nl1 (dom_of_lookup (g1.frame l c zr ec))
  have hr1 : l ∉ ρ1 := fun zr => by
    obtain ⟨i, hi, ei⟩ := List.mem_iff_getElem.mp zr
    have hs : i < S1.length := g1.rst.len ▸ hi
    obtain ⟨c', e', _⟩ := g1.rst.cell i l S1[i] (by rw [List.getElem?_eq_getElem hi, ei]) (List.getElem?_eq_getElem hs)
    exact nl1 (dom_of_lookup e')
  have hl2 : its.length ≤ 100000 := ri.length ▸ hlen
  refine ⟨fun i m H' => m = its.length - i ∧ i ≤ its.length ∧ ∃ ρ' S2 T' pre ds rest, Lcr K κ ρ1 T1 H1 l ρ' S2 T' H' pre ds ∧ pre.length ≤ i ∧ lcX mg mt me (wipeX G vs) (xs.drop i) S2 = .ok rest S' ∧ ys = pre ++ rest,
    ⟨its.length, by simp, Nat.zero_le _, ρ1, S1, (l, .lst []) :: T1, [], [], ys, ⟨List.prefix_rfl, ⟨g1.rst.nd, g1.rst.len, fun n a x h1 h2 => ?_⟩, fun a c n ec => ?_, fun _ m => .inl m, hr1, by rw [List.lookup_cons]; simp, .nil, .cell s1.st hD ⟨[], upd_same, .nil⟩⟩, Nat.le_refl _, h, rfl⟩, ?_⟩
  · obtain ⟨c, ec, r⟩ := g1.rst.cell n a x h1 h2
    refine ⟨c, ?_, r⟩
    rw [List.lookup_cons]
    have : (a == l) = false := beq_eq_false_iff_ne.mpr fun z => nl1 (z ▸ dom_of_lookup ec)
    rw [this]
    exact ec
  · rw [List.lookup_cons]
    have : (a == l) = false := beq_eq_false_iff_ne.mpr fun z => nl1 (z ▸ dom_of_lookup ec)
    rw [this]
    exact ec
  rintro i m H' ⟨rfl, hi, ρ', S2, T', pre, ds, rest, L, hpl, h, hy⟩
  obtain ⟨hgo, hstop⟩ := ir H' (dom T') L.step.lft (fun a d => L.step.st.there d)
  by_cases hlt : i < its.length
  · obtain ⟨x, hx, rx⟩ := ri.getD (List.getElem?_eq_getElem hlt)
    have hd : xs.drop i = x :: xs.drop (i + 1) := by
      obtain ⟨hlt, e⟩ := List.getElem?_eq_some_iff.mp hx
      rw [← e]
      exact List.drop_eq_getElem_cons hlt
    rw [hd] at h
    obtain ⟨G3, S3, e3, h⟩ := Res.bind_eq h
    obtain ⟨c, S4, e4, h⟩ := Res.bind_eq h
    obtain ⟨k1, k2⟩ := hgo i its[i] (List.getElem?_eq_getElem hlt)
    refine .inr ⟨k1, fun H3 => ∃ ρ' S2 T' pre ds rest, Lcr K κ ρ1 T1 H1 l ρ' S2 T' H3 pre ds ∧ pre.length ≤ i + 1 ∧ lcX mg mt me (wipeX G vs) (xs.drop (i + 1)) S2 = .ok rest S' ∧ ys = pre ++ rest, ?_, ?_⟩
    · rintro H3 z
      exact ⟨its.length - (i + 1), by omega, rfl, hlt, z⟩
    · intro vx H3 hyl
      obtain ⟨k3, r3⟩ := k2 vx H3 hyl
      have s3 : Step K T' H' T' H3 := .ext L.step.st k3
      have L3 := L.go (Go.refl L.rst) s3
      have e3' : EnvOk K T' H3 (L2.wipe σ vs) (wipeG E vs) := ⟨s3.st, ((e.step s1).step L3.step).env.wipe vs⟩
      have rg3 : RG κ ρ' (wipeX G vs) (wipeG E vs) := (rg.wipe vs).mono (g1.pre.trans L.pre)
      have tg := hg ρ' x its[i] (wipeX G vs) S2 (wipeG E vs) T' G3 S3 (rx.mono L.pre) rg3 L.rst e3 (L2.wipe σ vs) H3 vx e3' r3
      refine wo vx (L2.wipe σ vs) H3 _ _ (fun σ2 H2 ew ⟨E2, T2, ρ2, e2, st2, g2, rg2⟩ => ?_) (tg (fun σ2 H2 => ∃ E2 T2 ρ2, EnvOk K T2 H2 σ2 E2 ∧ Step K T' H3 T2 H2 ∧ Go κ ρ' T' ρ2 S3 T2 ∧ RG κ ρ2 G3 E2) fun E2 T2 σ2 H2 ⟨ρ2, g2, rg2⟩ s e => ⟨E2, T2, ρ2, e, s, g2, rg2⟩)
      rw [wipe_wipe] at ew
      refine ⟨ew, ht ρ2 G3 S3 E2 T2 c S4 rg2 g2.rst e4 σ2 H2 e2 _ fun b T4 H4 ⟨eb, ρ4, g4⟩ s4 => ?_⟩
      subst eb
      have L4 := (L3.go g2 st2).go g4 s4
      cases b with
      | true =>
        rw [if_pos rfl] at h ⊢
        obtain ⟨y, S5, e5, h⟩ := Res.bind_eq h
        obtain ⟨zs, S6, e6, h⟩ := Res.bind_eq h
        cases h
        refine he ρ4 G3 S4 E2 T4 y S5 (rg2.mono g4.pre) g4.rst e5 σ2 H4 (e2.step s4) _ fun dy T5 vy H5 ⟨ρ5, g5, ry⟩ s5 rv => ?_
        have L5 := L4.go g5 s5
        obtain ⟨acc, ha, ra⟩ := L5.step.st.ok l (.lst ds) (lookup_mem L5.at')
        have hal : acc.length ≤ i := by rw [ra.length, ← L5.rd.length]; exact hpl
        exact ⟨acc, ha, Nat.lt_of_le_of_lt (Nat.le_trans hal (Nat.le_trans hi hl2)) (by decide), ρ5, S5, _, pre ++ [y], _, zs, L5.put nl1 ry rv ha ra, by simp; exact hpl, e6, by rw [hy]; simp⟩
      | false =>
        rw [if_neg Bool.false_ne_true] at h ⊢
        exact ⟨ρ4, S4, T4, pre, ds, rest, L4, Nat.le_succ_of_le hpl, h, hy⟩
  · have ei : i = its.length := by omega
    subst ei
    refine .inl ⟨hstop, ?_⟩
    rw [← ri.length, List.drop_length] at h
    cases h
    rw [List.append_nil] at hy
    subst hy
    have gd : Go κ ρ1 T1 ρ' S' (dropC T' l) := ⟨L.pre, ⟨L.rst.nd, L.rst.len, fun n a x h1 h2 => by
        obtain ⟨c, ec, r⟩ := L.rst.cell n a x h1 h2
        have hne : a ≠ l := fun z => L.nl (z ▸ List.mem_of_getElem? h1)
        exact ⟨c, by rw [lookup_dropC hne]; exact ec, r⟩⟩,
      fun a c n ec => by
        have hne : a ≠ l := fun z => nl1 (z ▸ dom_of_lookup ec)
        rw [lookup_dropC hne]
        exact L.frame a c n ec, L.fresh⟩
    have hidx : (ρ' ++ [l])[S'.length]? = some l := by rw [← L.rst.len]; simp
    have gc : Go κ ρ1 T1 (ρ' ++ [l]) (S' ++ [.lst ys]) T' := by
      have hp : ρ' <+: ρ' ++ [l] := List.prefix_append _ _
      refine ⟨L.pre.trans hp, ⟨?_, by simp [L.rst.len], ?_⟩, L.frame, ?_⟩
      · rw [List.nodup_append]
        refine ⟨L.rst.nd, by simp, fun a ha b hb => ?_⟩
        simp at hb
        subst hb
        exact fun z => L.nl (z ▸ ha)
      · intro i a x' h1 h2
        by_cases hi : i < S'.length
        · rw [List.getElem?_append_left hi] at h2
          rw [List.getElem?_append_left (L.rst.len.symm ▸ hi)] at h1
          obtain ⟨c', e', r'⟩ := L.rst.cell i a x' h1 h2
          exact ⟨c', e', r'.mono hp⟩
        · have hi2 : i = S'.length := by
            have := (List.getElem?_eq_some_iff.mp h2).1
            simp at this
            omega
          subst hi2
          rw [hidx] at h1
          simp at h1 h2
          subst h1 h2
          exact ⟨_, L.at', .lst (L.rd.mono hp)⟩
      · intro a ha
        rcases List.mem_append.mp ha with z | z
        · exact L.fresh a z
        · simp at z; subst z; exact .inr nl1
    rcases hP ρ' T' l ρ' T' ds (.inr trivial) nl0 (g1.trans gd) (g1.trans gc) hidx L.at' L.rd with p | p
    · obtain ⟨xs, hx, rx⟩ := L.step.st.ok l (.lst ds) (lookup_mem L.at')
      have sd : Step K T' H' (dropC T' l) H' := .drop L.step.st l
      exact q _ _ _ _ p ((s1.trans L.step).trans sd) (.lst hx dropC_dom (rx.lift sd.lft))
    · exact q _ _ _ _ p (s1.trans L.step) (.ref l)
theorem em_lc {wi : TI} {mw : Ma} {g : TG} {mg : Dt → Xe → Xs → Res Xe} {tt : TT} {mt : Mt} {te : TE} {me : Me} {vs : List Nat} (wo : WipeOk g vs) (hw : ItX K κ wi mw) (hg : TgX K κ g mg) (ht : TsX K κ tt mt) (he : EvX K κ te me) : EvX K κ (tLc wi g tt te vs) (mLc mw mg mt me vs) := fun ρ G S E T x S' rg rs h => by
  obtain ⟨ys, S2, e1, h⟩ := Res.bind_eq h
  cases h
  exact lc_x wo hw hg ht he rg rs e1 fun ρ1 T1 l ρ' T' ds _ _ g1 _ _ _ rd => .inl ⟨ρ', g1, .lst rd⟩
theorem em_lcC {wi : TI} {mw : Ma} {g : TG} {mg : Dt → Xe → Xs → Res Xe} {tt : TT} {mt : Mt} {te : TE} {me : Me} {vs : List Nat} (wo : WipeOk g vs) (hw : ItX K κ wi mw) (hg : TgX K κ g mg) (ht : TsX K κ tt mt) (he : EvX K κ te me) : EvX K κ (tLc wi g tt te vs) (mLcC mw mg mt me vs) := fun ρ G S E T x S' rg rs h => by
  obtain ⟨ys, S2, e1, h⟩ := Res.bind_eq h
  cases h
  exact lc_x wo hw hg ht he rg rs e1 fun ρ1 T1 l ρ' T' ds _ _ _ g2 hi _ rd => .inr ⟨_, g2, .loc hi⟩
end
end RX

set_option Elab.async false
set_option linter.all false
set_option maxRecDepth 100000
set_option maxHeartbeats 4000000
namespace RX
open PySem PySem.Spec PyProof.Rows L2 RS
/-! ### readings told by what is computed -/
section
variable (K : PySem.W.Frag) (κ : Nat → Addr)
def teM (m : Me) : TE := fun σ H Q => ∃ ρ G S E T x S', EnvOk K T H σ E ∧ RG κ ρ G E ∧ RSt κ ρ S T ∧ m G S = .ok x S' ∧ ∀ d T' v H', (∃ ρ', Go κ ρ T ρ' S' T' ∧ RD κ ρ' x d) → Step K T H T' H' → Rp K (dom T') H' v d → Q v H'
def ttM (m : Mt) : TT := fun σ H Q => ∃ ρ G S E T x S', EnvOk K T H σ E ∧ RG κ ρ G E ∧ RSt κ ρ S T ∧ m G S = .ok x S' ∧ ∀ b T' H', (b = x ∧ ∃ ρ', Go κ ρ T ρ' S' T') → Step K T H T' H' → Q b H'
def taM (m : Ma) : TA := fun σ H Q => ∃ ρ G S E T x S', EnvOk K T H σ E ∧ RG κ ρ G E ∧ RSt κ ρ S T ∧ m G S = .ok x S' ∧ ∀ d T' v H', (∃ ρ', Go κ ρ T ρ' S' T' ∧ RDs κ ρ' x d) → Step K T H T' H' → RpAll K (dom T') H' v d → Q v H'
def tiM (m : Ma) : TI := fun σ H R => ∃ ρ G S E T x S', EnvOk K T H σ E ∧ RG κ ρ G E ∧ RSt κ ρ S T ∧ m G S = .ok x S' ∧ ∀ its T' J H', (∃ ρ', Go κ ρ T ρ' S' T' ∧ RDs κ ρ' x its) → Step K T H T' H' → ItR K J its (dom T') H' → R J H'
def tsM (m : Ms) : TS := fun D σ H => ∃ ρ G S E T r S', EnvOk K T H σ E ∧ RG κ ρ G E ∧ RSt κ ρ S T ∧ m G S = .ok r S' ∧ Fits K T H (EndsX κ ρ T r S') D
def tgM (m : Dt → Xe → Xs → Res Xe) : TG := fun v σ H Q => ∃ ρ x d G S E T G' S', Rp K (dom T) H v d ∧ EnvOk K T H σ E ∧ RD κ ρ x d ∧ RG κ ρ G E ∧ RSt κ ρ S T ∧ m x G S = .ok G' S' ∧ ∀ E' T' σ' H', (∃ ρ', Go κ ρ T ρ' S' T' ∧ RG κ ρ' G' E') → Step K T H T' H' → EnvOk K T' H' σ' E' → Q σ' H'
end
section
variable {K : PySem.W.Frag} {κ : Nat → Addr} {X : Cx}
theorem te_self {m : Me} : EvX K κ (teM K κ m) m := fun ρ G S E T x S' rg rs h σ H e Q q => ⟨ρ, G, S, E, T, x, S', e, rg, rs, h, q⟩
theorem tt_self {m : Mt} : TsX K κ (ttM K κ m) m := fun ρ G S E T x S' rg rs h σ H e Q q => ⟨ρ, G, S, E, T, x, S', e, rg, rs, h, q⟩
theorem ta_self {m : Ma} : ArX K κ (taM K κ m) m := fun ρ G S E T x S' rg rs h σ H e Q q => ⟨ρ, G, S, E, T, x, S', e, rg, rs, h, q⟩
theorem ti_self {m : Ma} : ItX K κ (tiM K κ m) m := fun ρ G S E T x S' rg rs h σ H e Q q => ⟨ρ, G, S, E, T, x, S', e, rg, rs, h, q⟩
theorem ts_self {m : Ms} : StX K κ (tsM K κ m) m := fun ρ G S E T r S' rg rs h σ H D e f => ⟨ρ, G, S, E, T, r, S', e, rg, rs, h, f⟩
theorem tg_self {m : Dt → Xe → Xs → Res Xe} : TgX K κ (tgM K κ m) m := fun ρ x d G S E T G' S' rd rg rs h σ H v e rv Q q => ⟨ρ, x, d, G, S, E, T, G', S', rv, e, rd, rg, rs, h, q⟩
abbrev PEm (X : Cx) (K : PySem.W.Frag) (κ : Nat → Addr) (e : Expr) (m : Me) : Prop := PE X e (teM K κ m)
abbrev PTm (X : Cx) (K : PySem.W.Frag) (κ : Nat → Addr) (e : Expr) (m : Mt) : Prop := PT X e (ttM K κ m)
abbrev PWm (X : Cx) (K : PySem.W.Frag) (κ : Nat → Addr) (e : Expr) (m : Mt) : Prop := PW X e (ttM K κ m)
abbrev PAm (X : Cx) (K : PySem.W.Frag) (κ : Nat → Addr) (e : List Expr) (m : Ma) : Prop := PA X e (taM K κ m)
abbrev PIm (X : Cx) (K : PySem.W.Frag) (κ : Nat → Addr) (tg e : Expr) (m : Ma) : Prop := PI X tg e (tiM K κ m)
abbrev PSm (X : Cx) (K : PySem.W.Frag) (κ : Nat → Addr) (e : Stmt) (m : Ms) : Prop := PS X e (tsM K κ m)
abbrev PBm (X : Cx) (K : PySem.W.Frag) (κ : Nat → Addr) (e : List Stmt) (m : Ms) : Prop := PSs X e (tsM K κ m)
abbrev PGm (X : Cx) (K : PySem.W.Frag) (κ : Nat → Addr) (e : Expr) (m : Dt → Xe → Xs → Res Xe) : Prop := PG X e (tgM K κ m)
theorem pe_m {e : Expr} {te : TE} {m : Me} (h : PE X e te) (k : EvX K κ te m) : PEm X K κ e m := ⟨fun pins s σ H Q I ⟨ρ, G, S, E, T, x, S', a, b, c, d, q⟩ => h.run pins s σ H Q I (k ρ G S E T x S' b c d σ H a Q q)⟩
theorem pt_m {e : Expr} {te : TT} {m : Mt} (h : PT X e te) (k : TsX K κ te m) : PTm X K κ e m := ⟨fun pins s σ H Q I ⟨ρ, G, S, E, T, x, S', a, b, c, d, q⟩ => h.run pins s σ H Q I (k ρ G S E T x S' b c d σ H a Q q)⟩
theorem pw_m {e : Expr} {te : TT} {m : Mt} (h : PW X e te) (k : TsX K κ te m) : PWm X K κ e m := ⟨fun w pins s σ H Q I ⟨ρ, G, S, E, T, x, S', a, b, c, d, q⟩ => h.run w pins s σ H Q I (k ρ G S E T x S' b c d σ H a Q q)⟩
theorem pa_m {e : List Expr} {te : TA} {m : Ma} (h : PA X e te) (k : ArX K κ te m) : PAm X K κ e m := ⟨fun w pins s σ H Q I ⟨ρ, G, S, E, T, x, S', a, b, c, d, q⟩ => h.run w pins s σ H Q I (k ρ G S E T x S' b c d σ H a Q q)⟩
theorem pi_m {tg e : Expr} {te : TI} {m : Ma} (h : PI X tg e te) (k : ItX K κ te m) : PIm X K κ tg e m := ⟨fun pins s σ H Q I ⟨ρ, G, S, E, T, x, S', a, b, c, d, q⟩ => h.run pins s σ H Q I (k ρ G S E T x S' b c d σ H a Q q)⟩
theorem ps_m {e : Stmt} {te : TS} {m : Ms} (h : PS X e te) (k : StX K κ te m) : PSm X K κ e m := ⟨fun pins s σ H D I ⟨ρ, G, S, E, T, x, S', a, b, c, d, q⟩ => h.run pins s σ H D I (k ρ G S E T x S' b c d σ H D a q)⟩
theorem pb_m {e : List Stmt} {te : TS} {m : Ms} (h : PSs X e te) (k : StX K κ te m) : PBm X K κ e m := ⟨fun pins s σ H D I ⟨ρ, G, S, E, T, x, S', a, b, c, d, q⟩ => h.run pins s σ H D I (k ρ G S E T x S' b c d σ H D a q)⟩
theorem pg_m {e : Expr} {te : TG} {m : Dt → Xe → Xs → Res Xe} (h : PG X e te) (k : TgX K κ te m) : PGm X K κ e m := ⟨fun pins s σ H v u Q I r ⟨ρ, x, d, G, S, E, T, G', S', rv, a, b, c, e, f, q⟩ => h.run pins s σ H v u Q I r (k ρ x d G S E T G' S' b c e f σ H v a rv Q q)⟩
theorem px_bad {e : Expr} : PEm X K κ e mBad := ⟨fun pins s σ H Q I ⟨ρ, G, S, E, T, x, S', a, b, c, d, q⟩ => by cases d⟩
theorem sx_bad {e : Stmt} : PSm X K κ e sBad := ⟨fun pins s σ H Q I ⟨ρ, G, S, E, T, x, S', a, b, c, d, q⟩ => by cases d⟩
end
/-! ### what leaves a def -/
def mapO {α β : Type} (f : α → Option β) : List α → Option (List β)
  | [] => some []
  | x :: xs => match f x with | some y => (match mapO f xs with | some ys => some (y :: ys) | none => none) | none => none
def sndO {α β γ : Type} (f : β → Option γ) : α × β → Option (α × γ) := fun p => match f p.2 with | some y => some (p.1, y) | none => none
/-- the cells from b on become data -/
def fz (S : Xs) (b : Nat) : Nat → Dt → Option Dt
  | 0, _ => none
  | k + 1, x => match x with
    | .loc n => if n < b then some (.loc n) else match S[n]? with
      | some (.lst xs) => (mapO (fz S b k) xs).map .lst
      | some (.ins c fs) => (mapO (sndO (fz S b k)) fs).map (.obj c)
      | _ => none
    | .lst xs => (mapO (fz S b k) xs).map .lst
    | .tup xs => (mapO (fz S b k) xs).map .tup
    | .obj c fs => (mapO (sndO (fz S b k)) fs).map (.obj c)
    | x => some x
/-- no cell from b on -/
def cln (b : Nat) : Nat → Dt → Bool
  | 0, _ => false
  | k + 1, x => match x with
    | .loc n => decide (n < b)
    | .lst xs => xs.all (cln b k)
    | .tup xs => xs.all (cln b k)
    | .obj _ fs => fs.all fun p => cln b k p.2
    | _ => true
def clnC (b : Nat) : Xc → Bool
  | .lst xs => xs.all (cln b 64)
  | .ins _ fs => fs.all fun p => cln b 64 p.2
  | .dK kvs => kvs.all fun p => cln b 64 p.2
  | .dT kvs => kvs.all fun p => cln b 64 p.2
def exitX (b : Nat) (x : Dt) (S : Xs) : Res Dt := if S.length = b then .ok x S else match fz S b 64 x with
  | some y => if (S.take b).all (clnC b) = true then .ok y (S.take b) else .bad
  | none => .bad
section
variable {K : PySem.W.Frag} {κ : Nat → Addr} {ρ ρ' : List Addr}
theorem pre_take {b n : Nat} (h : ρ <+: ρ') (hb : ρ.length = b) (hn : n < b) : ρ[n]? = ρ'[n]? := by
  obtain ⟨r, rfl⟩ := h
  rw [List.getElem?_append_left (by omega)]
theorem cln_ok {b : Nat} (h : ρ <+: ρ') (hb : ρ.length = b) : ∀ (k : Nat) {x : Dt} {d : D}, cln b k x = true → RD κ ρ' x d → RD κ ρ x d := by
  intro k
  induction k with
  | zero => intro x d c; cases c
  | succ k ih =>
    have ihs : ∀ {xs : List Dt} {ds : List D}, xs.all (cln b k) = true → RDs κ ρ' xs ds → RDs κ ρ xs ds := by
      intro xs
      induction xs with
      | nil => intro ds _ r; cases r; exact .nil
      | cons x xs ih2 =>
        intro ds c r
        rw [List.all_cons, Bool.and_eq_true] at c
        cases r with
        | cons r1 r2 => exact .cons (ih c.1 r1) (ih2 c.2 r2)
    have ihf : ∀ {xs : List (Str × Dt)} {ds : List (Str × D)}, xs.all (fun p => cln b k p.2) = true → RDF κ ρ' xs ds → RDF κ ρ xs ds := by
      intro xs
      induction xs with
      | nil => intro ds _ r; cases r; exact .nil
      | cons x xs ih2 =>
        intro ds c r
        rw [List.all_cons, Bool.and_eq_true] at c
        cases r with
        | cons r1 r2 => exact .cons (ih c.1 r1) (ih2 c.2 r2)
    intro x d c r
    cases r with
    | non => exact .non
    | bl b => exact .bl b
    | int i => exact .int i
    | str x => exact .str x
    | ty n => exact .ty n
    | frz n => exact .frz n
    | cls n => exact .cls n
    | loc e => exact .loc ((pre_take h hb (of_decide_eq_true c)).trans e)
    | lst r => exact .lst (ihs c r)
    | tup r => exact .tup (ihs c r)
    | obj r => exact .obj (ihf c r)
theorem clns_ok {b k : Nat} (h : ρ <+: ρ') (hb : ρ.length = b) : ∀ {xs : List Dt} {ds : List D}, xs.all (cln b k) = true → RDs κ ρ' xs ds → RDs κ ρ xs ds := by
  intro xs
  induction xs with
  | nil => intro ds _ r; cases r; exact .nil
  | cons x xs ih2 =>
    intro ds c r
    rw [List.all_cons, Bool.and_eq_true] at c
    cases r with
    | cons r1 r2 => exact .cons (cln_ok h hb k c.1 r1) (ih2 c.2 r2)
theorem clnf_ok {b k : Nat} (h : ρ <+: ρ') (hb : ρ.length = b) : ∀ {xs : List (Str × Dt)} {ds : List (Str × D)}, xs.all (fun p => cln b k p.2) = true → RDF κ ρ' xs ds → RDF κ ρ xs ds := by
  intro xs
  induction xs with
  | nil => intro ds _ r; cases r; exact .nil
  | cons x xs ih2 =>
    intro ds c r
    rw [List.all_cons, Bool.and_eq_true] at c
    cases r with
    | cons r1 r2 => exact .cons (cln_ok h hb k c.1 r1) (ih2 c.2 r2)
theorem clnk_ok {b k : Nat} (h : ρ <+: ρ') (hb : ρ.length = b) {τ : Type} : ∀ {xs : List (τ × Dt)} {ds : List (τ × D)}, xs.all (fun p => cln b k p.2) = true → RDK κ ρ' xs ds → RDK κ ρ xs ds := by
  intro xs
  induction xs with
  | nil => intro ds _ r; cases r; exact .nil
  | cons x xs ih2 =>
    intro ds c r
    rw [List.all_cons, Bool.and_eq_true] at c
    cases r with
    | cons r1 r2 => exact .cons (cln_ok h hb k c.1 r1) (ih2 c.2 r2)
theorem lookup_filter {T : Store} {f : Addr → Bool} {a : Addr} {c : Cell} (ha : f a = true) (h : T.lookup a = some c) : (T.filter fun p => f p.1).lookup a = some c := by
  induction T with
  | nil => cases h
  | cons p r ih =>
    obtain ⟨b, u⟩ := p
    rw [List.lookup_cons] at h
    rw [List.filter_cons]
    by_cases q : a = b
    · subst q
      rw [if_pos ha, List.lookup_cons]
      have e : (a == a) = true := by simp
      rw [e] at h ⊢
      exact h
    · have : (a == b) = false := beq_eq_false_iff_ne.mpr q
      rw [this] at h
      split
      · rw [List.lookup_cons, this]
        exact ih h
      · exact ih h
theorem fz_ok {b : Nat} {S : Xs} {T T2 : Store} {H : Hp} (h : ρ <+: ρ') (hb : ρ.length = b) (rst : RSt κ ρ' S T) (st : StOk K T H) (L : Lift (dom T) H (dom T2) H) (hd : ∀ n a, b ≤ n → ρ'[n]? = some a → ¬ dom T2 a) :
    ∀ (k : Nat) {x y : Dt} {d : D} {v : V}, fz S b k x = some y → RD κ ρ' x d → Rp K (dom T) H v d → ∃ d', RD κ ρ y d' ∧ Rp K (dom T2) H v d' := by
  intro k
  induction k with
  | zero => intro x y d v e; cases e
  | succ k ih =>
    have ihs : ∀ {xs ys : List Dt} {ds : List D} {vs : List V}, mapO (fz S b k) xs = some ys → RDs κ ρ' xs ds → RpAll K (dom T) H vs ds → ∃ ds', RDs κ ρ ys ds' ∧ RpAll K (dom T2) H vs ds' := by
      intro xs
      induction xs with
      | nil => intro ys ds vs e r q; cases r; cases q; cases e; exact ⟨[], .nil, .nil⟩
      | cons x xs ih2 =>
        intro ys ds vs e r q
        unfold mapO at e
        cases r with
        | cons r1 r2 =>
          cases q with
          | cons q1 q2 =>
            split at e
            · rename_i y1 e1
              split at e
              · rename_i ys1 e2
                cases e
                obtain ⟨d', a1, a2⟩ := ih e1 r1 q1
                obtain ⟨ds', b1, b2⟩ := ih2 e2 r2 q2
                exact ⟨_, .cons a1 b1, .cons a2 b2⟩
              · cases e
            · cases e
    have ihf : ∀ {xs ys : List (Str × Dt)} {ds : List (Str × D)} {vs : List (Str × V)}, mapO (sndO (fz S b k)) xs = some ys → RDF κ ρ' xs ds → RpF K (dom T) H vs ds → ∃ ds', RDF κ ρ ys ds' ∧ RpF K (dom T2) H vs ds' := by
      intro xs
      induction xs with
      | nil => intro ys ds vs e r q; cases r; cases q; cases e; exact ⟨[], .nil, .nil⟩
      | cons x xs ih2 =>
        intro ys ds vs e r q
        unfold mapO at e
        cases r with
        | cons r1 r2 =>
          cases q with
          | cons q1 q2 =>
            split at e
            · rename_i y1 e1
              split at e
              · rename_i ys1 e2
                cases e
                unfold sndO at e1
                split at e1
                · rename_i y2 e3
                  cases e1
                  obtain ⟨d', a1, a2⟩ := ih e3 r1 q1
                  obtain ⟨ds', b1, b2⟩ := ih2 e2 r2 q2
                  exact ⟨_, .cons a1 b1, .cons a2 b2⟩
                · cases e1
              · cases e
            · cases e
    intro x y d v e r q
    cases r with
    | non => cases e; exact ⟨_, .non, q.lift L⟩
    | bl b => cases e; exact ⟨_, .bl b, q.lift L⟩
    | int i => cases e; exact ⟨_, .int i, q.lift L⟩
    | str x => cases e; exact ⟨_, .str x, q.lift L⟩
    | ty n => cases e; exact ⟨_, .ty n, q.lift L⟩
    | frz n => cases e; exact ⟨_, .frz n, q.lift L⟩
    | cls n => cases e; exact ⟨_, .cls n, q.lift L⟩
    | @loc n a hn =>
      have e : (if n < b then some (Dt.loc n) else match S[n]? with
        | some (.lst xs) => (mapO (fz S b k) xs).map .lst
        | some (.ins c fs) => (mapO (sndO (fz S b k)) fs).map (.obj c)
        | _ => none) = some y := e
      have hv := q.refV
      subst hv
      split at e
      · rename_i hlt
        cases e
        exact ⟨_, .loc ((pre_take h hb hlt).trans hn), .ref a⟩
      · rename_i hge
        have nd := hd n a (by omega) hn
        split at e
        · rename_i xs ec
          obtain ⟨c, hc, rc⟩ := rst.cell n a _ hn ec
          cases rc with
          | lst rx =>
            obtain ⟨vs, hx, ra⟩ := st.ok a _ (lookup_mem hc)
            cases em : mapO (fz S b k) xs with
            | none => rw [em] at e; cases e
            | some ys =>
              rw [em] at e
              cases e
              obtain ⟨ds', b1, b2⟩ := ihs em rx ra
              exact ⟨_, .lst b1, .lst hx nd b2⟩
        · rename_i c fs ec
          obtain ⟨c', hc, rc⟩ := rst.cell n a _ hn ec
          cases rc with
          | ins rx =>
            obtain ⟨dx, gs, hx, ra⟩ := st.ok a _ (lookup_mem hc)
            cases em : mapO (sndO (fz S b k)) fs with
            | none => rw [em] at e; cases e
            | some ys =>
              rw [em] at e
              cases e
              obtain ⟨ds', b1, b2⟩ := ihf em rx ra
              exact ⟨_, .obj b1, .obj hx nd b2⟩
        · cases e
    | @lst xs ds r =>
      have e : (mapO (fz S b k) xs).map Dt.lst = some y := e
      cases em : mapO (fz S b k) xs with
      | none => rw [em] at e; cases e
      | some ys =>
        rw [em] at e
        cases e
        cases q with
        | lst hx nd ra =>
          obtain ⟨ds', b1, b2⟩ := ihs em r ra
          exact ⟨_, .lst b1, .lst hx (L.rd (.inl hx) nd).2 b2⟩
    | @tup xs ds r =>
      have e : (mapO (fz S b k) xs).map Dt.tup = some y := e
      cases em : mapO (fz S b k) xs with
      | none => rw [em] at e; cases e
      | some ys =>
        rw [em] at e
        cases e
        cases q with
        | tup hx nd ra =>
          obtain ⟨ds', b1, b2⟩ := ihs em r ra
          exact ⟨_, .tup b1, .tup hx (L.rd (.inl hx) nd).2 b2⟩
        | tupK hx ra =>
          obtain ⟨ds', b1, b2⟩ := ihs em r ra
          exact ⟨_, .tup b1, .tupK hx b2⟩
    | @obj c xs ds r =>
      have e : (mapO (sndO (fz S b k)) xs).map (Dt.obj c) = some y := e
      cases em : mapO (sndO (fz S b k)) xs with
      | none => rw [em] at e; cases e
      | some ys =>
        rw [em] at e
        cases e
        cases q with
        | obj hx nd ra =>
          obtain ⟨ds', b1, b2⟩ := ihf em r ra
          exact ⟨_, .obj b1, .obj hx (L.rd (.inl hx) nd).2 b2⟩
/-- a def is left -/
theorem exit_ok {T T' : Store} {H' : Hp} {S' S2 : Xs} {x y : Dt} {d : D} {v : V} (g : Go κ ρ T ρ' S' T') (hx : exitX ρ.length x S' = .ok y S2) (st : StOk K T' H') (rd : RD κ ρ' x d) (rv : Rp K (dom T') H' v d) :
    ∃ T2 d2, Go κ ρ T ρ S2 T2 ∧ RD κ ρ y d2 ∧ Step K T' H' T2 H' ∧ Rp K (dom T2) H' v d2 := by
  unfold exitX at hx
  split at hx
  · rename_i hl
    cases hx
    have e : ρ' = ρ := by
      have hlen := g.rst.len
      obtain ⟨r, rfl⟩ := g.pre
      have : r = [] := by
        have h2 : (ρ ++ r).length = ρ.length := hlen.trans hl
        rw [List.length_append] at h2
        exact List.length_eq_zero_iff.mp (by omega)
      rw [this, List.append_nil]
    subst e
    exact ⟨T', d, g, rd, .refl st, rv⟩
  · split at hx
    · rename_i z ez
      split at hx
      · rename_i hc
        cases hx
        let T2 : Store := T'.filter fun p => decide (p.1 ∉ ρ'.drop ρ.length)
        have hsub : ∀ a, dom T2 a → dom T' a := fun a h => by
          obtain ⟨p, hp, e⟩ := List.mem_map.mp h
          exact List.mem_map.mpr ⟨p, (List.mem_filter.mp hp).1, e⟩
        have st2 : StOk K T2 H' := st.sub (fun p hp => (List.mem_filter.mp hp).1) (List.Nodup.sublist (List.Sublist.map _ List.filter_sublist) st.nd)
        have sp : Step K T' H' T2 H' := ⟨fun _ _ _ e => e, st2, fun a h => .inl (hsub a h)⟩
        have nd : ∀ n a, ρ.length ≤ n → ρ'[n]? = some a → ¬ dom T2 a := fun n a hn e h => by
          obtain ⟨p, hp, e2⟩ := List.mem_map.mp h
          have := of_decide_eq_true (List.mem_filter.mp hp).2
          apply this
          rw [e2]
          refine List.mem_of_getElem? (i := n - ρ.length) ?_
          rw [List.getElem?_drop]
          rw [show ρ.length + (n - ρ.length) = n from by omega]
          exact e
        obtain ⟨d2, r2, q2⟩ := fz_ok g.pre rfl g.rst st sp.lft nd 64 ez rd rv
        have lk : ∀ a c, a ∉ ρ'.drop ρ.length → T'.lookup a = some c → T2.lookup a = some c := by
          intro a c ha e
          exact lookup_filter (f := fun b => decide (b ∉ ρ'.drop ρ.length)) (decide_eq_true ha) e
        refine ⟨T2, d2, ⟨List.prefix_rfl, ⟨(g.pre.sublist.nodup g.rst.nd), ?_, ?_⟩, ?_, fun _ m => .inl m⟩, r2, sp, q2⟩
        · rw [List.length_take, ← g.rst.len]
          have := g.pre.length_le
          omega
        · intro n a xc h1 h2
          have hn : n < ρ.length := (List.getElem?_eq_some_iff.mp h1).1
          have h1' := pre_get g.pre h1
          rw [List.getElem?_take_of_lt hn] at h2
          obtain ⟨c, hc', rc⟩ := g.rst.cell n a xc h1' h2
          refine ⟨c, lk a c ?_ hc', ?_⟩
          · intro m
            obtain ⟨i, hi, e⟩ := List.mem_iff_getElem.mp m
            have h3 : ρ'[ρ.length + i]? = some a := by
              have := List.getElem?_drop (xs := ρ') (i := ρ.length) (j := i)
              rw [← this, List.getElem?_eq_getElem hi, e]
            have := (List.getElem?_inj (List.getElem?_eq_some_iff.mp h1').1 g.rst.nd).mp (h1'.trans h3.symm)
            omega
          · have hcl := List.all_eq_true.mp hc xc (List.mem_of_getElem? (i := n) (by rw [List.getElem?_take_of_lt hn]; exact h2))
            cases rc with
            | lst rx => exact .lst (clns_ok g.pre rfl hcl rx)
            | ins rx => exact .ins (clnf_ok g.pre rfl hcl rx)
            | dK rx => exact .dK (clnk_ok g.pre rfl hcl rx)
            | dT rx => exact .dT (clnk_ok g.pre rfl hcl rx)
        · intro a c na e
          refine lk a c ?_ (g.frame a c na e)
          intro m
          have := List.mem_of_mem_drop m
          rcases g.fresh a this with z | z
          · exact na z
          · exact z (dom_of_lookup e)
      · cases hx
    · cases hx
/-! ### defs -/
def startX (n : Nat) (xs : List Dt) : Xe := xs.map some ++ List.replicate (n - xs.length) none
/-- a def with np parameters and n names; its cells end with it -/
def fnX (np n : Nat) (b : Ms) : Mf := fun xs S => if xs.length = np then (b (startX n xs) S).bind fun o S' => match o with
  | .rt x => exitX S.length x S'
  | .nx _ => exitX S.length .non S'
  | _ => .bad else .bad
/-- .. whose cells stay -/
def fnK (np n : Nat) (b : Ms) : Mf := fun xs S => if xs.length = np then (b (startX n xs) S).bind fun o S' => match o with
  | .rt x => .ok x S'
  | .nx _ => .ok .non S'
  | _ => .bad else .bad
variable {P : Program} {w : World} {mg : Str → Option Value} {base : Heap}
theorem fn_core {x qual : Str} {params : Arguments} {body : List Stmt} {scope : Scope} {dvs : List V} {kws : List (Str × V)} {f : Addr} {fd : FuncData} {N ps : List Str} {k : Nat} {m : Mf} {b : Ms} (F : FunD K x qual params body scope dvs kws f fd) (Sc : FnScope N ps scope)
    (hm : ∀ xs S y S2, m xs S = .ok y S2 → xs.length = ps.length ∧ ∃ o S', b (startX N.length xs) S = .ok o S' ∧ ((∃ x, o = .rt x ∧ (exitX S.length x S' = .ok y S2 ∨ (x = y ∧ S' = S2))) ∨ (∃ G, o = .nx G ∧ (exitX S.length .non S' = .ok y S2 ∨ (y = .non ∧ S' = S2)))))
    (hbody : ∀ (cdv : Value) (A : Around) (outer : List Env) (s : Shared) (H : Hp) (E : XK), Gd (A.deeper (envOfC qual scope s.heap.objs.size f cdv)) → Room k (A.deeper (envOfC qual scope s.heap.objs.size f cdv)) →
      PBm (cxOf CX0 P w K mg base N qual scope f cdv A outer s H E).nox K κ body b) : FnA P w K mg base CX0 (k + 1) f fd ps (spOf K (spX κ m)) := by
  refine fnA_body F Sc (fun vs H Q E h => ?_) (fun cdv A outer s H vs Q E hG hr h => ?_)
  · obtain ⟨ds, T, st, ra, ρ, xs, S, y, S2, rs, rd, e, _⟩ := h
    rw [ra.length, ← rd.length]
    exact (hm _ _ _ _ e).1
  · obtain ⟨ds, T, st, ra, ρ, xs, S, y, S2, rs, rd, e, q⟩ := h
    obtain ⟨hl, o, S', eb, ho⟩ := hm _ _ _ _ e
    refine ⟨_, (hbody cdv A outer s H E hG hr).nox, ρ, startX N.length xs, S, startG N ds, T, o, S', ⟨st, ?_⟩, ?_, rs, eb, ?_⟩
    · have e := EnvR.start (N.length - vs.length) ra
      unfold L2.start startG
      rw [ra.length] at e ⊢
      exact e
    · unfold startX startG
      rw [← rd.length]
      exact RG.start _ rd
    · have fin : ∀ (x : Dt) (T' : Store) (ρ' : List Addr) (d : D) (v : V) (H' : Hp), (exitX S.length x S' = .ok y S2 ∨ (x = y ∧ S' = S2)) → Go κ ρ T ρ' S' T' → RD κ ρ' x d → Step K T H T' H' → Rp K (dom T') H' v d → Q v H' := by
        intro x T' ρ' d v H' hx g r s' rv
        rcases hx with hx | ⟨rfl, rfl⟩
        · rw [← rs.len] at hx
          obtain ⟨T2, d2, g2, r2, s2, q2⟩ := exit_ok g hx s'.st r rv
          exact q d2 ρ T2 g2 r2 v H' (s'.trans s2) q2
        · exact q d ρ' T' g r v H' s' rv
      refine ⟨fun E' T' σ' H' ⟨G', ρ', eo, g, rg⟩ s' e' => ?_, fun d T' v H' ⟨x, ρ', eo, g, r⟩ s' rv => ?_, fun E' T' σ' H' ⟨G', ρ', eo, g, rg⟩ s' e' => ?_, fun E' T' σ' H' ⟨G', ρ', eo, g, rg⟩ s' e' => ?_⟩
      · rcases ho with ⟨x, ex, _⟩ | ⟨G, ex, hx⟩
        · rw [ex] at eo; cases eo
        · refine fin .non T' ρ' .non .non H' ?_ g .non s' .non
          rcases hx with hx | ⟨h1, h2⟩
          · exact .inl hx
          · exact .inr ⟨h1.symm, h2⟩
      · rcases ho with ⟨x', ex, hx⟩ | ⟨G, ex, hx⟩
        · rw [ex] at eo
          cases eo
          exact fin _ T' ρ' d v H' hx g r s' rv
        · rw [ex] at eo; cases eo
      · rcases ho with ⟨x, ex, _⟩ | ⟨G, ex, hx⟩ <;> (rw [ex] at eo; cases eo)
      · rcases ho with ⟨x, ex, _⟩ | ⟨G, ex, hx⟩ <;> (rw [ex] at eo; cases eo)
theorem fn_x {x qual : Str} {params : Arguments} {body : List Stmt} {scope : Scope} {dvs : List V} {kws : List (Str × V)} {f : Addr} {fd : FuncData} {N ps : List Str} {k : Nat} {b : Ms} (F : FunD K x qual params body scope dvs kws f fd) (Sc : FnScope N ps scope) {np nn : Nat} (hp : ps.length = np) (hn : N.length = nn)
    (hbody : ∀ (cdv : Value) (A : Around) (outer : List Env) (s : Shared) (H : Hp) (E : XK), Gd (A.deeper (envOfC qual scope s.heap.objs.size f cdv)) → Room k (A.deeper (envOfC qual scope s.heap.objs.size f cdv)) →
      PBm (cxOf CX0 P w K mg base N qual scope f cdv A outer s H E).nox K κ body b) : FnA P w K mg base CX0 (k + 1) f fd ps (spOf K (spX κ (fnX np nn b))) := by
  subst hp hn
  refine fn_core F Sc (fun xs S y S2 h => ?_) hbody
  unfold fnX at h
  split at h
  · rename_i hl
    obtain ⟨o, S', e, h⟩ := Res.bind_eq h
    refine ⟨hl, o, S', e, ?_⟩
    cases o with
    | rt x => exact .inl ⟨x, rfl, .inl h⟩
    | nx G => exact .inr ⟨G, rfl, .inl h⟩
    | bk G => cases h
    | ct G => cases h
  · cases h
theorem fn_k {x qual : Str} {params : Arguments} {body : List Stmt} {scope : Scope} {dvs : List V} {kws : List (Str × V)} {f : Addr} {fd : FuncData} {N ps : List Str} {k : Nat} {b : Ms} (F : FunD K x qual params body scope dvs kws f fd) (Sc : FnScope N ps scope) {np nn : Nat} (hp : ps.length = np) (hn : N.length = nn)
    (hbody : ∀ (cdv : Value) (A : Around) (outer : List Env) (s : Shared) (H : Hp) (E : XK), Gd (A.deeper (envOfC qual scope s.heap.objs.size f cdv)) → Room k (A.deeper (envOfC qual scope s.heap.objs.size f cdv)) →
      PBm (cxOf CX0 P w K mg base N qual scope f cdv A outer s H E).nox K κ body b) : FnA P w K mg base CX0 (k + 1) f fd ps (spOf K (spX κ (fnK np nn b))) := by
  subst hp hn
  refine fn_core F Sc (fun xs S y S2 h => ?_) hbody
  unfold fnK at h
  split at h
  · rename_i hl
    obtain ⟨o, S', e, h⟩ := Res.bind_eq h
    refine ⟨hl, o, S', e, ?_⟩
    cases o with
    | rt x => cases h; exact .inl ⟨_, rfl, .inr ⟨rfl, rfl⟩⟩
    | nx G => cases h; exact .inr ⟨G, rfl, .inr ⟨rfl, rfl⟩⟩
    | bk G => cases h
    | ct G => cases h
  · cases h
/-- a def as its callers see it -/
structure Cx' (P : Program) (w : World) (K : PySem.W.Frag) (κ : Nat → Addr) (mg : Str → Option Value) (base : Heap) (x : Str) (ps : List Str) (k : Nat) (m : Mf) : Prop where
  ex : ∃ f fd, mg x = some (.ref f) ∧ FnA P w K mg base CX0 k f fd ps (spOf K (spX κ m)) ∧ PySem.W.keepIn K (.ref f) = true ∧ Binds K fd ps []
variable {X : Cx}
theorem px_call {k : Nat} {ps : List Str} {m : Mf} {x : Str} {p pos : Pos} {e : Expr} {es : List Expr} {ma : Ma} (c : Cx' P w K κ mg base x ps k m) (hr : Room k X.A) (hG : Gd X.A) (hg : Gl X x) (ha : PAm X K κ (e :: es) ma)
    (h : X.K = K := by rfl) (h1 : X.prog = P := by rfl) (h2 : X.w = w := by rfl) (h3 : X.mg = mg := by rfl) (h4 : X.base = base := by rfl)
    (hdb : (x == ("__debug__" : Str)) = false := by decide) (he : starEach (e :: es) X.env = (false, eval e X.env) :: starEach es X.env := by rfl) (hpl : (backTo pos (starEach es X.env)).any (·.1) = false := by rfl) :
    PEm X K κ (.Call (.Name x p) (e :: es) [] pos) (mCall m ma) := by
  subst h h1 h2 h3 h4
  obtain ⟨f, fd, c1, c2, c3, c4⟩ := c.ex
  refine pe_m (te := tCall (spOf X.K (spX κ m)) [] E0 (taM X.K κ ma)) ⟨fun pins s σ H Q I h => ?_⟩ (em_call ta_self)
  refine wpAny_Call_Name_kw (ld_glob I hg c1 ?_ hdb)
  refine PySem.W.callWith_K (h₀ := X.base) I.ok.mod.kin c3 (thn (ha.run pos pins s σ H _ I h) fun us s1 ⟨vs, H1, I1, r, q⟩ => ⟨I1.kIn, ?_⟩) he hpl
  exact runA' c2 (RS.Room.sub hr) hG c4 .nil I1 r q
theorem px_call0 {k : Nat} {ps : List Str} {m : Mf} {x : Str} {p pos : Pos} (c : Cx' P w K κ mg base x ps k m) (hr : Room k X.A) (hG : Gd X.A) (hg : Gl X x)
    (h : X.K = K := by rfl) (h1 : X.prog = P := by rfl) (h2 : X.w = w := by rfl) (h3 : X.mg = mg := by rfl) (h4 : X.base = base := by rfl)
    (hdb : (x == ("__debug__" : Str)) = false := by decide) : PEm X K κ (.Call (.Name x p) [] [] pos) (mCall m aNil) := by
  subst h h1 h2 h3 h4
  obtain ⟨f, fd, c1, c2, c3, c4⟩ := c.ex
  refine pe_m (te := tCall (spOf X.K (spX κ m)) [] E0 tNil) ⟨fun pins s σ H Q I h => ?_⟩ (em_call ar_nil)
  refine wpAny_Call_Name_kw (ld_glob I hg c1 ?_ hdb)
  exact PySem.W.callWith_K0 I.kIn c3 (runA' (us := []) c2 (RS.Room.sub hr) hG c4 .nil I .nil h)
end
end RX

set_option Elab.async false
set_option linter.all false
set_option maxRecDepth 100000
set_option maxHeartbeats 4000000
namespace RX
open PySem PySem.Spec PyProof.Rows L2 RS
/-! ### a value of the machine and what it is worth -/
def RV (K : PySem.W.Frag) (κ : Nat → Addr) (ρ : List Addr) (T : Store) (H : Hp) (v : V) (x : Dt) : Prop := ∃ d, RD κ ρ x d ∧ Rp K (dom T) H v d
def RVs (K : PySem.W.Frag) (κ : Nat → Addr) (ρ : List Addr) (T : Store) (H : Hp) (v : List V) (x : List Dt) : Prop := ∃ d, RDs κ ρ x d ∧ RpAll K (dom T) H v d
section
variable {K : PySem.W.Frag} {κ : Nat → Addr} {ρ : List Addr} {S : Xs} {T : Store} {H : Hp} {v : V} {vs : List V}
theorem RV.intV {i : Int} : RV K κ ρ T H v (.int i) → v = .int i := fun ⟨d, r, q⟩ => by have := r.intD; subst this; exact q.intV
theorem RV.blV {i : Bool} : RV K κ ρ T H v (.bl i) → v = .bl i := fun ⟨d, r, q⟩ => by have := r.blD; subst this; exact q.blV
theorem RV.strV {i : Str} : RV K κ ρ T H v (.str i) → v = .str i := fun ⟨d, r, q⟩ => by have := r.strD; subst this; exact q.strV
theorem RV.nonV : RV K κ ρ T H v .non → v = .non := fun ⟨d, r, q⟩ => by have := r.nonD; subst this; exact q.nonV
theorem RV.tyV {n : String} : RV K κ ρ T H v (.ty n) → v = .ty n := fun ⟨d, r, q⟩ => by have := r.tyD; subst this; exact q.tyV
theorem RV.clsV {n : Nat} : RV K κ ρ T H v (.cls n) → v = .ref (κ n) := fun ⟨d, r, q⟩ => by have := r.clsD; subst this; exact q.refV
theorem RV.int (i : Int) : RV K κ ρ T H (.int i) (.int i) := ⟨_, .int i, .int i⟩
theorem RV.bl (i : Bool) : RV K κ ρ T H (.bl i) (.bl i) := ⟨_, .bl i, .bl i⟩
theorem RV.str (i : Str) : RV K κ ρ T H (.str i) (.str i) := ⟨_, .str i, .str i⟩
theorem RV.non : RV K κ ρ T H .non .non := ⟨_, .non, .non⟩
theorem RVs.nil : RVs K κ ρ T H [] [] := ⟨[], .nil, .nil⟩
theorem RVs.cons {x : Dt} {xs : List Dt} : RV K κ ρ T H v x → RVs K κ ρ T H vs xs → RVs K κ ρ T H (v :: vs) (x :: xs) := fun ⟨d, a, b⟩ ⟨ds, e, f⟩ => ⟨d :: ds, .cons a e, .cons b f⟩
theorem RVs.cases1 {x : Dt} : RVs K κ ρ T H vs [x] → ∃ v, vs = [v] ∧ RV K κ ρ T H v x := fun ⟨ds, a, b⟩ => by
  cases a with
  | cons a1 a2 => cases a2; cases b with | cons b1 b2 => cases b2; exact ⟨_, rfl, _, a1, b1⟩
theorem RVs.cases2 {x y : Dt} : RVs K κ ρ T H vs [x, y] → ∃ v w, vs = [v, w] ∧ RV K κ ρ T H v x ∧ RV K κ ρ T H w y := fun ⟨ds, a, b⟩ => by
  cases a with
  | cons a1 a2 => cases a2 with | cons a2 a3 => cases a3; cases b with | cons b1 b2 => cases b2 with | cons b2 b3 => cases b3; exact ⟨_, _, rfl, ⟨_, a1, b1⟩, _, a2, b2⟩
theorem RVs.length {xs : List Dt} : RVs K κ ρ T H vs xs → vs.length = xs.length := fun ⟨ds, a, b⟩ => b.length.trans a.length.symm
theorem RVs.get {xs : List Dt} {i : Nat} {x : Dt} : RVs K κ ρ T H vs xs → xs[i]? = some x → ∃ v, vs[i]? = some v ∧ RV K κ ρ T H v x := fun ⟨ds, a, b⟩ e => by
  obtain ⟨d, h1, h2⟩ := a.get e
  obtain ⟨u, h3, h4⟩ := b.get h1
  exact ⟨u, h3, d, h2, h4⟩
theorem RVs.append {xs ys : List Dt} {ws : List V} : RVs K κ ρ T H vs xs → RVs K κ ρ T H ws ys → RVs K κ ρ T H (vs ++ ws) (xs ++ ys) := fun ⟨ds, a, b⟩ ⟨es, c, d⟩ => ⟨ds ++ es, a.append c, b.append d⟩
theorem RVs.take {xs : List Dt} (n : Nat) : RVs K κ ρ T H vs xs → RVs K κ ρ T H (vs.take n) (xs.take n) := fun ⟨ds, a, b⟩ => ⟨_, a.take n, b.take n⟩
theorem RVs.drop {xs : List Dt} (n : Nat) : RVs K κ ρ T H vs xs → RVs K κ ρ T H (vs.drop n) (xs.drop n) := fun ⟨ds, a, b⟩ => ⟨_, a.drop n, b.drop n⟩
theorem RVs.rep {xs : List Dt} (h : RVs K κ ρ T H vs xs) : ∀ n : Nat, RVs K κ ρ T H (List.replicate n vs).flatten (List.replicate n xs).flatten
  | 0 => .nil
  | n + 1 => by rw [List.replicate_succ, List.replicate_succ, List.flatten_cons, List.flatten_cons]; exact h.append (RVs.rep h n)
theorem RVs.ints {ns : List Int} : ∀ {vs : List V}, RVs K κ ρ T H vs (ns.map Dt.int) → vs = ns.map V.int := by
  induction ns with
  | nil => rintro vs ⟨ds, a, b⟩; cases a; cases b; rfl
  | cons n r ih =>
    rintro vs ⟨ds, a, b⟩
    cases a with
    | cons a1 a2 =>
      cases b with
      | cons b1 b2 =>
        have e1 := RV.intV ⟨_, a1, b1⟩
        rw [e1, ih ⟨_, a2, b2⟩]
        rfl
theorem RVs.bls {ns : List Bool} : ∀ {vs : List V}, RVs K κ ρ T H vs (ns.map Dt.bl) → vs = ns.map V.bl := by
  induction ns with
  | nil => rintro vs ⟨ds, a, b⟩; cases a; cases b; rfl
  | cons n r ih =>
    rintro vs ⟨ds, a, b⟩
    cases a with
    | cons a1 a2 =>
      cases b with
      | cons b1 b2 =>
        have e1 := RV.blV ⟨_, a1, b1⟩
        rw [e1, ih ⟨_, a2, b2⟩]
        rfl
theorem RVs.strs {ns : List Str} : ∀ {vs : List V}, RVs K κ ρ T H vs (ns.map Dt.str) → vs = ns.map V.str := by
  induction ns with
  | nil => rintro vs ⟨ds, a, b⟩; cases a; cases b; rfl
  | cons n r ih =>
    rintro vs ⟨ds, a, b⟩
    cases a with
    | cons a1 a2 =>
      cases b with
      | cons b1 b2 =>
        have e1 := RV.strV ⟨_, a1, b1⟩
        rw [e1, ih ⟨_, a2, b2⟩]
        rfl
theorem RVs.ofInts : ∀ (ns : List Int), RVs K κ ρ T H (ns.map V.int) (ns.map Dt.int)
  | [] => .nil
  | n :: r => .cons (.int n) (RVs.ofInts r)
theorem RVs.ofStrs : ∀ (ns : List Str), RVs K κ ρ T H (ns.map V.str) (ns.map Dt.str)
  | [] => .nil
  | n :: r => .cons (.str n) (RVs.ofStrs r)
theorem RV.lift {ρ' : List Addr} {T' : Store} {H' : Hp} {x : Dt} (h : ρ <+: ρ') (L : Lift (dom T) H (dom T') H') : RV K κ ρ T H v x → RV K κ ρ' T' H' v x := fun ⟨d, a, b⟩ => ⟨d, a.mono h, b.lift L⟩
theorem RVs.lift {ρ' : List Addr} {T' : Store} {H' : Hp} {x : List Dt} (h : ρ <+: ρ') (L : Lift (dom T) H (dom T') H') : RVs K κ ρ T H vs x → RVs K κ ρ' T' H' vs x := fun ⟨d, a, b⟩ => ⟨d, a.mono h, b.lift L⟩
/-- what a list holds (a value or a cell) -/
def seqM (S : Xs) : Dt → Option (List Dt)
  | .lst xs => some xs
  | .loc n => match S[n]? with | some (.lst xs) => some xs | _ => none
  | _ => none
def seqL (S : Xs) : Dt → Option (List Dt)
  | .frz ns => some (ns.map .int)
  | x => seqM S x
theorem RV.lstM {x : Dt} {xs : List Dt} (rs : RSt κ ρ S T) (st : StOk K T H) (r : RV K κ ρ T H v x) (e : seqM S x = some xs) : ∃ a vs, v = .ref a ∧ H a = some (.lst vs) ∧ RVs K κ ρ T H vs xs := by
  obtain ⟨d, rd, rp⟩ := r
  cases rd with
  | lst r => cases e; obtain ⟨a, vs, e1, e2, e3⟩ := rp.lstV; exact ⟨a, vs, e1, e2, _, r, e3⟩
  | @loc n a h =>
    have e : (match S[n]? with | some (.lst xs) => some xs | _ => none) = some xs := e
    split at e
    · rename_i ys ec
      cases e
      obtain ⟨c, hc, rc⟩ := rs.cell n a _ h ec
      cases rc with
      | lst rx =>
        obtain ⟨vs, hx, ra⟩ := st.ok a _ (lookup_mem hc)
        exact ⟨a, vs, rp.refV, hx, _, rx, ra⟩
    · cases e
  | _ => cases e
theorem RV.lstL {x : Dt} {xs : List Dt} (rs : RSt κ ρ S T) (st : StOk K T H) (r : RV K κ ρ T H v x) (e : seqL S x = some xs) : ∃ a vs, v = .ref a ∧ SqL K H a vs ∧ RVs K κ ρ T H vs xs := by
  by_cases hf : ∃ ns, x = .frz ns
  · obtain ⟨ns, rfl⟩ := hf
    cases e
    obtain ⟨d, rd, rp⟩ := r
    have := rd.frzD
    subst this
    obtain ⟨a, e1, e2⟩ := rp.frzV
    exact ⟨a, _, e1, e2, RVs.ofInts ns⟩
  · have e2 : seqM S x = some xs := by
      cases x with
      | frz ns => exact absurd ⟨ns, rfl⟩ hf
      | _ => exact e
    obtain ⟨a, vs, h1, h2, h3⟩ := r.lstM rs st e2
    exact ⟨a, vs, h1, .inl (.inl h2), h3⟩
/-- new lists, tuples -/
theorem rv_newL {xs : List Dt} {p : Addr} (rs : RSt κ ρ S T) (st : StOk K T H) (hp : H p = none) (r : RVs K κ ρ T H vs xs) : Go κ ρ T ρ S T ∧ Step K T H T (upd H p (.lst vs)) ∧ RV K κ ρ T (upd H p (.lst vs)) (.ref p) (.lst xs) := by
  obtain ⟨ds, a, b⟩ := r
  have s2 : Step K T H T (upd H p (.lst vs)) := .new st hp
  exact ⟨.refl rs, s2, _, .lst a, .lst upd_same (st.nodom hp) (b.lift s2.lft)⟩
theorem rv_newT {xs : List Dt} {p : Addr} (rs : RSt κ ρ S T) (st : StOk K T H) (hp : H p = none) (r : RVs K κ ρ T H vs xs) : Go κ ρ T ρ S T ∧ Step K T H T (upd H p (.tup vs)) ∧ RV K κ ρ T (upd H p (.tup vs)) (.ref p) (.tup xs) := by
  obtain ⟨ds, a, b⟩ := r
  have s2 : Step K T H T (upd H p (.tup vs)) := .new st hp
  exact ⟨.refl rs, s2, _, .tup a, .tup upd_same (st.nodom hp) (b.lift s2.lft)⟩
/-- a new cell -/
theorem rv_newC {xs : List Dt} {p : Addr} (rs : RSt κ ρ S T) (st : StOk K T H) (hp : H p = none) (r : RVs K κ ρ T H vs xs) : ∃ ρ' T', Go κ ρ T ρ' (S ++ [.lst xs]) T' ∧ Step K T H T' (upd H p (.lst vs)) ∧ RV K κ ρ' T' (upd H p (.lst vs)) (.ref p) (.loc S.length) := by
  obtain ⟨ds, a, b⟩ := r
  obtain ⟨g, e⟩ := Go.new rs (st.nodom hp) (.lst a)
  exact ⟨_, _, g, .cell st hp ⟨vs, upd_same, b.lift (Lift.newCell hp)⟩, _, .loc e, .ref p⟩
/-- a cell's list changes -/
theorem rv_put {n : Nat} {a : Addr} {xs : List Dt} {xs0 : List Dt} (rs : RSt κ ρ S T) (st : StOk K T H) (ha : ρ[n]? = some a) (hc : S[n]? = some (.lst xs0)) (r : RVs K κ ρ T H vs xs) : ∃ T', Go κ ρ T ρ (S.set n (.lst xs)) T' ∧ Step K T H T' (upd H a (.lst vs)) := by
  obtain ⟨ds, r1, r2⟩ := r
  obtain ⟨c, e, _⟩ := rs.cell n a _ ha hc
  exact ⟨_, Go.put rs ha (.lst r1), .put st e ⟨vs, upd_same, r2.lift (Lift.put e)⟩⟩
theorem RV.tupT {xs : List Dt} (r : RV K κ ρ T H v (.tup xs)) : ∃ a vs, v = .ref a ∧ SqT K H a vs ∧ RVs K κ ρ T H vs xs := by
  obtain ⟨d, rd, rp⟩ := r
  obtain ⟨ds, rfl, ra⟩ := rd.tupD
  obtain ⟨a, vs, e1, e2, e3⟩ := rp.tupV
  exact ⟨a, vs, e1, e2, _, ra, e3⟩
theorem RV.locA {n : Nat} (r : RV K κ ρ T H v (.loc n)) : ∃ a, v = .ref a ∧ ρ[n]? = some a := by
  obtain ⟨d, rd, rp⟩ := r
  obtain ⟨a, rfl, e⟩ := rd.locD
  exact ⟨a, rp.refV, e⟩
end
section
variable {K : PySem.W.Frag} {κ : Nat → Addr}
theorem ox_of {r : R2} {f : Dt → Dt → Xs → Res Dt} (h : ∀ ρ S T H vx vy x y z S', RSt κ ρ S T → StOk K T H → RV K κ ρ T H vx x → RV K κ ρ T H vy y → f x y S = .ok z S' → ∀ Q : VK, (∀ ρ' T' v H', Go κ ρ T ρ' S' T' → Step K T H T' H' → RV K κ ρ' T' H' v z → Q v H') → r vx vy H Q) : OpX K κ r f :=
  fun ρ S T x y dx dy z S' rs rx ry e H vx vy st px py Q q => h ρ S T H vx vy x y z S' rs st ⟨dx, rx, px⟩ ⟨dy, ry, py⟩ e Q fun ρ' T' v H' g s ⟨d, a, b⟩ => q d T' v H' ⟨ρ', g, a⟩ s b
theorem cx_of {r : List V → Hp → VK → Prop} {f : List Dt → Xs → Res Dt} (h : ∀ ρ S T H vs xs z S', RSt κ ρ S T → StOk K T H → RVs K κ ρ T H vs xs → f xs S = .ok z S' → ∀ Q : VK, (∀ ρ' T' v H', Go κ ρ T ρ' S' T' → Step K T H T' H' → RV K κ ρ' T' H' v z → Q v H') → r vs H Q) : CbX K κ r f :=
  fun ρ S T xs ds z S' rs rx e H vs st px Q q => h ρ S T H vs xs z S' rs st ⟨ds, rx, px⟩ e Q fun ρ' T' v H' g s ⟨d, a, b⟩ => q d T' v H' ⟨ρ', g, a⟩ s b
theorem ux_of {r : V → Hp → VK → Prop} {f : Dt → Xs → Res Dt} (h : ∀ ρ S T H vx x z S', RSt κ ρ S T → StOk K T H → RV K κ ρ T H vx x → f x S = .ok z S' → ∀ Q : VK, (∀ ρ' T' v H', Go κ ρ T ρ' S' T' → Step K T H T' H' → RV K κ ρ' T' H' v z → Q v H') → r vx H Q) : UnX K κ r f :=
  fun ρ S T x dx z S' rs rx e H vx st px Q q => h ρ S T H vx x z S' rs st ⟨dx, rx, px⟩ e Q fun ρ' T' v H' g s ⟨d, a, b⟩ => q d T' v H' ⟨ρ', g, a⟩ s b
/-! ### ints -/
def xI (g : Int → Int → Dt) : Dt → Dt → Xs → Res Dt := fun x y S => match x with | .int i => (match y with | .int j => .ok (g i j) S | _ => .bad) | _ => .bad
def xIc (c : Int → Int → Bool) (g : Int → Int → Dt) : Dt → Dt → Xs → Res Dt := fun x y S => match x with | .int i => (match y with | .int j => if c i j = true then .ok (g i j) S else .bad | _ => .bad) | _ => .bad
theorem ox_I0 {g : Int → Int → V} {gx : Int → Int → Dt} (hg : ∀ i j ρ T H, RV K κ ρ T H (g i j) (gx i j)) : OpX K κ (rI0 g) (xI gx) := ox_of fun ρ S T H vx vy x y z S' rs st rx ry e Q q => by
  cases x with
  | int i =>
    cases y with
    | int j => cases e; exact ⟨i, j, rx.intV, ry.intV, q ρ T _ H (.refl rs) (.refl st) (hg i j ρ T H)⟩
    | _ => cases e
  | _ => cases e
theorem ox_I {C : Int → Int → Prop} {c : Int → Int → Bool} {g : Int → Int → V} {gx : Int → Int → Dt} (hc : ∀ i j, c i j = true → C i j) (hg : ∀ i j ρ T H, RV K κ ρ T H (g i j) (gx i j)) : OpX K κ (rI C g) (xIc c gx) := ox_of fun ρ S T H vx vy x y z S' rs st rx ry e Q q => by
  cases x with
  | int i =>
    cases y with
    | int j =>
      have e : (if c i j = true then Res.ok (gx i j) S else .bad) = .ok z S' := e
      split at e
      · rename_i h
        cases e
        exact ⟨i, j, rx.intV, ry.intV, hc i j h, q ρ T _ H (.refl rs) (.refl st) (hg i j ρ T H)⟩
      · cases e
    | _ => cases e
  | _ => cases e
def xSub := xI fun i j => .int (i - j)
def xMod := xIc (fun _ j => decide (0 < j)) fun i j => .int (i % j)
def xDiv := xIc (fun _ j => decide (0 < j ∧ j.natAbs.log2 < 9000)) fun i j => .int (i / j)
def xPow := xIc (fun i j => decide (0 ≤ j ∧ j ≤ 1000000 ∧ i.natAbs < 2 ^ 64)) fun i j => .int (i ^ j.toNat)
def xLt := xI fun i j => .bl (decide (i < j))
def xLe := xI fun i j => .bl (decide (i ≤ j))
def xGt := xI fun i j => .bl (decide (j < i))
def xGe := xI fun i j => .bl (decide (j ≤ i))
def xAnd := xI fun i j => .int (Builtin.bitAnd i j)
def xOr := xI fun i j => .int (Builtin.bitOr i j)
def xXor := xI fun i j => .int (Builtin.bitXor i j)
def xShl := xIc (fun i j => decide (0 ≤ j ∧ (Builtin.Int.intBits i : Int) + j ≤ 2 ^ 27)) fun i j => .int (i * 2 ^ j.toNat)
def xShr := xIc (fun _ j => decide (0 ≤ j)) fun i j => .int (i / 2 ^ j.toNat)
theorem ox_sub : OpX K κ rSubU xSub := ox_I0 fun _ _ _ _ _ => .int _
theorem ox_mod : OpX K κ rModU xMod := ox_I (fun _ _ h => of_decide_eq_true h) fun _ _ _ _ _ => .int _
theorem ox_div : OpX K κ (rI CDivW fun i j => .int (i / j)) xDiv := ox_I (fun i j h => show 0 < j ∧ j.natAbs.log2 < 9000 from of_decide_eq_true h) fun _ _ _ _ _ => .int _
theorem ox_pow : OpX K κ rPowU xPow := ox_I (fun i j h => show 0 ≤ j ∧ j ≤ 1000000 ∧ i.natAbs < 2 ^ 64 from of_decide_eq_true h) fun _ _ _ _ _ => .int _
theorem ox_lt : OpX K κ rLtU xLt := ox_I0 fun _ _ _ _ _ => .bl _
theorem ox_le : OpX K κ rLeU xLe := ox_I0 fun _ _ _ _ _ => .bl _
theorem ox_gt : OpX K κ rGtU xGt := ox_I0 fun _ _ _ _ _ => .bl _
theorem ox_ge : OpX K κ rGeU xGe := ox_I0 fun _ _ _ _ _ => .bl _
theorem ox_and : OpX K κ (rI0 fun i j => .int (Builtin.bitAnd i j)) xAnd := ox_I0 fun _ _ _ _ _ => .int _
theorem ox_or : OpX K κ (rI0 fun i j => .int (Builtin.bitOr i j)) xOr := ox_I0 fun _ _ _ _ _ => .int _
theorem ox_xor : OpX K κ (rI0 fun i j => .int (Builtin.bitXor i j)) xXor := ox_I0 fun _ _ _ _ _ => .int _
theorem ox_shl : OpX K κ (rI CShl fun i j => .int (i * 2 ^ j.toNat)) xShl := ox_I (fun i j h => show 0 ≤ j ∧ (Builtin.Int.intBits i : Int) + j ≤ 2 ^ 27 from of_decide_eq_true h) fun _ _ _ _ _ => .int _
theorem ox_shr : OpX K κ (rI (fun _ j => 0 ≤ j) fun i j => .int (i / 2 ^ j.toNat)) xShr := ox_I (fun _ _ h => of_decide_eq_true h) fun _ _ _ _ _ => .int _
def xU (g : Int → Int) : Dt → Xs → Res Dt := fun x S => match x with | .int i => .ok (.int (g i)) S | _ => .bad
theorem ux_U {g : Int → Int} : UnX K κ (rU fun i => .int (g i)) (xU g) := ux_of fun ρ S T H vx x z S' rs st rx e Q q => by
  cases x with
  | int i => cases e; exact ⟨i, rx.intV, q ρ T _ H (.refl rs) (.refl st) (.int _)⟩
  | _ => cases e
/-! ### + -/
def rAddX (K : PySem.W.Frag) : R2 := rOr rI_add (rOr rS_add (rOr rCat (rCatA K)))
theorem op_addX {X : Cx} (K : PySem.W.Frag) (h : X.K = K := by rfl) : OpR X (binaryOp .Add) (rAddX K) := h ▸ op_or' op_add (op_or' op_add_str (op_or' op_cat op_catA))
def xAdd : Dt → Dt → Xs → Res Dt := fun x y S => match x, y with
  | .int i, .int j => .ok (.int (i + j)) S
  | .str a, .str b => if a.length + b.length ≤ 1000000 then .ok (.str (a ++ b)) S else .bad
  | .tup xs, .tup ys => if xs.length + ys.length ≤ 1000000 then .ok (.tup (xs ++ ys)) S else .bad
  | x, y => match seqM S x, seqM S y with
    | some xs, some ys => if xs.length + ys.length ≤ 1000000 then .ok (.lst (xs ++ ys)) S else .bad
    | _, _ => .bad
theorem ox_addL {ρ : List Addr} {S S' : Xs} {T : Store} {H : Hp} {vx vy : V} {x y z : Dt} (rs : RSt κ ρ S T) (st : StOk K T H) (rx : RV K κ ρ T H vx x) (ry : RV K κ ρ T H vy y)
    (e : (match seqM S x, seqM S y with | some xs, some ys => if xs.length + ys.length ≤ 1000000 then Res.ok (Dt.lst (xs ++ ys)) S else .bad | _, _ => .bad) = .ok z S') (Q : VK) (q : ∀ ρ' T' v H', Go κ ρ T ρ' S' T' → Step K T H T' H' → RV K κ ρ' T' H' v z → Q v H') : rAddX K vx vy H Q := by
  split at e
  · rename_i xs ys e1 e2
    split at e
    · rename_i hl
      cases e
      obtain ⟨a, vs, rfl, ha, ra⟩ := rx.lstM rs st e1
      obtain ⟨b, ws, rfl, hb, rb⟩ := ry.lstM rs st e2
      refine .inr (.inr (.inl ⟨a, b, vs, ws, rfl, rfl, ha, hb, ?_, fun p hp => ?_⟩))
      · rw [ra.length, rb.length]; exact Nat.le_trans hl (by decide)
      · obtain ⟨g, s, r⟩ := rv_newL rs st hp (ra.append rb)
        exact q ρ T _ _ g s r
    · cases e
  · cases e
theorem ox_add : OpX K κ (rAddX K) xAdd := ox_of fun ρ S T H vx vy x y z S' rs st rx ry e Q q => by
  unfold xAdd at e
  split at e
  · cases e
    exact .inl ⟨_, _, rx.intV, ry.intV, q ρ T _ H (.refl rs) (.refl st) (.int _)⟩
  · split at e
    · rename_i hl
      cases e
      exact .inr (.inl ⟨_, _, rx.strV, ry.strV, Nat.le_trans hl (by decide), q ρ T _ H (.refl rs) (.refl st) (.str _)⟩)
    · cases e
  · rename_i xs ys
    split at e
    · rename_i hl
      cases e
      obtain ⟨a, vs, rfl, ha, ra⟩ := rx.tupT
      obtain ⟨b, ws, rfl, hb, rb⟩ := ry.tupT
      refine .inr (.inr (.inr ⟨a, b, vs, ws, rfl, rfl, ha, hb, ?_, ?_, ?_, ?_⟩))
      · rw [ra.length, rb.length]; exact Nat.le_trans hl (by decide)
      · intro z
        subst z
        have : xs = [] := by cases xs with | nil => rfl | cons _ _ => cases ra.length
        subst this
        exact q ρ T _ H (.refl rs) (.refl st) ry
      · intro _ z
        subst z
        have : ys = [] := by cases ys with | nil => rfl | cons _ _ => cases rb.length
        subst this
        rw [List.append_nil] at q
        exact q ρ T _ H (.refl rs) (.refl st) rx
      · intro _ _ p hp
        obtain ⟨g, s, r⟩ := rv_newT rs st hp (ra.append rb)
        exact q ρ T _ _ g s r
    · cases e
  · exact ox_addL rs st rx ry e Q q
/-! ### * -/
def xMul : Dt → Dt → Xs → Res Dt := fun x y S => match y with
  | .int j => match x with
    | .int i => if i.natAbs.log2 + j.natAbs.log2 < 1000000 then .ok (.int (i * j)) S else .bad
    | x => match seqM S x with
      | some xs => if -(2 ^ 63) ≤ j ∧ j < 2 ^ 63 ∧ xs.length * j.toNat ≤ 1000000 then .ok (.lst (List.replicate j.toNat xs).flatten) S else .bad
      | none => .bad
  | _ => .bad
theorem ox_mul : OpX K κ rMulU xMul := ox_of fun ρ S T H vx vy x y z S' rs st rx ry e Q q => by
  unfold xMul at e
  split at e
  · rename_i j
    split at e
    · split at e
      · rename_i hl
        cases e
        exact .inr (.inl ⟨_, _, rx.intV, ry.intV, hl, q ρ T _ H (.refl rs) (.refl st) (.int _)⟩)
      · cases e
    · split at e
      · rename_i xs e1
        split at e
        · rename_i hl
          cases e
          obtain ⟨a, vs, rfl, ha, ra⟩ := rx.lstM rs st e1
          refine .inr (.inr ⟨a, _, vs, rfl, ry.intV, ha, hl.1, hl.2.1, ?_, fun p hp => ?_⟩)
          · rw [ra.length]; exact Nat.le_trans hl.2.2 (by decide)
          · obtain ⟨g, s, r⟩ := rv_newL rs st hp (ra.rep j.toNat)
            exact q ρ T _ _ g s r
        · cases e
      · cases e
  · cases e
/-! ### == -/
def toP (S : Xs) : Nat → Dt → Option PyData
  | 0, _ => none
  | k + 1, x => match x with
    | .non => some .none
    | .bl b => some (.bool b)
    | .int i => some (.int i)
    | .str x => some (.str x)
    | .lst xs => (mapO (toP S k) xs).map .list
    | .tup xs => (mapO (toP S k) xs).map .tuple
    | .loc n => match S[n]? with | some (.lst xs) => (mapO (toP S k) xs).map .list | _ => none
    | _ => none
theorem toP_dp {ρ : List Addr} {S : Xs} {T : Store} {H : Hp} (rs : RSt κ ρ S T) (st : StOk K T H) : ∀ (k : Nat) {x : Dt} {p : PyData} {v : V}, toP S k x = some p → RV K κ ρ T H v x → Dp K H v p := by
  intro k
  induction k with
  | zero => intro x p v e; cases e
  | succ k ih =>
    have ihs : ∀ {xs : List Dt} {ps : List PyData} {vs : List V}, mapO (toP S k) xs = some ps → RVs K κ ρ T H vs xs → DpAll K H vs ps := by
      intro xs
      induction xs with
      | nil => rintro ps vs e ⟨ds, a, b⟩; cases a; cases b; cases e; exact .nil
      | cons x xs ih2 =>
        rintro ps vs e ⟨ds, a, b⟩
        unfold mapO at e
        cases a with
        | cons a1 a2 =>
          cases b with
          | cons b1 b2 =>
            split at e
            · rename_i y1 e1
              split at e
              · rename_i ys1 e2
                cases e
                exact .cons (ih e1 ⟨_, a1, b1⟩) (ih2 e2 ⟨_, a2, b2⟩)
              · cases e
            · cases e
    have lst : ∀ {x : Dt} {xs : List Dt} {p : PyData} {v : V}, seqM S x = some xs → (mapO (toP S k) xs).map PyData.list = some p → RV K κ ρ T H v x → Dp K H v p := by
      intro x xs p v e1 e r
      cases em : mapO (toP S k) xs with
      | none => rw [em] at e; cases e
      | some ps =>
        rw [em] at e
        cases e
        obtain ⟨a, vs, rfl, ha, ra⟩ := r.lstM rs st e1
        exact .lst (SqL.of ha) (ihs em ra)
    intro x p v e r
    cases x with
    | non => cases e; rw [r.nonV]; exact .non
    | bl b => cases e; rw [r.blV]; exact .bl b
    | int i => cases e; rw [r.intV]; exact .int i
    | str i => cases e; rw [r.strV]; exact .str i
    | lst xs => exact lst rfl e r
    | tup xs =>
      have e : (mapO (toP S k) xs).map PyData.tuple = some p := e
      cases em : mapO (toP S k) xs with
      | none => rw [em] at e; cases e
      | some ps =>
        rw [em] at e
        cases e
        obtain ⟨a, vs, rfl, ha, ra⟩ := r.tupT
        exact .tup ha (ihs em ra)
    | loc n =>
      have e : (match S[n]? with | some (.lst xs) => (mapO (toP S k) xs).map PyData.list | _ => none) = some p := e
      split at e
      · rename_i xs ec
        refine lst (x := .loc n) (xs := xs) ?_ e r
        show (match S[n]? with | some (.lst xs) => some xs | _ => none) = some xs
        rw [ec]
      · cases e
    | _ => cases e
def xEqD (x y : Dt) (S : Xs) : Option Bool := match toP S 20 x, toP S 20 y with
  | some p, some q => if (SeqAt.shaped p && SeqAt.shaped q) = true then some (PyData.eqv p q) else none
  | _, _ => none
def xEqB (x y : Dt) (S : Xs) : Option Bool := match x, y with
  | .int i, .int j => some (decide (i = j))
  | .str a, .str b => some (decide (a = b))
  | x, y => xEqD x y S
def xEq : Dt → Dt → Xs → Res Dt := fun x y S => match xEqB x y S with | some b => .ok (.bl b) S | none => .bad
def xNe : Dt → Dt → Xs → Res Dt := fun x y S => match xEqB x y S with | some b => .ok (.bl (!b)) S | none => .bad
theorem eqB_ok {ρ : List Addr} {S : Xs} {T : Store} {H : Hp} {vx vy : V} {x y : Dt} {b : Bool} (rs : RSt κ ρ S T) (st : StOk K T H) (rx : RV K κ ρ T H vx x) (ry : RV K κ ρ T H vy y) (e : xEqB x y S = some b) :
    (scal vx vy = true ∧ decide (vx = vy) = b) ∨ ∃ p q, Dp K H vx p ∧ Dp K H vy q ∧ SeqAt.shaped p = true ∧ SeqAt.shaped q = true ∧ PyData.eqv p q = b := by
  unfold xEqB at e
  split at e
  · cases e
    rw [rx.intV, ry.intV]
    exact .inl ⟨rfl, by simp⟩
  · cases e
    rw [rx.strV, ry.strV]
    exact .inl ⟨rfl, by simp⟩
  · unfold xEqD at e
    split at e
    · rename_i p q e1 e2
      split at e
      · rename_i hs
        cases e
        rw [Bool.and_eq_true] at hs
        exact .inr ⟨p, q, toP_dp rs st 20 e1 rx, toP_dp rs st 20 e2 ry, hs.1, hs.2, rfl⟩
      · cases e
    · cases e
theorem ox_eq : OpX K κ (rEqU K) xEq := ox_of fun ρ S T H vx vy x y z S' rs st rx ry e Q q => by
  unfold xEq at e
  split at e
  · rename_i b eb
    cases e
    rcases eqB_ok rs st rx ry eb with ⟨h1, h2⟩ | ⟨p, p', h1, h2, h3, h4, h5⟩
    · exact .inl ⟨h1, by rw [h2]; exact q ρ T _ H (.refl rs) (.refl st) (.bl _)⟩
    · exact .inr ⟨p, p', h1, h2, h3, h4, by rw [h5]; exact q ρ T _ H (.refl rs) (.refl st) (.bl _)⟩
  · cases e
theorem ox_ne : OpX K κ (rNeU K) xNe := ox_of fun ρ S T H vx vy x y z S' rs st rx ry e Q q => by
  unfold xNe at e
  split at e
  · rename_i b eb
    cases e
    rcases eqB_ok rs st rx ry eb with ⟨h1, h2⟩ | ⟨p, p', h1, h2, h3, h4, h5⟩
    · exact .inl ⟨h1, by rw [h2]; exact q ρ T _ H (.refl rs) (.refl st) (.bl _)⟩
    · exact .inr ⟨p, p', h1, h2, h3, h4, by rw [h5]; exact q ρ T _ H (.refl rs) (.refl st) (.bl _)⟩
  · cases e
/-! ### x[i] -/
def xIx : Dt → Dt → Xs → Res Dt := fun x y S => match y with
  | .int i => match x with
    | .tup xs => (match L2.atI xs i with | some z => .ok z S | none => .bad)
    | .str a => if a.length ≤ 1000000 then (match L2.atI a.cps.toList i with | some c => .ok (.str ⟨#[c]⟩) S | none => .bad) else .bad
    | x => match seqL S x with | some xs => (match L2.atI xs i with | some z => .ok z S | none => .bad) | none => .bad
  | _ => .bad
theorem rvs_at {ρ : List Addr} {T : Store} {H : Hp} {vs : List V} {xs : List Dt} {i : Int} {z : Dt} (r : RVs K κ ρ T H vs xs) (e : L2.atI xs i = some z) : ∃ v, L2.atI vs i = some v ∧ RV K κ ρ T H v z := by
  unfold L2.atI at e ⊢
  rw [r.length]
  cases q : ixN xs.length i with
  | none => rw [q] at e; cases e
  | some j => rw [q] at e; exact r.get e
theorem ox_ix : OpX K κ (rIxU K) xIx := ox_of fun ρ S T H vx vy x y z S' rs st rx ry e Q q => by
  unfold xIx at e
  split at e
  · rename_i i
    have hy := ry.intV
    split at e
    · rename_i xs
      split at e
      · rename_i w ew
        cases e
        obtain ⟨a, vs, rfl, ha, ra⟩ := rx.tupT
        obtain ⟨u, h1, h2⟩ := rvs_at ra ew
        exact .inr (.inl ⟨a, vs, i, u, rfl, hy, ha, h1, q ρ T _ H (.refl rs) (.refl st) h2⟩)
      · cases e
    · rename_i a
      split at e
      · rename_i hl
        split at e
        · rename_i c ec
          cases e
          exact .inr (.inr ⟨a, i, c, rx.strV, hy, Nat.le_trans hl (by decide), ec, q ρ T _ H (.refl rs) (.refl st) (.str _)⟩)
        · cases e
      · cases e
    · split at e
      · rename_i xs e1
        split at e
        · rename_i w ew
          cases e
          obtain ⟨a, vs, rfl, ha, ra⟩ := rx.lstL rs st e1
          obtain ⟨u, h1, h2⟩ := rvs_at ra ew
          exact .inl ⟨a, vs, i, u, rfl, hy, ha, h1, q ρ T _ H (.refl rs) (.refl st) h2⟩
        · cases e
      · cases e
  · cases e
/-! ### builtins -/
def xLen : List Dt → Xs → Res Dt := fun xs S => match xs with
  | [x] => match x with
    | .tup xs => .ok (.int xs.length) S
    | .str a => if a.length ≤ 1000000 then .ok (.int a.length) S else .bad
    | x => match seqL S x with | some xs => .ok (.int xs.length) S | none => .bad
  | _ => .bad
theorem cx_len : CbX K κ (cLen K) xLen := cx_of fun ρ S T H vs xs z S' rs st rx e Q q => by
  unfold xLen at e
  split at e
  · obtain ⟨v, rfl, r⟩ := rx.cases1
    split at e
    · rename_i xs
      cases e
      obtain ⟨a, vs, rfl, ha, ra⟩ := r.tupT
      exact ⟨_, _, rfl, .inr ⟨vs, ha, rfl⟩, by rw [ra.length]; exact q ρ T _ H (.refl rs) (.refl st) (.int _)⟩
    · rename_i a
      split at e
      · rename_i hl
        cases e
        rw [r.strV]
        exact ⟨_, _, rfl, ⟨Nat.le_trans hl (by decide), rfl⟩, q ρ T _ H (.refl rs) (.refl st) (.int _)⟩
      · cases e
    · split at e
      · rename_i xs e1
        cases e
        obtain ⟨a, vs, rfl, ha, ra⟩ := r.lstL rs st e1
        exact ⟨_, _, rfl, .inl ⟨vs, ha, rfl⟩, by rw [ra.length]; exact q ρ T _ H (.refl rs) (.refl st) (.int _)⟩
      · cases e
  · cases e
def xAbs : List Dt → Xs → Res Dt := fun xs S => match xs with
  | [.int i] => .ok (.int (if i < 0 then -i else i)) S
  | _ => .bad
theorem cx_abs : CbX K κ cAbs xAbs := cx_of fun ρ S T H vs xs z S' rs st rx e Q q => by
  unfold xAbs at e
  split at e
  · cases e
    obtain ⟨v, rfl, r⟩ := rx.cases1
    exact ⟨_, by rw [r.intV], q ρ T _ H (.refl rs) (.refl st) (.int _)⟩
  · cases e
def xInt : List Dt → Xs → Res Dt := fun xs S => match xs with
  | [.int i] => .ok (.int i) S
  | [.bl b] => .ok (.int (if b then 1 else 0)) S
  | _ => .bad
theorem cx_int : CbX K κ cInt xInt := cx_of fun ρ S T H vs xs z S' rs st rx e Q q => by
  unfold xInt at e
  split at e
  · cases e
    obtain ⟨v, rfl, r⟩ := rx.cases1
    exact .inl ⟨_, by rw [r.intV], q ρ T _ H (.refl rs) (.refl st) (.int _)⟩
  · cases e
    obtain ⟨v, rfl, r⟩ := rx.cases1
    exact .inr ⟨_, by rw [r.blV], q ρ T _ H (.refl rs) (.refl st) (.int _)⟩
  · cases e
def intsD : List Dt → Option (List Int)
  | [] => some []
  | .int i :: r => (match intsD r with | some l => some (i :: l) | none => none)
  | _ :: _ => none
theorem intsD_ok : ∀ {xs : List Dt} {ns : List Int}, intsD xs = some ns → xs = ns.map .int
  | [], ns, e => by cases e; rfl
  | x :: r, ns, e => by
    cases x with
    | int i =>
      have e : (match intsD r with | some l => some (i :: l) | none => none) = some ns := e
      split at e
      · rename_i l el
        cases e
        rw [intsD_ok el]
        rfl
      · cases e
    | _ => cases e
def bls : List Dt → Option (List Bool)
  | [] => some []
  | .bl i :: r => (match bls r with | some l => some (i :: l) | none => none)
  | _ :: _ => none
theorem bls_ok : ∀ {xs : List Dt} {ns : List Bool}, bls xs = some ns → xs = ns.map .bl
  | [], ns, e => by cases e; rfl
  | x :: r, ns, e => by
    cases x with
    | bl i =>
      have e : (match bls r with | some l => some (i :: l) | none => none) = some ns := e
      split at e
      · rename_i l el
        cases e
        rw [bls_ok el]
        rfl
      · cases e
    | _ => cases e
def xInts (f : List Int → Option Int) : Dt → Xs → Res Dt := fun x S => match seqL S x with
  | some ys => (match intsD ys with | some ns => (match f ns with | some m => .ok (.int m) S | none => .bad) | none => .bad)
  | none => .bad
theorem xInts_ok {f : List Int → Option Int} {x z : Dt} {S S' : Xs} (e : xInts f x S = .ok z S') : ∃ ns m, seqL S x = some (ns.map .int) ∧ f ns = some m ∧ z = .int m ∧ S' = S := by
  unfold xInts at e
  split at e
  · rename_i ys e1
    split at e
    · rename_i ns e2
      split at e
      · rename_i m e3
        cases e
        exact ⟨ns, m, by rw [e1, intsD_ok e2], e3, rfl, rfl⟩
      · cases e
    · cases e
  · cases e
def maxI : List Int → Option Int
  | [] => none
  | i :: r => some (r.foldl (fun a b => if b > a then b else a) i)
def minI : List Int → Option Int
  | [] => none
  | i :: r => some (r.foldl (fun a b => if b < a then b else a) i)
theorem maxF : ∀ (r : List Int) (i : Int), (r.foldl (fun a b => if b > a then b else a) i) ∈ i :: r ∧ ∀ y ∈ i :: r, y ≤ r.foldl (fun a b => if b > a then b else a) i
  | [], i => by simp
  | j :: r, i => by
    have h := maxF r (if j > i then j else i)
    rw [List.foldl_cons]
    refine ⟨?_, fun y hy => ?_⟩
    · rcases List.mem_cons.mp h.1 with k | k
      · rw [k]; split <;> simp
      · simp [k]
    · have h0 := h.2 _ List.mem_cons_self
      rcases List.mem_cons.mp hy with k | k
      · subst k
        generalize List.foldl _ _ r = m at h0 ⊢
        split at h0 <;> omega
      · rcases List.mem_cons.mp k with k | k
        · subst k
          generalize List.foldl _ _ r = m at h0 ⊢
          split at h0 <;> omega
        · exact h.2 y (List.mem_cons_of_mem _ k)
theorem minF : ∀ (r : List Int) (i : Int), (r.foldl (fun a b => if b < a then b else a) i) ∈ i :: r ∧ ∀ y ∈ i :: r, r.foldl (fun a b => if b < a then b else a) i ≤ y
  | [], i => by simp
  | j :: r, i => by
    have h := minF r (if j < i then j else i)
    rw [List.foldl_cons]
    refine ⟨?_, fun y hy => ?_⟩
    · rcases List.mem_cons.mp h.1 with k | k
      · rw [k]; split <;> simp
      · simp [k]
    · have h0 := h.2 _ List.mem_cons_self
      rcases List.mem_cons.mp hy with k | k
      · subst k
        generalize List.foldl _ _ r = m at h0 ⊢
        split at h0 <;> omega
      · rcases List.mem_cons.mp k with k | k
        · subst k
          generalize List.foldl _ _ r = m at h0 ⊢
          split at h0 <;> omega
        · exact h.2 y (List.mem_cons_of_mem _ k)
def xMax : List Dt → Xs → Res Dt := fun xs S => match xs with
  | [.int i, .int j] => .ok (.int (if j > i then j else i)) S
  | [x] => xInts maxI x S
  | _ => .bad
def xMin : List Dt → Xs → Res Dt := fun xs S => match xs with
  | [.int i, .int j] => .ok (.int (if j < i then j else i)) S
  | [x] => xInts minI x S
  | _ => .bad
theorem cx_max : CbX K κ (cMax K) xMax := cx_of fun ρ S T H vs xs z S' rs st rx e Q q => by
  unfold xMax at e
  split at e
  · cases e
    obtain ⟨v, w, rfl, r1, r2⟩ := rx.cases2
    exact .inl ⟨_, _, by rw [r1.intV, r2.intV], q ρ T _ H (.refl rs) (.refl st) (.int _)⟩
  · obtain ⟨ns, m, e1, e2, rfl, rfl⟩ := xInts_ok e
    obtain ⟨v, rfl, r⟩ := rx.cases1
    obtain ⟨a, vs, rfl, ha, ra⟩ := r.lstL rs st e1
    have := ra.ints
    subst this
    cases ns with
    | nil => cases e2
    | cons i l =>
      cases e2
      have hm := maxF l i
      refine .inr ⟨a, i :: l, rfl, ha, by simp, fun m' h1 h2 => ?_⟩
      have : m' = l.foldl (fun a b => if b > a then b else a) i := Int.le_antisymm (hm.2 m' h1) (h2 _ hm.1)
      subst this
      exact q ρ T _ H (.refl rs) (.refl st) (.int _)
  · cases e
theorem cx_min : CbX K κ (cMin K) xMin := cx_of fun ρ S T H vs xs z S' rs st rx e Q q => by
  unfold xMin at e
  split at e
  · cases e
    obtain ⟨v, w, rfl, r1, r2⟩ := rx.cases2
    exact .inl ⟨_, _, by rw [r1.intV, r2.intV], q ρ T _ H (.refl rs) (.refl st) (.int _)⟩
  · obtain ⟨ns, m, e1, e2, rfl, rfl⟩ := xInts_ok e
    obtain ⟨v, rfl, r⟩ := rx.cases1
    obtain ⟨a, vs, rfl, ha, ra⟩ := r.lstL rs st e1
    have := ra.ints
    subst this
    cases ns with
    | nil => cases e2
    | cons i l =>
      cases e2
      have hm := minF l i
      refine .inr ⟨a, i :: l, rfl, ha, by simp, fun m' h1 h2 => ?_⟩
      have : m' = l.foldl (fun a b => if b < a then b else a) i := Int.le_antisymm (h2 _ hm.1) (hm.2 m' h1)
      subst this
      exact q ρ T _ H (.refl rs) (.refl st) (.int _)
  · cases e
def xSum : List Dt → Xs → Res Dt := fun xs S => match xs with
  | [x] => xInts (fun ns => some ns.sum) x S
  | _ => .bad
theorem cx_sum : CbX K κ (rSum K) xSum := cx_of fun ρ S T H vs xs z S' rs st rx e Q q => by
  unfold xSum at e
  split at e
  · obtain ⟨ns, m, e1, e2, rfl, rfl⟩ := xInts_ok e
    obtain ⟨v, rfl, r⟩ := rx.cases1
    obtain ⟨a, vs, rfl, ha, ra⟩ := r.lstL rs st e1
    have := ra.ints
    subst this
    cases e2
    exact ⟨a, ns, rfl, ha, q ρ T _ H (.refl rs) (.refl st) (.int _)⟩
  · cases e
def xBls (f : List Bool → Bool) : List Dt → Xs → Res Dt := fun xs S => match xs with
  | [x] => (match seqL S x with | some ys => (match bls ys with | some ns => .ok (.bl (f ns)) S | none => .bad) | none => .bad)
  | _ => .bad
theorem xBls_ok {f : List Bool → Bool} {ρ : List Addr} {T : Store} {H : Hp} {vs : List V} {xs : List Dt} {z : Dt} {S S' : Xs} (rs : RSt κ ρ S T) (st : StOk K T H) (rx : RVs K κ ρ T H vs xs) (e : xBls f xs S = .ok z S') : ∃ a ns, vs = [.ref a] ∧ SqL K H a (ns.map V.bl) ∧ z = .bl (f ns) ∧ S' = S := by
  unfold xBls at e
  split at e
  · split at e
    · rename_i ys e1
      split at e
      · rename_i ns e2
        cases e
        have := bls_ok e2
        subst this
        obtain ⟨v, rfl, r⟩ := rx.cases1
        obtain ⟨a, vs, rfl, ha, ra⟩ := r.lstL rs st e1
        have := ra.bls
        subst this
        exact ⟨a, ns, rfl, ha, rfl, rfl⟩
      · cases e
    · cases e
  · cases e
def xAll := xBls fun ns => ns.all id
def xAny := xBls fun ns => ns.any id
theorem cx_all : CbX K κ (rAll K) xAll := cx_of fun ρ S T H vs xs z S' rs st rx e Q q => by
  obtain ⟨a, ns, rfl, h, rfl, rfl⟩ := xBls_ok rs st rx e
  exact ⟨a, ns, rfl, h, q ρ T _ H (.refl rs) (.refl st) (.bl _)⟩
theorem cx_any : CbX K κ (rAny K) xAny := cx_of fun ρ S T H vs xs z S' rs st rx e Q q => by
  obtain ⟨a, ns, rfl, h, rfl, rfl⟩ := xBls_ok rs st rx e
  exact ⟨a, ns, rfl, h, q ρ T _ H (.refl rs) (.refl st) (.bl _)⟩
def xTuple : List Dt → Xs → Res Dt := fun xs S => match xs with
  | [.tup ys] => .ok (.tup ys) S
  | [x] => (match seqL S x with | some ys => .ok (.tup ys) S | none => .bad)
  | _ => .bad
theorem cx_tuple : CbX K κ (cTuple K) xTuple := cx_of fun ρ S T H vs xs z S' rs st rx e Q q => by
  unfold xTuple at e
  split at e
  · cases e
    obtain ⟨v, rfl, r⟩ := rx.cases1
    obtain ⟨a, vs, rfl, ha, ra⟩ := r.tupT
    exact ⟨a, vs, rfl, .inr ⟨ha, q ρ T _ H (.refl rs) (.refl st) r⟩⟩
  · split at e
    · rename_i ys e1
      cases e
      obtain ⟨v, rfl, r⟩ := rx.cases1
      obtain ⟨a, vs, rfl, ha, ra⟩ := r.lstL rs st e1
      refine ⟨a, vs, rfl, .inl ⟨ha, fun l hl => ?_⟩⟩
      obtain ⟨g, s, r⟩ := rv_newT rs st hl ra
      exact q ρ T _ _ g s r
    · cases e
  · cases e
def seqA (S : Xs) : Dt → Option (List Dt)
  | .tup xs => some xs
  | x => seqL S x
theorem RV.seqA {ρ : List Addr} {S : Xs} {T : Store} {H : Hp} {v : V} {x : Dt} {xs : List Dt} (rs : RSt κ ρ S T) (st : StOk K T H) (r : RV K κ ρ T H v x) (e : seqA S x = some xs) : ∃ a vs, v = .ref a ∧ (SqL K H a vs ∨ SqT K H a vs) ∧ RVs K κ ρ T H vs xs := by
  by_cases hf : ∃ ns, x = .tup ns
  · obtain ⟨ns, rfl⟩ := hf
    cases e
    obtain ⟨a, vs, rfl, ha, ra⟩ := r.tupT
    exact ⟨a, vs, rfl, .inr ha, ra⟩
  · have e2 : seqL S x = some xs := by
      cases x with
      | tup ns => exact absurd ⟨ns, rfl⟩ hf
      | _ => exact e
    obtain ⟨a, vs, rfl, ha, ra⟩ := r.lstL rs st e2
    exact ⟨a, vs, rfl, .inl ha, ra⟩
def xList : List Dt → Xs → Res Dt := fun xs S => match xs with
  | [x] => (match seqA S x with | some ys => .ok (.lst ys) S | none => .bad)
  | _ => .bad
def xListC : List Dt → Xs → Res Dt := fun xs S => match xs with
  | [x] => (match seqA S x with | some ys => .ok (.loc S.length) (S ++ [.lst ys]) | none => .bad)
  | _ => .bad
theorem cx_list : CbX K κ (cList K) xList := cx_of fun ρ S T H vs xs z S' rs st rx e Q q => by
  unfold xList at e
  split at e
  · split at e
    · rename_i ys e1
      cases e
      obtain ⟨v, rfl, r⟩ := rx.cases1
      obtain ⟨a, vs, rfl, ha, ra⟩ := r.seqA rs st e1
      refine ⟨a, vs, rfl, ha, fun l hl => ?_⟩
      obtain ⟨g, s, r⟩ := rv_newL rs st hl ra
      exact q ρ T _ _ g s r
    · cases e
  · cases e
theorem cx_listC : CbX K κ (cList K) xListC := cx_of fun ρ S T H vs xs z S' rs st rx e Q q => by
  unfold xListC at e
  split at e
  · split at e
    · rename_i ys e1
      cases e
      obtain ⟨v, rfl, r⟩ := rx.cases1
      obtain ⟨a, vs, rfl, ha, ra⟩ := r.seqA rs st e1
      refine ⟨a, vs, rfl, ha, fun l hl => ?_⟩
      obtain ⟨ρ', T', g, s, r⟩ := rv_newC rs st hl ra
      exact q ρ' T' _ _ g s r
    · cases e
  · cases e
end
end RX

set_option Elab.async false
set_option linter.all false
set_option maxRecDepth 100000
set_option maxHeartbeats 4000000
namespace RX
open PySem PySem.Spec PyProof.Rows L2 RS
section
variable {K : PySem.W.Frag} {κ : Nat → Addr} {te : TE} {me : Me} {ta : TA} {ma : Ma}
/-! ### walks -/
def seqV : Dt → Option (List Dt)
  | .lst xs => some xs
  | .tup xs => some xs
  | .frz ns => some (ns.map .int)
  | _ => none
def wSeq (m : Me) : Ma := fun G S => (m G S).bind fun x S1 => match seqV x with | some xs => .ok xs S1 | none => .bad
theorem it_seq (h : EvX K κ te me) : ItX K κ (iSeq K te) (wSeq me) := fun ρ G S E T xs S' rg rs e => by
  obtain ⟨x, S1, e1, e⟩ := Res.bind_eq e
  split at e
  · rename_i ys ey
    cases e
    refine i_seq (EvG.mono (h ρ G S E T x _ rg rs e1) fun d T' ⟨ρ', g, r⟩ => ?_)
    cases x with
    | lst zs => cases ey; obtain ⟨ds, rfl, ra⟩ := r.lstD; exact .inl ⟨ds, rfl, ρ', g, ra⟩
    | tup zs => cases ey; obtain ⟨ds, rfl, ra⟩ := r.tupD; exact .inr (.inl ⟨ds, rfl, ρ', g, ra⟩)
    | frz ns => cases ey; have := r.frzD; subst this; exact .inr (.inr ⟨ns, rfl, ρ', g, RDs.ofInts ns⟩)
    | _ => cases ey
  · cases e
def rangeX (lo : Int) : Nat → List Dt
  | 0 => []
  | n + 1 => .int lo :: rangeX (lo + 1) n
theorem rangeX_eq : ∀ (n : Nat) (lo : Int), rangeX lo n = (List.range n).map fun (k : Nat) => Dt.int (lo + (k : Int))
  | 0, lo => rfl
  | n + 1, lo => by
    rw [List.range_succ_eq_map, List.map_cons, List.map_map]
    show Dt.int lo :: rangeX (lo + 1) n = _
    rw [rangeX_eq n (lo + 1)]
    congr 1
    · simp
    · apply List.map_congr_left
      intro k _
      show Dt.int (lo + 1 + (k : Int)) = Dt.int (lo + ((k + 1 : Nat) : Int))
      congr 1
      omega
theorem rangeX_rd {ρ : List Addr} (lo : Int) (n : Nat) : RDs κ ρ (rangeX lo n) (rangeD lo n) := by
  rw [rangeX_eq]
  unfold rangeD
  generalize List.range n = l
  induction l with
  | nil => exact .nil
  | cons k r ih => exact .cons (.int _) ih
def wRng1 (m : Ma) : Ma := fun G S => (m G S).bind fun xs S1 => match xs with
  | [.int j] => if -(2 ^ 62) ≤ j ∧ j < 2 ^ 62 then .ok (rangeX 0 j.toNat) S1 else .bad
  | _ => .bad
def wRng2 (m : Ma) : Ma := fun G S => (m G S).bind fun xs S1 => match xs with
  | [.int i, .int j] => if -(2 ^ 62) ≤ i ∧ i < 2 ^ 62 ∧ -(2 ^ 62) ≤ j ∧ j < 2 ^ 62 then .ok (rangeX i (j - i).toNat) S1 else .bad
  | _ => .bad
theorem it_rng1 (h : ArX K κ ta ma) : ItX K κ (iRng1 ta) (wRng1 ma) := fun ρ G S E T xs S' rg rs e => by
  obtain ⟨x, S1, e1, e⟩ := Res.bind_eq e
  split at e
  · rename_i j
    split at e
    · rename_i hj
      cases e
      refine i_rng1 (evA_mono (h ρ G S E T _ _ rg rs e1) fun d T' ⟨ρ', g, r⟩ => ?_)
      cases r with
      | cons r1 r2 => cases r2; have := r1.intD; subst this; exact ⟨j, rfl, hj, ρ', g, rangeX_rd _ _⟩
    · cases e
  · cases e
theorem it_rng2 (h : ArX K κ ta ma) : ItX K κ (iRng2 ta) (wRng2 ma) := fun ρ G S E T xs S' rg rs e => by
  obtain ⟨x, S1, e1, e⟩ := Res.bind_eq e
  split at e
  · rename_i i j
    split at e
    · rename_i hj
      cases e
      refine i_rng2 (evA_mono (h ρ G S E T _ _ rg rs e1) fun d T' ⟨ρ', g, r⟩ => ?_)
      cases r with
      | cons r1 r2 =>
        cases r2 with
        | cons r2 r3 => cases r3; have := r1.intD; subst this; have := r2.intD; subst this; exact ⟨i, j, rfl, hj, ρ', g, rangeX_rd _ _⟩
    · cases e
  · cases e
def enumX (lo : Int) : List Dt → List Dt
  | [] => []
  | x :: xs => .tup [.int lo, x] :: enumX (lo + 1) xs
theorem enumX_rd {ρ : List Addr} : ∀ {xs : List Dt} {ds : List D} (k : Nat), RDs κ ρ xs ds → RDs κ ρ (enumX (k : Int) xs) (ds.mapIdx fun i d => .tup [.int ((i + k : Nat) : Int), d])
  | _, _, k, .nil => .nil
  | _, _, k, .cons r t => by
    rw [List.mapIdx_cons]
    refine .cons (.tup (.cons (by rw [Nat.zero_add]; exact .int _) (.cons r .nil))) ?_
    have := enumX_rd (k + 1) t
    rw [show ((k + 1 : Nat) : Int) = (k : Int) + 1 from by omega] at this
    have e : (fun (i : Nat) (d : D) => D.tup [.int ((i + (k + 1) : Nat) : Int), d]) = fun i d => D.tup [.int ((i + 1 + k : Nat) : Int), d] := by
      funext i d
      rw [show i + (k + 1) = i + 1 + k from by omega]
    rw [e] at this
    exact this
def wEnum (m : Ma) : Ma := fun G S => (m G S).bind fun xs S1 => match xs with
  | [.lst xs] => .ok (enumX 0 xs) S1
  | [.tup xs] => .ok (enumX 0 xs) S1
  | _ => .bad
theorem it_enum (h : ArX K κ ta ma) : ItX K κ (iEnumU K ta) (wEnum ma) := fun ρ G S E T xs S' rg rs e => by
  obtain ⟨x, S1, e1, e⟩ := Res.bind_eq e
  have key : ∀ {xs : List Dt} {ds : List D} {ρ : List Addr}, RDs κ ρ xs ds → RDs κ ρ (enumX 0 xs) (enumD ds) := fun r => by
    have := enumX_rd 0 r
    simpa [enumD] using this
  split at e
  · cases e
    refine i_enum (evA_mono (h ρ G S E T _ _ rg rs e1) fun d T' ⟨ρ', g, r⟩ => ?_)
    cases r with
    | cons r1 r2 => cases r2; obtain ⟨ds, rfl, ra⟩ := r1.lstD; exact .inl ⟨ds, rfl, ρ', g, key ra⟩
  · cases e
    refine i_enum (evA_mono (h ρ G S E T _ _ rg rs e1) fun d T' ⟨ρ', g, r⟩ => ?_)
    cases r with
    | cons r1 r2 => cases r2; obtain ⟨ds, rfl, ra⟩ := r1.tupD; exact .inr ⟨ds, rfl, ρ', g, key ra⟩
  · cases e
/-! ### is, in -/
def rIsX (neg : Bool) : R2 := fun x y H Q => (y = .non ∧ Q (.bl (neg != decide (x = .non))) H) ∨ ∃ a b, x = .bl a ∧ y = .bl b ∧ Q (.bl (neg != decide (a = b))) H
theorem op_isX {X : Cx} : OpR X (compareOp .Is) (rIsX false) := fun pins s σ H x y u v Q I rx ry h => by
  rcases h with ⟨h1, h2⟩ | ⟨a, b, h1, h2, h3⟩
  · exact op_isN pins s σ H x y u v Q I rx ry ⟨h1, by simpa using h2⟩
  · exact op_is_bl pins s σ H x y u v Q I rx ry ⟨a, b, h1, h2, by simpa using h3⟩
theorem op_isnotX {X : Cx} : OpR X (compareOp .IsNot) (rIsX true) := fun pins s σ H x y u v Q I rx ry h => by
  rcases h with ⟨h1, h2⟩ | ⟨a, b, h1, h2, h3⟩
  · exact op_notN pins s σ H x y u v Q I rx ry ⟨h1, by simpa using h2⟩
  · exact op_isnot_bl pins s σ H x y u v Q I rx ry ⟨a, b, h1, h2, by simpa using h3⟩
def isNon : Dt → Bool
  | .non => true
  | _ => false
def xIs (neg : Bool) : Dt → Dt → Xs → Res Dt := fun x y S => match y with
  | .non => .ok (.bl (neg != isNon x)) S
  | .bl b => (match x with | .bl a => .ok (.bl (neg != decide (a = b))) S | _ => .bad)
  | _ => .bad
theorem isNon_ok {ρ : List Addr} {T : Store} {H : Hp} {v : V} {x : Dt} (r : RV K κ ρ T H v x) : decide (v = .non) = isNon x := by
  obtain ⟨d, rd, rp⟩ := r
  cases rd <;> cases rp <;> simp [isNon]
theorem ox_is {neg : Bool} : OpX K κ (rIsX neg) (xIs neg) := ox_of fun ρ S T H vx vy x y z S' rs st rx ry e Q q => by
  unfold xIs at e
  split at e
  · cases e
    exact .inl ⟨ry.nonV, by rw [isNon_ok rx]; exact q ρ T _ H (.refl rs) (.refl st) (.bl _)⟩
  · split at e
    · cases e
      exact .inr ⟨_, _, rx.blV, ry.blV, q ρ T _ H (.refl rs) (.refl st) (.bl _)⟩
    · cases e
  · cases e
/-! ### in -/
def toVf : Dt → Option V
  | .int i => some (.int i)
  | .str i => some (.str i)
  | .bl i => some (.bl i)
  | .non => some .non
  | _ => none
theorem toVf_ok {ρ : List Addr} {T : Store} {H : Hp} {v u : V} {x : Dt} (r : RV K κ ρ T H v x) (e : toVf x = some u) : v = u ∧ flatV v = true := by
  cases x with
  | int i => cases e; rw [r.intV]; exact ⟨rfl, rfl⟩
  | str i => cases e; rw [r.strV]; exact ⟨rfl, rfl⟩
  | bl i => cases e; rw [r.blV]; exact ⟨rfl, rfl⟩
  | non => cases e; rw [r.nonV]; exact ⟨rfl, rfl⟩
  | _ => cases e
theorem toVfs_ok {ρ : List Addr} {T : Store} {H : Hp} : ∀ {xs : List Dt} {vs us : List V}, RVs K κ ρ T H vs xs → mapO toVf xs = some us → vs = us ∧ vs.all flatV = true
  | [], vs, us, ⟨ds, a, b⟩, e => by cases a; cases b; cases e; exact ⟨rfl, rfl⟩
  | x :: xs, vs, us, ⟨ds, a, b⟩, e => by
    cases a with
    | cons a1 a2 =>
      cases b with
      | cons b1 b2 =>
        unfold mapO at e
        split at e
        · rename_i y1 e1
          split at e
          · rename_i ys1 e2
            cases e
            obtain ⟨h1, h2⟩ := toVf_ok ⟨_, a1, b1⟩ e1
            obtain ⟨h3, h4⟩ := toVfs_ok ⟨_, a2, b2⟩ e2
            exact ⟨by rw [h1, h3], by rw [List.all_cons, h2, h4]; rfl⟩
          · cases e
        · cases e
def rInX (K : PySem.W.Frag) : R2 := rOr (rIn K false) rInS
def rNotInX (K : PySem.W.Frag) : R2 := rOr (rIn K true) rNotInS
theorem op_inX {X : Cx} (K : PySem.W.Frag) (h : X.K = K := by rfl) : OpR X (compareOp .In) (rInX K) := h ▸ op_or' op_in_seq op_inS
theorem op_notInX {X : Cx} (K : PySem.W.Frag) (h : X.K = K := by rfl) : OpR X (compareOp .NotIn) (rNotInX K) := h ▸ op_or' op_notIn_seq op_notInS
def sgn (x : Str) : Option Nat := match x.cps.toList with | [c] => some c | _ => none
def inB (x y : Dt) (S : Xs) : Option Bool := match y with
  | .str z => (match x with | .str w => (match sgn w with | some c => some (decide (c ∈ z.cps.toList)) | none => none) | _ => none)
  | y => match seqA S y with
    | some ys => (match toVf x, mapO toVf ys with | some v, some us => some (inV v us) | _, _ => none)
    | none => none
theorem sgn_ok {x : Str} {c : Nat} (e : sgn x = some c) : x = ⟨#[c]⟩ := by
  unfold sgn at e
  split at e
  · rename_i d h
    cases e
    obtain ⟨cps⟩ := x
    congr 1
    exact Array.toList_inj.mp h
  · cases e
theorem inB_ok {ρ : List Addr} {S : Xs} {T : Store} {H : Hp} {vx vy : V} {x y : Dt} {b : Bool} (rs : RSt κ ρ S T) (st : StOk K T H) (rx : RV K κ ρ T H vx x) (ry : RV K κ ρ T H vy y) (e : inB x y S = some b) :
    (∃ p xs, vy = .ref p ∧ (SqL K H p xs ∨ SqT K H p xs) ∧ flatV vx = true ∧ xs.all flatV = true ∧ inV vx xs = b) ∨ ∃ c z, vx = .str ⟨#[c]⟩ ∧ vy = .str z ∧ decide (c ∈ z.cps.toList) = b := by
  unfold inB at e
  split at e
  · rename_i z
    split at e
    · rename_i w
      split at e
      · rename_i c ec
        cases e
        refine .inr ⟨c, z, ?_, ry.strV, rfl⟩
        rw [rx.strV, sgn_ok ec]
      · cases e
    · cases e
  · split at e
    · rename_i ys e1
      split at e
      · rename_i v us e2 e3
        cases e
        obtain ⟨a, vs, rfl, ha, ra⟩ := ry.seqA rs st e1
        obtain ⟨h1, h2⟩ := toVf_ok rx e2
        obtain ⟨h3, h4⟩ := toVfs_ok ra e3
        exact .inl ⟨a, vs, rfl, ha, h2, h4, by rw [h1, h3]⟩
      · cases e
    · cases e
def xIn : Dt → Dt → Xs → Res Dt := fun x y S => match inB x y S with | some b => .ok (.bl b) S | none => .bad
def xNotIn : Dt → Dt → Xs → Res Dt := fun x y S => match inB x y S with | some b => .ok (.bl (!b)) S | none => .bad
theorem ox_in : OpX K κ (rInX K) xIn := ox_of fun ρ S T H vx vy x y z S' rs st rx ry e Q q => by
  unfold xIn at e
  split at e
  · rename_i b eb
    cases e
    rcases inB_ok rs st rx ry eb with ⟨p, xs, h1, h2, h3, h4, h5⟩ | ⟨c, w, h1, h2, h3⟩
    · exact .inl ⟨p, xs, h1, h2, h3, h4, by rw [if_neg Bool.false_ne_true, h5]; exact q ρ T _ H (.refl rs) (.refl st) (.bl _)⟩
    · exact .inr ⟨c, w, h1, h2, by rw [h3]; exact q ρ T _ H (.refl rs) (.refl st) (.bl _)⟩
  · cases e
theorem ox_notIn : OpX K κ (rNotInX K) xNotIn := ox_of fun ρ S T H vx vy x y z S' rs st rx ry e Q q => by
  unfold xNotIn at e
  split at e
  · rename_i b eb
    cases e
    rcases inB_ok rs st rx ry eb with ⟨p, xs, h1, h2, h3, h4, h5⟩ | ⟨c, w, h1, h2, h3⟩
    · exact .inl ⟨p, xs, h1, h2, h3, h4, by rw [if_pos rfl, h5]; exact q ρ T _ H (.refl rs) (.refl st) (.bl _)⟩
    · exact .inr ⟨c, w, h1, h2, by rw [h3]; exact q ρ T _ H (.refl rs) (.refl st) (.bl _)⟩
  · cases e
/-! ### methods of lists and texts -/
def MtX (K : PySem.W.Frag) (κ : Nat → Addr) (r : V → List V → Hp → VK → Prop) (f : Dt → List Dt → Xs → Res Dt) : Prop := ∀ ρ S T H v vs x xs z S', RSt κ ρ S T → StOk K T H → RV K κ ρ T H v x → RVs K κ ρ T H vs xs → f x xs S = .ok z S' → ∀ Q : VK, (∀ ρ' T' v H', Go κ ρ T ρ' S' T' → Step K T H T' H' → RV K κ ρ' T' H' v z → Q v H') → r v vs H Q
def tyOf (S : Xs) : Dt → String
  | .str _ => "str"
  | .int _ => "int"
  | x => match seqL S x with | some _ => "list" | none => ""
theorem tyOf_ok {ρ : List Addr} {S : Xs} {T : Store} {H : Hp} {v : V} {x : Dt} {t : String} (ht : t ≠ "") (rs : RSt κ ρ S T) (st : StOk K T H) (r : RV K κ ρ T H v x) (e : tyOf S x = t) : tyV K t v H := by
  subst e
  unfold tyOf at ht ⊢
  split
  · rw [r.strV]; rfl
  · rw [r.intV]; rfl
  · rename_i h1 h2
    split at ht
    · exact absurd rfl (h1 _)
    · exact absurd rfl (h2 _)
    · split
      · rename_i ys e1
        obtain ⟨a, vs, rfl, ha, ra⟩ := r.lstL rs st e1
        exact .inl ⟨rfl, vs, ha⟩
      · rename_i e1
        rw [e1] at ht
        exact absurd rfl ht
def mBm (t : String) (f : Dt → List Dt → Xs → Res Dt) (o : Me) (r : Ma) : Me := fun G S => (o G S).bind fun x S1 => if tyOf S1 x = t then (r G S1).bind fun xs S2 => f x xs S2 else .bad
theorem em_bm {T : String} {r : V → List V → Hp → VK → Prop} {f : Dt → List Dt → Xs → Res Dt} {to : TE} {mo : Me} {tr : TA} {mr : Ma} (ht : T ≠ "") (hf : MtX K κ r f) (ho : EvX K κ to mo) (hr : ArX K κ tr mr) : EvX K κ (tBM K T r to tr) (mBm T f mo mr) := fun ρ G S E St z S' rg rs h => by
  obtain ⟨x, S1, e1, h⟩ := Res.bind_eq h
  split at h
  · rename_i hty
    obtain ⟨xs, S2, e2, h⟩ := Res.bind_eq h
    refine g_bm (EvG.mono (ho ρ G S E St x S1 rg rs e1) fun dx T1 ⟨ρ1, g1, rx⟩ => ⟨fun H v st rp => tyOf_ok ht g1.rst st ⟨_, rx, rp⟩ hty, evA_mono (hr ρ1 G S1 E T1 xs S2 (rg.mono g1.pre) g1.rst e2) fun ds T2 ⟨ρ2, g2, rxs⟩ => ?_⟩)
    exact fun H v vs st rv rvs Q q => hf ρ2 S2 T2 H v vs x xs z S' g2.rst st ⟨_, rx.mono g2.pre, rv⟩ ⟨_, rxs, rvs⟩ h Q fun ρ' T' v H' g s ⟨d, a, b⟩ => q d T' v H' ⟨ρ', (g1.trans g2).trans g, a⟩ s b
  · cases h
theorem em_bm0 {T : String} {r : V → List V → Hp → VK → Prop} {f : Dt → List Dt → Xs → Res Dt} {to : TE} {mo : Me} (ht : T ≠ "") (hf : MtX K κ r f) (ho : EvX K κ to mo) : EvX K κ (tBM0 K T r to) (mBm T f mo aNil) := fun ρ G S E St z S' rg rs h => by
  obtain ⟨x, S1, e1, h⟩ := Res.bind_eq h
  split at h
  · rename_i hty
    have h : f x [] S1 = .ok z S' := h
    refine g_bm0 (EvG.mono (ho ρ G S E St x S1 rg rs e1) fun dx T1 ⟨ρ1, g1, rx⟩ => ⟨fun H v st rp => tyOf_ok ht g1.rst st ⟨_, rx, rp⟩ hty, ?_⟩)
    exact fun H v vs st rv rvs Q q => by
      cases rvs
      exact hf ρ1 S1 T1 H v [] x [] z S' g1.rst st ⟨_, rx, rv⟩ .nil h Q fun ρ' T' v H' g s ⟨d, a, b⟩ => q d T' v H' ⟨ρ', g1.trans g, a⟩ s b
  · cases h
/-- a cell is changed -/
def xCell (f : List Dt → List Dt → Xs → Option (List Dt × Dt)) : Dt → List Dt → Xs → Res Dt := fun x ys S => match x with
  | .loc n => (match S[n]? with | some (.lst xs) => (match f xs ys S with | some (zs, r) => .ok r (S.set n (.lst zs)) | none => .bad) | _ => .bad)
  | _ => .bad
theorem mx_cell {r : V → List V → Hp → VK → Prop} {f : List Dt → List Dt → Xs → Option (List Dt × Dt)}
    (h : ∀ ρ S T H l (us vs : List V) xs ys zs z, RSt κ ρ S T → StOk K T H → H l = some (.lst us) → RVs K κ ρ T H us xs → RVs K κ ρ T H vs ys → f xs ys S = some (zs, z) → ∃ ws w, RVs K κ ρ T H ws zs ∧ (RV K κ ρ T H w z) ∧ ∀ Q : VK, Q w (upd H l (.lst ws)) → r (.ref l) vs H Q) : MtX K κ r (xCell f) :=
  fun ρ S T H v vs x xs z S' rs st rx rxs e Q q => by
  cases x with
  | loc n =>
    have e : (match S[n]? with | some (.lst ys) => (match f ys xs S with | some (zs, r) => Res.ok r (S.set n (.lst zs)) | none => .bad) | _ => .bad) = .ok z S' := e
    split at e
    · rename_i ys ec
      split at e
      · rename_i zs w ef
        cases e
        obtain ⟨a, us, rfl, ha, ra⟩ := rx.lstM (xs := ys) rs st (by show (match S[n]? with | some (.lst xs) => some xs | _ => none) = some ys; rw [ec])
        obtain ⟨a', ea, hn⟩ := rx.locA
        cases ea
        obtain ⟨ws, w', h1, h2, h3⟩ := h ρ S T H a us vs ys xs zs z rs st ha ra rxs ef
        obtain ⟨T', g, s⟩ := rv_put rs st hn ec h1
        exact h3 Q (q ρ T' _ _ g s (h2.lift List.prefix_rfl s.lft))
      · cases e
    · cases e
  | _ => cases e
def xAppend := xCell fun xs ys _ => match ys with | [y] => if xs.length < 1000000 then some (xs ++ [y], .non) else none | _ => none
theorem mx_append : MtX K κ rAppend xAppend := mx_cell fun ρ S T H l us vs xs ys zs z rs st ha ra rb e => by
  split at e
  · split at e
    · rename_i hl
      cases e
      obtain ⟨v, rfl, r⟩ := rb.cases1
      exact ⟨_, .non, ra.append (.cons r .nil), .non, fun Q q => ⟨l, us, v, rfl, rfl, ha, Nat.lt_of_lt_of_le (by rw [ra.length]; exact hl) (by decide), q⟩⟩
    · cases e
  · cases e
def xExtend := xCell fun xs ys S => match ys with | [y] => (match seqM S y with | some zs => if xs.length + zs.length ≤ 1000000 then some (xs ++ zs, .non) else none | none => none) | _ => none
theorem mx_extend : MtX K κ rExtend xExtend := mx_cell fun ρ S T H l us vs xs ys zs z rs st ha ra rb e => by
  split at e
  · split at e
    · rename_i ws e1
      split at e
      · rename_i hl
        cases e
        obtain ⟨v, rfl, r⟩ := rb.cases1
        obtain ⟨b, vs, rfl, hb, rvs⟩ := r.lstM rs st e1
        exact ⟨_, .non, ra.append rvs, .non, fun Q q => ⟨l, b, us, vs, rfl, rfl, ha, hb, Nat.le_trans (by rw [ra.length, rvs.length]; exact hl) (by decide), q⟩⟩
      · cases e
    · cases e
  · cases e
theorem RVs.erase {ρ : List Addr} {T : Store} {H : Hp} : ∀ {vs : List V} {xs : List Dt} (k : Nat), RVs K κ ρ T H vs xs → RVs K κ ρ T H (vs.eraseIdx k) (xs.eraseIdx k)
  | vs, xs, k, h => by
    rw [List.eraseIdx_eq_take_drop_succ, List.eraseIdx_eq_take_drop_succ]
    exact (h.take k).append (h.drop (k + 1))
def xPopAt := xCell fun xs ys _ => match ys with
  | [.int i] => if -(2 ^ 63) ≤ i ∧ i < 2 ^ 63 then (match seqIndex? i xs.length with | some k => (match xs[k]? with | some y => some (xs.eraseIdx k, y) | none => none) | none => none) else none
  | _ => none
theorem mx_popAt : MtX K κ rPopAt xPopAt := mx_cell fun ρ S T H l us vs xs ys zs z rs st ha ra rb e => by
  split at e
  · rename_i i
    split at e
    · rename_i hi
      split at e
      · rename_i k ek
        split at e
        · rename_i y ey
          cases e
          obtain ⟨v, rfl, r⟩ := rb.cases1
          obtain ⟨w, hw, rw'⟩ := ra.get ey
          exact ⟨_, w, ra.erase k, rw', fun Q q => ⟨l, us, i, k, w, rfl, by rw [r.intV], ha, hi.1, hi.2, by rw [ra.length]; exact ek, hw, q⟩⟩
        · cases e
      · cases e
    · cases e
  · cases e
def xPop := xCell fun xs ys _ => match ys with
  | [] => (match xs[xs.length - 1]? with | some y => some (xs.dropLast, y) | none => none)
  | _ => none
theorem mx_pop : MtX K κ rPop xPop := mx_cell fun ρ S T H l us vs xs ys zs z rs st ha ra rb e => by
  split at e
  · split at e
    · rename_i y ey
      cases e
      have hv : vs = [] := by cases vs with | nil => rfl | cons _ _ => cases rb.length
      subst hv
      rw [← ra.length] at ey
      obtain ⟨w, hw, rw'⟩ := ra.get ey
      refine ⟨us.dropLast, w, ?_, rw', fun Q q => ⟨l, us, w, rfl, rfl, ha, hw, q⟩⟩
      rw [List.dropLast_eq_take, List.dropLast_eq_take, ra.length]
      exact ra.take _
    · cases e
  · cases e
end
end RX
namespace RX
open PySem PySem.Spec PyProof.Rows L2 RS
section
variable {X : Cx} (K : PySem.W.Frag) (κ : Nat → Addr)
theorem pm {e : Expr} {te : TE} {m : Me} (h : PE X e te) (k : EvX K κ te m) : PEm X K κ e m := pe_m h k
theorem tm {e : Expr} {te : TT} {m : Mt} (h : PT X e te) (k : TsX K κ te m) : PTm X K κ e m := pt_m h k
theorem wm {e : Expr} {te : TT} {m : Mt} (h : PW X e te) (k : TsX K κ te m) : PWm X K κ e m := pw_m h k
theorem am {e : List Expr} {te : TA} {m : Ma} (h : PA X e te) (k : ArX K κ te m) : PAm X K κ e m := pa_m h k
theorem im {tg e : Expr} {te : TI} {m : Ma} (h : PI X tg e te) (k : ItX K κ te m) : PIm X K κ tg e m := pi_m h k
theorem sm {e : Stmt} {te : TS} {m : Ms} (h : PS X e te) (k : StX K κ te m) : PSm X K κ e m := ps_m h k
theorem bm {e : List Stmt} {te : TS} {m : Ms} (h : PSs X e te) (k : StX K κ te m) : PBm X K κ e m := pb_m h k
theorem gm {e : Expr} {te : TG} {m : Dt → Xe → Xs → Res Xe} (h : PG X e te) (k : TgX K κ te m) : PGm X K κ e m := pg_m h k
theorem ptsm {e : List Expr} {te : TT} {m : Mt} (h : PTs X e te) (k : TsX K κ te m) : PTs X e (ttM K κ m) := ⟨fun pins s σ H Q I ⟨ρ, G, S, E, T, x, S', a, b, c, d, q⟩ => h.run pins s σ H Q I (k ρ G S E T x S' b c d σ H a Q q)⟩
end
/-- a name of the module and what it is worth -/
structure Kst (K : PySem.W.Frag) (κ : Nat → Addr) (mg : Str → Option Value) (x : Str) (d : Dt) : Prop where
  ex : ∃ v u dd, mg x = some u ∧ RelV v u ∧ (∀ Z H, Rp K Z H v dd) ∧ ∀ ρ, RD κ ρ d dd
theorem px_kst {X : Cx} {K : PySem.W.Frag} {κ : Nat → Addr} {mg : Str → Option Value} {x : Str} {d : Dt} {pos : Pos} (c : Kst K κ mg x d) (hg : Gl X x) (h3 : X.mg = mg := by rfl) (hd : (x == ("__debug__" : Str)) = false := by decide) : PEm X K κ (.Name x pos) (mC d) := by
  subst h3
  obtain ⟨v, u, dd, h1, h2, h3, h4⟩ := c.ex
  exact pe_m (pe_glob hg h1 h2 hd) (em_kst h3 h4)
end RX

set_option Elab.async false
set_option linter.all false
set_option maxRecDepth 100000
set_option maxHeartbeats 4000000
namespace RX
open PySem PySem.Spec PyProof.Rows L2 RS
section
variable {X : Cx} (K : PySem.W.Frag)
theorem cr_sumX (hc : X.calm = true := by rfl) (h : X.K = K := by rfl) : CallR X (.builtin "sum") (rSum K) := h ▸ cr_sum hc
theorem cr_allX (hc : X.calm = true := by rfl) (h : X.K = K := by rfl) : CallR X (.builtin "all") (rAll K) := h ▸ cr_all hc
theorem cr_anyX (hc : X.calm = true := by rfl) (h : X.K = K := by rfl) : CallR X (.builtin "any") (rAny K) := h ▸ cr_any hc
def rIsiX (K : PySem.W.Frag) := cOr (rIsi K) (cOr (rIsiT K) (rIsiK K))
theorem cr_isiX (h : X.K = K := by rfl) : CallR X (.builtin "isinstance") (rIsiX K) := h ▸ call_or call_isi (call_or call_isiT call_isiK)
end
section
variable {K : PySem.W.Frag} {κ : Nat → Addr}
def tyS (S : Xs) : Dt → Option String
  | .non => some "NoneType"
  | .bl _ => some "bool"
  | .int _ => some "int"
  | .str _ => some "str"
  | .lst _ => some "list"
  | .tup _ => some "tuple"
  | .loc n => match S[n]? with | some (.lst _) => some "list" | _ => none
  | _ => none
theorem tyS_ok {ρ : List Addr} {S : Xs} {T : Store} {H : Hp} {v : V} {x : Dt} {t : String} (rs : RSt κ ρ S T) (st : StOk K T H) (r : RV K κ ρ T H v x) (e : tyS S x = some t) : TyX K H v (.type t) := by
  by_cases hl : ∃ n, x = .loc n
  · obtain ⟨n, rfl⟩ := hl
    have e : (match S[n]? with | some (.lst _) => some "list" | _ => none) = some t := e
    split at e
    · rename_i xs ec
      cases e
      obtain ⟨a, us, rfl, ha, ra⟩ := r.lstM (xs := xs) rs st (by show (match S[n]? with | some (.lst xs) => some xs | _ => none) = some xs; rw [ec])
      exact .base (.lst ha)
    · cases e
  · obtain ⟨d, rd, rp⟩ := r
    cases rd with
    | non => exact rp.tyX e (fun _ h => by cases h)
    | bl b => exact rp.tyX e (fun _ h => by cases h)
    | int b => exact rp.tyX e (fun _ h => by cases h)
    | str b => exact rp.tyX e (fun _ h => by cases h)
    | lst b => exact rp.tyX e (fun _ h => by cases h)
    | tup b => exact rp.tyX e (fun _ h => by cases h)
    | loc h => exact absurd ⟨_, rfl⟩ hl
    | _ => cases e
def tys : List Dt → Option (List String)
  | [] => some []
  | .ty n :: r => (match tys r with | some l => some (n :: l) | none => none)
  | _ :: _ => none
theorem tys_ok : ∀ {xs : List Dt} {ns : List String}, tys xs = some ns → xs = ns.map .ty
  | [], ns, e => by cases e; rfl
  | x :: r, ns, e => by
    cases x with
    | ty i =>
      have e : (match tys r with | some l => some (i :: l) | none => none) = some ns := e
      split at e
      · rename_i l el
        cases e
        rw [tys_ok el]
        rfl
      · cases e
    | _ => cases e
def kitBs (t : String) : List String → Option Bool
  | [] => some false
  | c :: r => match kitB t c with | some true => some true | some false => kitBs t r | none => none
theorem kitBs_ok {t : String} : ∀ {l : List String} {b : Bool}, kitBs t l = some b → PySem.W.kitAny K (.type t) (l.map Value.type) = some b
  | [], b, e => by cases e; rfl
  | c :: r, b, e => by
    unfold kitBs at e
    show (match PySem.W.kitOne K (.type t) (.type c) with | some true => some true | some false => PySem.W.kitAny K (.type t) (r.map Value.type) | none => none) = some b
    cases q : kitB t c with
    | none => rw [q] at e; cases e
    | some z =>
      rw [q] at e
      rw [kit_ty q]
      cases z with
      | true => exact e
      | false => exact kitBs_ok e
theorem rvs_ty {ρ : List Addr} {T : Store} {H : Hp} {ns : List String} : ∀ {vs : List V}, RVs K κ ρ T H vs (ns.map Dt.ty) → Paired ClsV vs (ns.map Value.type) := by
  induction ns with
  | nil => rintro vs ⟨ds, a, b⟩; cases a; cases b; exact .nil
  | cons n r ih =>
    rintro vs ⟨ds, a, b⟩
    cases a with
    | cons a1 a2 =>
      cases b with
      | cons b1 b2 =>
        have e1 := RV.tyV ⟨_, a1, b1⟩
        rw [e1]
        exact .cons (.ty n) (ih ⟨_, a2, b2⟩)
theorem rvs_tyV {ρ : List Addr} {T : Store} {H : Hp} {ns : List String} : ∀ {vs : List V}, RVs K κ ρ T H vs (ns.map Dt.ty) → vs = ns.map V.ty := by
  induction ns with
  | nil => rintro vs ⟨ds, a, b⟩; cases a; cases b; rfl
  | cons n r ih =>
    rintro vs ⟨ds, a, b⟩
    cases a with
    | cons a1 a2 =>
      cases b with
      | cons b1 b2 =>
        have e1 := RV.tyV ⟨_, a1, b1⟩
        rw [e1, ih ⟨_, a2, b2⟩]
        rfl
theorem vals_ty : ∀ {ns : List String} {us : List Value}, Vals (ns.map V.ty) us → us = ns.map Value.type
  | [], us, h => by cases h; rfl
  | n :: r, us, h => by
    cases h with
    | cons h1 h2 =>
      rw [vals_ty h2]
      have e : _ = Value.type n := h1
      rw [e]
      rfl
def xIsi : List Dt → Xs → Res Dt := fun xs S => match xs with
  | [x, .ty T] => (match tyS S x with | some t => (match kitB t T with | some b => .ok (.bl b) S | none => .bad) | none => .bad)
  | [x, .tup cs] => (match tyS S x, tys cs with | some t, some ns => (match kitBs t ns with | some b => .ok (.bl b) S | none => .bad) | _, _ => .bad)
  | _ => .bad
theorem cx_isi : CbX K κ (rIsiX K) xIsi := cx_of fun ρ S T H vs xs z S' rs st rx e Q q => by
  unfold xIsi at e
  split at e
  · rename_i x T'
    split at e
    · rename_i t et
      split at e
      · rename_i b eb
        cases e
        obtain ⟨v, w, rfl, r1, r2⟩ := rx.cases2
        have := r2.tyV
        subst this
        exact .inl ⟨_, _, _, _, b, rfl, .ty T', tyS_ok rs st r1 et, kit_ty eb, q ρ T _ H (.refl rs) (.refl st) (.bl b)⟩
      · cases e
    · cases e
  · rename_i x cs
    split at e
    · rename_i t ns et ens
      split at e
      · rename_i b eb
        cases e
        obtain ⟨v, w, rfl, r1, r2⟩ := rx.cases2
        have := tys_ok ens
        subst this
        obtain ⟨d, rd, rp⟩ := r2
        obtain ⟨ds, rfl, ra⟩ := rd.tupD
        cases rp with
        | tup h1 h2 h3 => exact .inr (.inl ⟨_, _, _, _, _, b, rfl, h1, rvs_ty ⟨ds, ra, h3⟩, tyS_ok rs st r1 et, kitBs_ok eb, q ρ T _ H (.refl rs) (.refl st) (.bl b)⟩)
        | tupK h1 h2 =>
          obtain ⟨⟨oc, od, dt, osl⟩, its, n, e1, e2, e3, e4, e5⟩ := h1
          have e2 : oc = .type "tuple" := e2
          have e3 : dt = .seq its n := e3
          subst e2 e3
          have hv := vals_ty (rvs_tyV ⟨ds, ra, h2⟩ ▸ e5)
          refine .inr (.inr ⟨_, _, od, ns.map Value.type, n, osl, _, b, rfl, ?_, tyS_ok rs st r1 et, kitBs_ok eb, q ρ T _ H (.refl rs) (.refl st) (.bl b)⟩)
          rw [← hv]
          exact e1
      · cases e
    · cases e
  · cases e
/-! three names at once -/
def sPar3 (i j l : Nat) (r : Ma) : Ms := fun G S => (r G S).bind fun xs S1 => match xs with | [x, y, z] => .ok (.nx (((G.set i (some x)).set j (some y)).set l (some z))) S1 | _ => .bad
theorem st_par3 {i j l : Nat} {tr : TA} {mr : Ma} (hr : ArX K κ tr mr) : StX K κ (tPar3 i j l tr) (sPar3 i j l mr) := fun ρ G S E T r S' rg rs h => by
  obtain ⟨xs, S1, e1, h⟩ := Res.bind_eq h
  split at h
  · rename_i x y z
    cases h
    refine fun σ H Ed e f => hr ρ G S E T _ _ rg rs e1 σ H e _ fun ds T1 vs H1 ⟨ρ1, g1, rd⟩ s ra => ?_
    cases rd with
    | cons r1 rd =>
      cases rd with
      | cons r2 rd =>
        cases rd with
        | cons r3 rd =>
          cases rd
          cases ra with
          | cons a1 ra =>
            cases ra with
            | cons a2 ra =>
              cases ra with
              | cons a3 ra =>
                cases ra
                exact ⟨_, _, _, rfl, f.nx _ T1 _ H1 ⟨_, ρ1, rfl, g1, (((rg.mono g1.pre).set r1 i).set r2 j).set r3 l⟩ s ((((e.step s).set a1 i).set a2 j).set a3 l)⟩
  · cases h
/-! zip of two lists, of two tuples -/
def zipX : List Dt → List Dt → List Dt
  | x :: xs, y :: ys => .tup [x, y] :: zipX xs ys
  | _, _ => []
def zipD (xs ys : List D) : List D := List.zipWith (fun x y => .tup [x, y]) xs ys
theorem zipX_rd {ρ : List Addr} : ∀ {xs ys : List Dt} {ds es : List D}, RDs κ ρ xs ds → RDs κ ρ ys es → RDs κ ρ (zipX xs ys) (zipD ds es)
  | _, _, _, _, .nil, _ => by unfold zipX zipD; simp; exact .nil
  | _, _, _, _, .cons _ _, .nil => by unfold zipX zipD; simp; exact .nil
  | _, _, _, _, .cons a b, .cons c d => .cons (.tup (.cons a (.cons c .nil))) (zipX_rd b d)
theorem zip_get {xs ys : List D} {i : Nat} {d : D} (h : (zipD xs ys)[i]? = some d) : ∃ x y, xs[i]? = some x ∧ ys[i]? = some y ∧ d = .tup [x, y] := by
  unfold zipD at h
  rw [List.getElem?_zipWith] at h
  split at h
  · rename_i x y h1 h2
    cases h
    exact ⟨x, y, h1, h2, rfl⟩
  · cases h
theorem itr_zipL {Z : Addr → Prop} {H : Hp} {a b : Addr} {ds es : List D} (h1 : Rp K Z H (.ref a) (.lst ds)) (h2 : Rp K Z H (.ref b) (.lst es)) : ItR K (Itz K a b) (zipD ds es) Z H := fun H1 Z1 L zt => by
  obtain ⟨a', xs, e1, hx, ra⟩ := (h1.lift L).lstV
  obtain ⟨b', ys, e2, hy, rb⟩ := (h2.lift L).lstV
  cases e1
  cases e2
  have uq : ∀ {a : Addr} {xs zs : List V}, H1 a = some (.lst xs) → SqL K H1 a zs → True := fun _ _ => trivial
  refine ⟨fun i d hi => ?_, xs, ys, SqL.of hx, SqL.of hy, ?_⟩
  · obtain ⟨x, y, g1, g2, rfl⟩ := zip_get hi
    obtain ⟨v, hv, rv⟩ := ra.get g1
    obtain ⟨u, hu, ru⟩ := rb.get g2
    refine ⟨⟨xs, ys, v, u, SqL.of hx, SqL.of hy, hv, hu⟩, ?_⟩
    rintro w H2 ⟨t, v', u', rfl, ht, rfl, k1, k2⟩
    have e1 := (k1 xs (SqL.of hx)).symm.trans hv
    have e2 := (k2 ys (SqL.of hy)).symm.trans hu
    cases e1
    cases e2
    have kp : ∀ c o, H1 c = some o → upd H1 t (.tup [v, u]) c = some o := fun c o e => by rw [upd_ne (ne_of_none e ht)]; exact e
    have nz : ¬ Z1 t := fun z => zt t z ht
    have L2 : Lift Z1 H1 Z1 (upd H1 t (.tup [v, u])) := ⟨fun c o _ e => kp c o e, fun _ d => .inl d⟩
    exact ⟨kp, .tup upd_same nz (.cons (rv.lift L2) (.cons (ru.lift L2) .nil))⟩
  · unfold zipD
    rw [List.length_zipWith, ra.length, rb.length]
    omega
theorem itr_zipT {Z : Addr → Prop} {H : Hp} {a b : Addr} {ds es : List D} (h1 : Rp K Z H (.ref a) (.tup ds)) (h2 : Rp K Z H (.ref b) (.tup es)) : ItR K (RZ.ItzT K a b) (zipD ds es) Z H := fun H1 Z1 L zt => by
  obtain ⟨a', xs, e1, hx, ra⟩ := (h1.lift L).tupV
  obtain ⟨b', ys, e2, hy, rb⟩ := (h2.lift L).tupV
  cases e1
  cases e2
  refine ⟨fun i d hi => ?_, xs, ys, hx, hy, ?_⟩
  · obtain ⟨x, y, g1, g2, rfl⟩ := zip_get hi
    obtain ⟨v, hv, rv⟩ := ra.get g1
    obtain ⟨u, hu, ru⟩ := rb.get g2
    refine ⟨⟨xs, ys, v, u, hx, hy, hv, hu⟩, ?_⟩
    rintro w H2 ⟨t, v', u', rfl, ht, rfl, k1, k2⟩
    have e1 := (k1 xs hx).symm.trans hv
    have e2 := (k2 ys hy).symm.trans hu
    cases e1
    cases e2
    have kp : ∀ c o, H1 c = some o → upd H1 t (.tup [v, u]) c = some o := fun c o e => by rw [upd_ne (ne_of_none e ht)]; exact e
    have nz : ¬ Z1 t := fun z => zt t z ht
    have L2 : Lift Z1 H1 Z1 (upd H1 t (.tup [v, u])) := ⟨fun c o _ e => kp c o e, fun _ d => .inl d⟩
    exact ⟨kp, .tup upd_same nz (.cons (rv.lift L2) (.cons (ru.lift L2) .nil))⟩
  · unfold zipD
    rw [List.length_zipWith, ra.length, rb.length]
    omega
theorem pi_zipX {X : Cx} (K : PySem.W.Frag) {e e2 : Expr} {ta : TA} {p pos tpos : Pos} {elts : List Expr} {kk : Nat} (hg : Gl X "zip") (hm : X.mg "zip" = none) (ha : PA X [e, e2] ta) (h : X.K = K := by rfl)
    (hs : starEach [e, e2] X.env = (false, eval e X.env) :: starEach [e2] X.env := by rfl) (hpl : (backTo pos (starEach [e2] X.env)).any (·.1) = false := by rfl) :
    PI X (.Tuple elts kk tpos) (.Call (.Name "zip" p) [e, e2] [] pos) (RZ.iZipA K ta) := h ▸ RZ.pi_zipA hg hm ha hs hpl
def wZip (m : Ma) : Ma := fun G S => (m G S).bind fun xs S1 => match xs with
  | [.lst xs, .lst ys] => .ok (zipX xs ys) S1
  | [.tup xs, .tup ys] => .ok (zipX xs ys) S1
  | _ => .bad
theorem it_zip {ta : TA} {ma : Ma} (h : ArX K κ ta ma) : ItX K κ (RZ.iZipA K ta) (wZip ma) := fun ρ G S E T xs S' rg rs e => by
  obtain ⟨x, S1, e1, e⟩ := Res.bind_eq e
  split at e
  · cases e
    refine fun σ H eo R q => h ρ G S E T _ _ rg rs e1 σ H eo _ fun ds T' vs H' ⟨ρ', g, r⟩ s rp => ?_
    cases r with
    | cons r1 r2 =>
      cases r2 with
      | cons r2 r3 =>
        cases r3
        cases rp with
        | cons p1 p2 =>
          cases p2 with
          | cons p2 p3 =>
            cases p3
            obtain ⟨ds1, rfl, ra⟩ := r1.lstD
            obtain ⟨ds2, rfl, rb⟩ := r2.lstD
            obtain ⟨a, xs, rfl, hx, _⟩ := p1.lstV
            obtain ⟨b, ys, rfl, hy, _⟩ := p2.lstV
            exact ⟨a, b, xs, ys, rfl, .inl ⟨SqL.of hx, SqL.of hy, q _ T' _ H' ⟨ρ', g, zipX_rd ra rb⟩ s (itr_zipL p1 p2)⟩⟩
  · cases e
    refine fun σ H eo R q => h ρ G S E T _ _ rg rs e1 σ H eo _ fun ds T' vs H' ⟨ρ', g, r⟩ s rp => ?_
    cases r with
    | cons r1 r2 =>
      cases r2 with
      | cons r2 r3 =>
        cases r3
        cases rp with
        | cons p1 p2 =>
          cases p2 with
          | cons p2 p3 =>
            cases p3
            obtain ⟨ds1, rfl, ra⟩ := r1.tupD
            obtain ⟨ds2, rfl, rb⟩ := r2.tupD
            obtain ⟨a, xs, rfl, hx, _⟩ := p1.tupV
            obtain ⟨b, ys, rfl, hy, _⟩ := p2.tupV
            exact ⟨a, b, xs, ys, rfl, .inr ⟨hx, hy, q _ T' _ H' ⟨ρ', g, zipX_rd ra rb⟩ s (itr_zipT p1 p2)⟩⟩
  · cases e
end
end RX

set_option Elab.async false
set_option linter.all false
set_option maxRecDepth 100000
set_option maxHeartbeats 4000000
/-! The end of a law whose def is promised where no guard is set. -/
namespace RX
open PySem PySem.Spec PyProof.Rows L2 RS
section
variable {P : Program} {w : World} {K : PySem.W.Frag} {mg mb : Str → Option Value} {k : Nat} {f l : Addr} {fd : FuncData} {x : Str} {sp : Sp} {st : Shared} {us : List Value} {ns : List Int}
/-- the script's own object -/
abbrev scr (us : List Value) : Obj := { cls := .type "list", data := .seq us.toArray }
/-- a heap in which at most the script is told of -/
structure Scr (P : Program) (w : World) (K : PySem.W.Frag) (st : Shared) (l : Addr) (ns : List Int) (H : Hp) : Prop where
  only : L2.Only H
  seq : SqL K H l (ns.map V.int)
  hok : HOk P w H st.heap
  one : ∀ c, H c ≠ none → c = l
  off : H l ≠ none → K.lookup l = none
theorem scr_ex (hk : K.In st.heap) (ha : st.heap.get? l = some (scr us)) (hi : IntsAre us ns) (hl : ns.length ≤ sizeLine) : ∃ H, Scr P w K st l ns H := by
  have rv := vals_ints hi
  cases e : K.lookup l with
  | some ob =>
    have e2 := hk l ob e
    rw [ha] at e2
    cases e2
    exact ⟨fun _ => none, fun _ => .inl rfl, .inr ⟨_, us.toArray, _, e, rfl, rfl, rfl, by rw [List.size_toArray, hi.length]; exact hl, by simpa using rv⟩, fun c u z => (nomatch (show (none : Option HO) = some u from z)), fun c z => absurd rfl z, fun z => absurd rfl z⟩
  | none =>
    let H : Hp := fun c => if c = l then some (.frz (scr us) (.lst (ns.map V.int))) else none
    have h1 : H l = some (.frz (scr us) (.lst (ns.map V.int))) := if_pos rfl
    have h0 : ∀ c, c ≠ l → H c = none := fun c n => if_neg n
    refine ⟨H, fun c => ?_, .inl (.inr ⟨_, h1⟩), fun c u z => ?_, fun c z => ?_, fun _ => e⟩
    · by_cases q : c = l
      · exact .inr ⟨_, _, q ▸ h1⟩
      · exact .inl (h0 c q)
    · by_cases q : c = l
      · subst q
        rw [h1] at z
        cases z
        exact ⟨ha, by rw [List.length_map]; exact hl, us, _, rv, ha⟩
      · rw [h0 c q] at z
        cases z
    · by_cases q : c = l
      · exact q
      · exact absurd (h0 c q) z
theorem lawA (hk : K.In st.heap) (g : st.heap.Ns mainGlobals mg) (b : st.heap.Ns builtinsNs mb) (bb : ∀ y : Str, y ≠ "__name__" → mb y = bootBuiltins y) (nl : st.heap.NoLimit) (gn : st.gens = #[])
    (ha : st.heap.get? l = some (scr us)) (hi : IntsAre us ns) (hl : ns.length ≤ sizeLine) (hr : Room k callerA)
    (F : ∀ bs : Heap, K.In bs → bs.Ns mainGlobals mg → FnA P w K mg bs CX0 k f fd [x] sp) (bind : ∀ (s : Shared) (u : Value), BindsTo s fd ⟨[u], []⟩ [(x, u)])
    (hsp : ∀ H : Hp, L2.Only H → SqL K H l (ns.map V.int) → sp [.ref l] H (fun v _ => v = .bl true) fun _ _ _ => False) :
    codeAny (model P w) callerA (.call (.ref f) ⟨[.ref l], []⟩) (fun r s2 => r = .ok (.ret (.bool true)) ∧ OldK st.heap s2.heap ∧ s2.os = st.os ∧ AllBare s2.gens) st := by
  obtain ⟨H, Z⟩ := scr_ex (P := P) (w := w) hk ha hi hl
  have none_of : ∀ {c : Addr} {o : Obj}, st.heap.get? c = some o → o ≠ scr us → H c = none := fun {c o} e ne => by
    cases q : H c with
    | none => rfl
    | some u =>
      have ec := Z.one c (fun z => by rw [q] at z; cases z)
      subst ec
      rw [ha] at e
      exact absurd (Option.some.inj e).symm ne
  have ns_ok : ∀ {c : Addr} {m : Str → Option Value}, st.heap.Ns c m → (hidT st.heap H).Ns c m := fun {c m} ⟨o, es, ep, e, d, r⟩ => ⟨o, es, ep, hidT_get e (none_of e fun z => by
    rw [z] at d
    exact nomatch (show Data.seq us.toArray _ = Data.dict es ep from d)), d, r⟩
  have k_ok : K.In (hidT st.heap H) := fun c o e => hidT_get (hk c o e) (by
    cases q : H c with
    | none => rfl
    | some u =>
      have ec := Z.one c (fun z => by rw [q] at z; cases z)
      subst ec
      rw [Z.off (fun z => by rw [q] at z; cases z)] at e
      cases e)
  have md : Mod K mg (hidT st.heap H) := ⟨k_ok, ns_ok g, ⟨mb, ns_ok b, bb⟩, let ⟨mc, z1, z2⟩ := nl; ⟨mc, ns_ok z1, z2⟩⟩
  have ev : Env0 P w K mg (hidT st.heap H) callerA [] st H :=
    ⟨rfl, md, fun c o e => of_hidT e, Nat.le_of_eq (hidT_size _ _), trivial, fun c hc => (nomatch (show c ∈ ([] : List Addr) from hc)), Z.hok, AllBare.of_eq gn⟩
  have run := (F _ k_ok (ns_ok g)).run callerA [] st H ⟨[.ref l], []⟩ [.ref l] [.ref l] _ _ rfl hr ev (bind st (.ref l)) (.cons rfl .nil) (hsp H Z.only Z.seq)
  refine codeAny_mono run fun r s2 h => ?_
  match r, h with
  | .error e, h => exact False.elim h
  | .ok .next, h => exact False.elim h
  | .ok .brk, h => exact False.elim h
  | .ok .cont, h => exact False.elim h
  | .ok (.ret u), h =>
    obtain ⟨v, H2, os, bare, un, ok2, rv, q⟩ := h
    have q : v = .bl true := q
    subst q
    have eu : u = Value.bool true := rv
    subst eu
    refine ⟨rfl, OldK.of_keep fun c o e => ?_, os, bare⟩
    rcases Z.only c with z | ⟨ob, xs, z⟩
    · exact un.keep c o e z (fun m => nomatch (show c ∈ ([] : List Addr) from m)) (by simp)
    · obtain ⟨e1, _⟩ := Z.hok c _ z
      obtain ⟨e2, _⟩ := ok2 c _ (un.frzs c ob _ z)
      rw [e] at e1
      cases e1
      exact e2
end
/-- what a law's def computes, as the head wants it -/
theorem walkA {l : PySem.W.OpenLaw} {n k : Nat} {q : Program} {loose : List Str} {XP : (Str → Option Value) → Heap → Prop} {YP : World → Heap → Prop} {d : DefRec} {x : Str} (h1 : l.most = some n) (h2 : n ≤ sizeLine) (h3 : d.params.defaults = []) (h4 : Room k callerA)
    (F : ∀ (w : World) (mg : Str → Option Value) (f : Addr) (h : Heap), YP w h → h.Ns mainGlobals mg → mg d.name = some (.ref f) →
      ∃ (K : PySem.W.Frag) (fd : FuncData) (sp : Sp), K.In h ∧ (∀ (s : Shared) (u : Value), BindsTo s fd ⟨[u], []⟩ [(x, u)]) ∧
        (∀ (H : Hp) (a : Addr) (ns : List Int), ns.length ≤ n → L2.Only H → SqL K H a (ns.map V.int) → sp [.ref a] H (fun v _ => v = .bl true) fun _ _ _ => False) ∧
        ∀ bs : Heap, K.In bs → bs.Ns mainGlobals mg → FnA l.prog w K mg bs CX0 k f fd [x] sp) : PySem.W.WalkO q loose XP YP l.row.toRowW d [] (fun f vs => PySem.call f vs) := by
  refine Att.attach_call h1 h3 fun w s0 s1 mg mb f o pm cd doc a us ns G Y ho hd hcd hmg hobj hints hlen hg => ?_
  obtain ⟨K, fd, sp, c1, c2, c3, c4⟩ := F w mg f _ Y G.T.g hmg
  exact lawA c1 G.T.g G.T.b G.T.builtins G.T.nolimit hg hobj hints (Nat.le_trans hlen h2) h4 c4 c2 fun H z1 z2 => c3 H a ns hlen z1 z2
/-- the start of a law: the script alone -/
theorem law_start {K : PySem.W.Frag} {κ : Nat → Addr} {m : Mf} (hm : ∀ ns : List Int, ns.length ≤ 63 → ∃ S, m [.frz ns] [] = .ok (.bl true) S) (H : Hp) (a : Addr) (ns : List Int) (hl : ns.length ≤ 63) (hO : L2.Only H) (hS : SqL K H a (ns.map V.int)) :
    spOf K (spX κ m) [.ref a] H (fun v _ => v = .bl true) fun _ _ _ => False := by
  obtain ⟨S, e⟩ := hm ns hl
  have st : StOk K ([] : Store) H := ⟨List.nodup_nil, fun _ _ m => nomatch m⟩
  have ra : Rp K (dom []) H (.ref a) (.frz ns) := by
    rcases hS with (h | ⟨o, h⟩) | h
    · rcases hO a with e0 | ⟨o, xs, e0⟩ <;> (rw [e0] at h; cases h)
    · exact .frz h fun z => nomatch z
    · exact .frzK fun _ => .inr h
  exact ⟨[.frz ns], [], st, .cons ra .nil, [], [.frz ns], [], .bl true, S, ⟨.nil, rfl, fun n a x h => by simp at h⟩, .cons (.frz ns) .nil, e, fun d ρ' T' g r v H' s rv => by
    have := r.blD
    subst this
    exact rv.blV⟩
end RX

set_option Elab.async false
set_option linter.all false
set_option maxRecDepth 100000
set_option maxHeartbeats 4000000
/-! Own classes: made, read, asked by their special methods. -/
namespace RS
open PySem PySem.Spec PyProof.Rows L2
section
variable {X : Cx}
/-- a def run below the body at hand -/
theorem run_sub {A : Around} {n : Nat} {f : Addr} {fd : FuncData} {ps : List Str} {sp : Sp} {pins : List (Addr × Obj)} {σ : L2.St} {H : Hp} {s : Shared} {Q : VK} {us : List Value} {vs : List V} (F : FnA X.prog X.w X.K X.mg X.base CX0 n f fd ps sp) (sb : Sub X n A) (hG : Gd A) (hb : Binds X.K fd ps [])
    (I : Inv X pins σ H s) (r : Vals vs us) (h : sp vs H Q E0) : wpAny (model X.prog X.w) A (call (.ref f) us) (EP X pins σ Q) X.xe s := by
  have e0 : Env0 X.prog X.w X.K X.mg X.base A X.stack s H := by
    have e := I.env0
    exact ⟨by rw [sb.fr]; exact e.frames, e.mod, e.bs, e.bsz, e.funs, e.frf, e.hok, e.bare⟩
  have hl : us.length = ps.length := by rw [← r.length]; exact F.len _ _ _ _ h
  refine wpAny_call (codeAny_mono (F.run A X.stack s H ⟨us, []⟩ us vs Q E0 hG sb.room e0 (by
    have q := hb s us I.kIn (by simpa using hl)
    simpa using q) r h) fun r s' hq => ?_)
  cases r with
  | error e => exact False.elim hq
  | ok fl =>
    cases fl with
    | ret w => exact I.after hq
    | next => exact False.elim hq
    | brk => exact False.elim hq
    | cont => exact False.elim hq
/-- what is asked of a class of the program's own -/
structure OwnC (K : PySem.W.Frag) (C : Addr) : Prop where
  cl : Cls K C
  ha : PySem.W.findIn K (.ref C) "__class__" = some (some (.builtin "object.__class__"))
  hn : PySem.W.specialIn K (.builtin "object.__class__") "__get__" = some (some (.builtin "getset_descriptor.__get__"))
  htk : PySem.W.takesIn K (.builtin "object.__class__") = some true
  hm : PySem.W.mroIn K C (.type "object") = some true
/-- a special method of a class, as its users see it -/
structure Spm (P : Program) (w : World) (K : PySem.W.Frag) (mg : Str → Option Value) (base : Heap) (C : Addr) (m : Str) (k : Nat) (g : SpG) : Prop where
  ex : ∃ f fd ps, PySem.W.findIn K (.ref C) m = some (some (.ref f)) ∧ PySem.W.isFn K (.ref f) = true ∧ PySem.W.fnIn K f = true ∧ PySem.W.keepIn K (.ref f) = true ∧ FnA P w K mg base CX0 k f fd ps (spOf K g) ∧ Binds K fd ps []
theorem inst_at {pins : List (Addr × Obj)} {σ : L2.St} {H : Hp} {s : Shared} {a C dx : Addr} {fs : List (Str × V)} (I : Inv X pins σ H s) (h : H a = some (.ins C dx fs)) : ∃ ox od, PySem.W.InstAt s.heap a ox C od ∧ ox.data = .plain := by
  obtain ⟨mA, O, _⟩ := ins_get I.hok h
  obtain ⟨od, J, _⟩ := O.look
  exact ⟨_, _, J, rfl⟩
theorem typ_of {pins : List (Addr × Obj)} {σ : L2.St} {H : Hp} {s : Shared} {y : V} {u t : Value} (I : Inv X pins σ H s) (ry : RelV y u) (ty : TyX X.K H y t) (M : Model) : PySem.W.Looks M s.heap (typeOf u) t := by
  obtain ⟨P, Z, p, hx⟩ := kit_of I ry ty
  exact Z.ty M s.heap I.kIn p
/-- x == y by x's own __eq__ -/
def rCmpO (K : PySem.W.Frag) (C : Addr) (g : SpG) : R2 := fun x y H Q => ∃ a dx fs t, x = .ref a ∧ H a = some (.ins C dx fs) ∧ TyX K H y t ∧ PySem.W.notFirst K C t = true ∧ spOf K g [x, y] H Q E0
theorem not_ni {v : V} {u : Value} (r : RelV v u) {Q : Value → Shared → Prop} {s : Shared} (q : Q u s) : PySem.W.CmpBack Q u s := by
  cases v with
  | non => cases (show u = Value.none from r); exact q
  | bl b => cases (show u = Value.bool b from r); exact q
  | int i => obtain ⟨t, e⟩ := (show ∃ t, u = Value.int i t from r); subst e; exact q
  | str i => obtain ⟨t, e⟩ := (show ∃ t, u = Value.str i t from r); subst e; exact q
  | byt i => obtain ⟨t, e⟩ := (show ∃ t, u = Value.bytes i t from r); subst e; exact q
  | flt i => obtain ⟨t, e⟩ := (show ∃ t, u = Value.float i t from r); subst e; exact q
  | ref a => cases (show u = Value.ref a from r); exact q
  | ty n => cases (show u = Value.type n from r); exact q
theorem rc_own {op : CmpOp} {C : Addr} {k : Nat} {g : SpG} (c : Spm X.prog X.w X.K X.mg X.base C (cmpInfo op).2.1 k g) {A : Around} (sb : Sub X k A) (hG : Gd A) {pins : List (Addr × Obj)} {s : Shared} {σ : L2.St} {H : Hp} {x y : V} {v u : Value} {Q : VK} (I : Inv X pins σ H s) (rx : RelV x v) (ry : RelV y u) (h : rCmpO X.K C g x y H Q) :
    wpAny (model X.prog X.w) A (richCompare op v u) (EP X pins σ Q) X.xe s := by
  obtain ⟨a, dx, fs, t, rfl, ha, ty, nf, h⟩ := h
  cases rx
  obtain ⟨f, fd, ps, h1, h2, h3, h4, h5, h6⟩ := c.ex
  obtain ⟨ox, od, J, _⟩ := inst_at I ha
  obtain ⟨m, hF⟩ := I.fr
  refine PySem.W.cmp_K sb.room.units0 hF I.ok.mod.kin J (typ_of I ry ty _) nf h1 h2 ?_
  refine wpAny_mono (run_sub (vs := [V.ref a, y]) h5 sb hG h6 I (.cons (show RelV (V.ref a) (Value.ref a) from rfl) (.cons ry .nil)) h) (fun r s' q => ?_) fun _ _ z => z
  obtain ⟨z, H', I', rz, q⟩ := q
  exact not_ni rz ⟨z, H', I', rz, q⟩
theorem op_eqO {C : Addr} {k : Nat} {g : SpG} (c : Spm X.prog X.w X.K X.mg X.base C "__eq__" k g) (hr : Room k X.A) (hG : Gd X.A) : OpR X (compareOp .Eq) (rCmpO X.K C g) := by
  intro pins s σ H x y v u Q I rx ry h
  show wpAny (model X.prog X.w) X.A (richCompare .Eq v u) (EP X pins σ Q) X.xe s
  exact rc_own (op := .Eq) c ⟨hr, rfl⟩ hG I rx ry h
theorem op_ltO {C : Addr} {k : Nat} {g : SpG} (c : Spm X.prog X.w X.K X.mg X.base C "__lt__" k g) (hr : Room k X.A) (hG : Gd X.A) : OpR X (compareOp .Lt) (rCmpO X.K C g) := by
  intro pins s σ H x y v u Q I rx ry h
  show wpAny (model X.prog X.w) X.A (richCompare .Lt v u) (EP X pins σ Q) X.xe s
  exact rc_own (op := .Lt) c ⟨hr, rfl⟩ hG I rx ry h
theorem op_leO {C : Addr} {k : Nat} {g : SpG} (c : Spm X.prog X.w X.K X.mg X.base C "__le__" k g) (hr : Room k X.A) (hG : Gd X.A) : OpR X (compareOp .LtE) (rCmpO X.K C g) := by
  intro pins s σ H x y v u Q I rx ry h
  show wpAny (model X.prog X.w) X.A (richCompare .LtE v u) (EP X pins σ Q) X.xe s
  exact rc_own (op := .LtE) c ⟨hr, rfl⟩ hG I rx ry h
theorem op_gtO {C : Addr} {k : Nat} {g : SpG} (c : Spm X.prog X.w X.K X.mg X.base C "__gt__" k g) (hr : Room k X.A) (hG : Gd X.A) : OpR X (compareOp .Gt) (rCmpO X.K C g) := by
  intro pins s σ H x y v u Q I rx ry h
  show wpAny (model X.prog X.w) X.A (richCompare .Gt v u) (EP X pins σ Q) X.xe s
  exact rc_own (op := .Gt) c ⟨hr, rfl⟩ hG I rx ry h
theorem op_geO {C : Addr} {k : Nat} {g : SpG} (c : Spm X.prog X.w X.K X.mg X.base C "__ge__" k g) (hr : Room k X.A) (hG : Gd X.A) : OpR X (compareOp .GtE) (rCmpO X.K C g) := by
  intro pins s σ H x y v u Q I rx ry h
  show wpAny (model X.prog X.w) X.A (richCompare .GtE v u) (EP X pins σ Q) X.xe s
  exact rc_own (op := .GtE) c ⟨hr, rfl⟩ hG I rx ry h
/-- a built-in special method, looked up as comparisons do -/
theorem ifBound_blt {M : Model} {A : Around} {E : Value → Shared → Prop} {s : Shared} {K : PySem.W.Frag} {x C : Addr} {ox : Obj} {od : Option Obj} {name : Str} {id : String} {args : List Value} {Q : Option Value → Shared → Prop} (Xk : K.In s.heap) (I : PySem.W.InstAt s.heap x ox C od)
    (hs : PySem.W.findIn K (.ref C) name = some (some (.builtin id))) (hb : ∀ self, bindSpecial (.builtin id) self = pure (.builtin id, [self]))
    (h : wpAny M A (call (.builtin id) (.ref x :: args)) (fun v => Q (some v)) E s) : wpAny M A (callSpecialIfBound? (.ref x) name args) Q E s := by
  simp only [callSpecialIfBound?, bindSpecialIfBound?]
  refine wpAny_holding (wpAny_bind (wpAny_bind (wpAny_bind (I.type.here ((PySem.W.looks_findIn Xk hs).here ?_)))))
  refine wpAny_bind (wpAny_askSetting (wpAny_ite ?_))
  have fin : wpAny M A (call (.builtin id) ([.ref x] ++ args) >>= fun v => pure (some v)) Q E s := wpAny_bind (wpAny_mono h (fun v s' h' => wpAny_pure h') fun _ _ h' => h')
  split
  · exact wpAny_bind ((PySem.W.Looks.of_pure (hb _)).here (wpAny_pure (by exact fin)))
  · exact wpAny_tryCatch (wpAny_bind ((PySem.W.Looks.of_pure (hb _)).here (wpAny_pure (by exact fin))))
/-- x != y by x's own __eq__ and object's __ne__ -/
def rNeO (K : PySem.W.Frag) (C : Addr) (g : SpG) : R2 := fun x y H Q => ∃ a dx fs t, x = .ref a ∧ H a = some (.ins C dx fs) ∧ TyX K H y t ∧ PySem.W.notFirst K C t = true ∧ spOf K g [x, y] H (fun v H' => ∃ b, v = .bl b ∧ Q (.bl (!b)) H') E0
theorem op_neO {C : Addr} {k : Nat} {g : SpG} (c : Spm X.prog X.w X.K X.mg X.base C "__eq__" k g) (hne : PySem.W.findIn X.K (.ref C) "__ne__" = some (some (.builtin "object.__ne__"))) (hm : PySem.W.mroIn X.K C (.type "object") = some true) (hr : Room (k + 1) X.A) (hG0 : Gd X.A) : OpR X (compareOp .NotEq) (rNeO X.K C g) := by
  intro pins s σ H x y v u Q I rx ry h
  show wpAny (model X.prog X.w) X.A (richCompare .NotEq v u) (EP X pins σ Q) X.xe s
  obtain ⟨a, dx, fs, t, rfl, ha, ty, nf, h⟩ := h
  cases rx
  obtain ⟨f, fd, ps, h1, h2, h3, h4, h5, h6⟩ := c.ex
  obtain ⟨ox, od, J, _⟩ := inst_at I ha
  have Xk := I.kIn
  have hb := typ_of I ry ty (model X.prog X.w)
  have sb : Sub X k X.A.in1 := Sub.in1 ⟨hr, rfl⟩
  have hG : Gd X.A.in1 := hG0
  have one : wpAny (model X.prog X.w) X.A (tryCompare (.ref a) (cmpInfo .NotEq).2.1 u) (fun r s' => ∃ v, r = some v ∧ EP X pins σ Q v s') X.xe s := by
    unfold tryCompare
    refine wpAny_bind (ifBound_blt Xk J hne PySem.F.slot_object_ne.bind ?_)
    refine wpAny_call (codeAny_call_builtin PySem.F.slot_object_ne.plain PySem.F.entry_object_ne (PySem.W.check_slot (i := "object.__ne__") (owner := "object") (n := "__ne__") (by decide +kernel) (by decide +kernel) (J.type.andThen (PySem.W.looks_mroIn Xk hm)) (PySem.F.args_object_ne_2 _ _) ?_))
    show wpAny _ _ (cRoomFor "comparison" [.ref a, u] >>= _) _ _ _
    refine wpAny_bind (wpAny_cRoomFor sb.room.units0 ?_)
    refine wpAny_bind (PySem.W.ifBound_K Xk J h1 h2 (wpAny_mono (run_sub (vs := [V.ref a, y]) h5 sb hG h6 I (.cons (show RelV (V.ref a) (Value.ref a) from rfl) (.cons ry .nil)) h) (fun r s' q => ?_) fun _ _ z => z))
    obtain ⟨z, H', I', rz, b, ez, q⟩ := q
    subst ez
    cases (show r = Value.bool b from rz)
    show wpAny _ _ (truthy (Value.bool b) >>= _) _ _ _
    refine wpAny_bind (wpAny_truthy_bool ?_)
    refine wpAny_pure ?_
    exact wpAny_pure ⟨_, rfl, .bl (!b), H', I', rfl, q⟩
  unfold richCompare
  simp only [oneThing_ref]
  refine wpAny_holding (wpAny_bind (wpAny_cRoomFor hr.units0 ?_))
  refine wpAny_bind (J.type.here (wpAny_bind (hb.here ?_)))
  split
  · rename_i q
    have e : PySem.W.subIn X.K t (.ref C) = some false := by
      rcases Bool.or_eq_true_iff.mp nf with e | e
      · rw [beq_iff_eq.mp e] at q; simp at q
      · exact beq_iff_eq.mp e
    refine wpAny_bind ((PySem.W.looks_subIn Xk e).here ?_)
    simp only [Bool.false_eq_true, if_false]
    refine wpAny_bind (wpAny_mono one (fun r s' z => ?_) fun _ _ e => e)
    obtain ⟨v, rfl, hq⟩ := z
    exact wpAny_pure hq
  · refine wpAny_bind (wpAny_pure ?_)
    simp only [Bool.false_eq_true, if_false]
    refine wpAny_bind (wpAny_mono one (fun r s' z => ?_) fun _ _ e => e)
    obtain ⟨v, rfl, hq⟩ := z
    exact wpAny_pure hq
end
end RS

set_option Elab.async false
set_option linter.all false
set_option maxRecDepth 100000
set_option maxHeartbeats 4000000
namespace RS
open PySem PySem.Spec PyProof.Rows L2
section
variable {K : PySem.W.Frag} {Z : Addr → Prop} {H : Hp}
theorem RpF.put {f : Str} {v : V} {d : D} (r : Rp K Z H v d) : ∀ {vs : List (Str × V)} {ds : List (Str × D)}, RpF K Z H vs ds → RpF K Z H (putF f v vs) (putD f d ds)
  | _, _, .nil => .cons r .nil
  | _, _, .cons (f := g) q t => by
    unfold putF putD
    by_cases e : g = f
    · rw [if_pos e, if_pos e]
      subst e
      exact .cons r t
    · rw [if_neg e, if_neg e]
      exact .cons q (RpF.put r t)
end
structure FldOk (K : PySem.W.Frag) (C : Addr) (f : Str) : Prop where
  cl : Cls K C
  no : NoAttr K C f
def FldG (K : PySem.W.Frag) (f : Str) (o : D) (S : Store) (P : PD) : Prop := ∃ C fs d, (o = .obj C fs ∨ ∃ a, o = .ref a ∧ S.lookup a = some (.ins C fs)) ∧ FldOk K C f ∧ fs.lookup f = some d ∧ P d S
section
variable {K : PySem.W.Frag} {S S' S1 S2 : Store} {H H' H1 H2 : Hp} {σ σ' : L2.St} {G G' : Env'} {ta tb te tv : TE} {P : PD} {N : EndsD}
theorem g_fld {f : Str} (h : EvG K ta G S fun o S1 => FldG K f o S1 P) : EvG K (tFld K ta f) G S P := fun σ H e Q q =>
  h σ H e _ fun o S1 vo H1 ⟨C, fs, d, ho, hf, hl, p⟩ s1 r1 => by
    rcases ho with rfl | ⟨a, rfl, ha⟩
    · obtain ⟨a, dx, gs, rfl, hx, nz, rf⟩ := r1.objV
      obtain ⟨v, h1, h2⟩ := rf.lookup hl
      exact ⟨a, C, dx, gs, v, rfl, hx, hf.cl, hf.no, h1, q d S1 v H1 p s1 h2⟩
    · have e1 := r1.refV
      subst e1
      obtain ⟨dx, gs, hx, rf⟩ := s1.st.ok a _ (lookup_mem ha)
      obtain ⟨v, h1, h2⟩ := rf.lookup hl
      exact ⟨a, C, dx, gs, v, rfl, hx, hf.cl, hf.no, h1, q d S1 v H1 p s1 h2⟩
theorem f_obj {f : Str} {C : Addr} {fs : List (Str × D)} {d : D} (hf : FldOk K C f) (hl : fs.lookup f = some d) (k : P d S) : FldG K f (.obj C fs) S P := ⟨C, fs, d, .inl rfl, hf, hl, k⟩
theorem f_cell {f : Str} {C a : Addr} {fs : List (Str × D)} {d : D} (ha : S.lookup a = some (.ins C fs)) (hf : FldOk K C f) (hl : fs.lookup f = some d) (k : P d S) : FldG K f (.ref a) S P := ⟨C, fs, d, .inr ⟨a, rfl, ha⟩, hf, hl, k⟩
theorem x_fld {f : Str} (h : EvG K tv G S fun d S1 => EvG K ta G S1 fun o S2 => ∃ a C fs, o = .ref a ∧ S2.lookup a = some (.ins C fs) ∧ FldOk K C f ∧ fs.length < 1000 ∧ N.nx G (setC S2 a (.ins C (putD f d fs)))) : ExG K (sFld K ta tv f) G S N := fun σ H E e fi =>
  h σ H e _ fun d S1 v H1 p1 s1 r1 => p1 σ H1 (e.step s1) _ fun o S2 vo H2 ⟨a, C, fs, eo, hl, hf, hz, p2⟩ s2 r2 => by
    subst eo
    have e1 := r2.refV
    subst e1
    obtain ⟨dx, gs, hx, rf⟩ := s2.st.ok a _ (lookup_mem hl)
    have r1' := r1.lift s2.lft
    refine ⟨a, C, dx, gs, rfl, hx, hf.cl, hf.no, by rw [rf.length]; exact hz, ?_⟩
    have sp : Step K S2 H2 (setC S2 a (.ins C (putD f d fs))) (upd H2 a (.ins C dx (putF f v gs))) := .put s2.st hl ⟨dx, _, upd_same, (rf.put r1').lift (Lift.put hl)⟩
    exact fi.nx _ _ _ _ p2 ((s1.trans s2).trans sp) (((e.step s1).step s2).step sp)
/-- C(e, ..): the instance is a cell while __init__ runs -/
theorem g_make {C : Addr} {g : SpG} {dvs : List V} {dds : List D} {E : XK} {t : TA} (hd : ∀ Z H, RpAll K Z H dvs dds) (gm : ∀ xs S1 P P', g xs S1 P → (∀ d S', P d S' → P' d S') → g xs S1 P')
    (h : EvA K t G S fun ds S1 => ∀ x, ¬ dom S1 x → g (.ref x :: (ds ++ dds)) ((x, .ins C []) :: S1) fun d S2 => d = .non ∧ ∃ fs S3, S2 = (x, .ins C fs) :: S3 ∧ P (.obj C fs) S3) : EvG K (tMake C (spOf K g) dvs E t) G S P := fun σ H e Q q =>
  h σ H e _ fun ds S1 vs H1 p1 s1 r1 => fun x dx hx hdx nex => by
    have sa : Step K S1 H1 S1 (upd H1 dx (.own x)) := .new s1.st hdx
    have hx2 : upd H1 dx (.own x) x = none := by rw [upd_ne (fun z => nex z.symm)]; exact hx
    have sb : Step K S1 (upd H1 dx (.own x)) ((x, .ins C []) :: S1) (upd (upd H1 dx (.own x)) x (.ins C dx [])) := .cell sa.st hx2 ⟨dx, [], upd_same, .nil⟩
    have sc := sa.trans sb
    refine ⟨.ref x :: (ds ++ dds), (x, .ins C []) :: S1, sc.st, .cons (.ref x) (((r1.lift sc.lft)).append (hd _ _)), gm _ _ _ _ (p1 x (s1.st.nodom hx)) fun d S2 ⟨ed, fs, S3, e2, p⟩ v H2 s2 r2 => ?_⟩
    subst ed e2
    refine ⟨r2.nonV, ?_⟩
    obtain ⟨dx2, gs, hx3, rf⟩ := s2.st.ok x _ List.mem_cons_self
    have nD : ¬ dom S3 x := (List.nodup_cons.mp s2.st.nd).1
    have sd : Step K ((x, Cell.ins C fs) :: S3) H2 S3 H2 := ⟨fun _ _ _ e => e, s2.st.sub (fun p hp => List.mem_cons_of_mem _ hp) (List.nodup_cons.mp s2.st.nd).2, fun a d => .inl (List.mem_cons_of_mem _ d)⟩
    exact q _ _ _ _ p (((s1.trans sc).trans s2).trans sd) (.obj hx3 nD (rf.lift sd.lft))
theorem g_meth {C : Addr} {m : Str} {g : SpG} {E : XK} {t : TA} (gm : ∀ xs S1 P P', g xs S1 P → (∀ d S', P d S' → P' d S') → g xs S1 P')
    (h : EvG K ta G S fun o S1 => ∃ fs, (o = .obj C fs ∨ ∃ a, o = .ref a ∧ S1.lookup a = some (.ins C fs)) ∧ fs.lookup m = none ∧ EvA K t G S1 fun ds S2 => g (o :: ds) S2 P) : EvG K (tMeth C m (spOf K g) [] E ta t) G S P := fun σ H e Q q =>
  h σ H e _ fun o S1 vo H1 ⟨fs, ho, hl, p⟩ s1 r1 => by
    have key : ∃ a dx gs, vo = .ref a ∧ H1 a = some (.ins C dx gs) ∧ gs.lookup m = none := by
      rcases ho with rfl | ⟨a, rfl, ha⟩
      · obtain ⟨a, dx, gs, e1, hx, nz, rf⟩ := r1.objV
        exact ⟨a, dx, gs, e1, hx, rf.none hl⟩
      · obtain ⟨dx, gs, hx, rf⟩ := s1.st.ok a _ (lookup_mem ha)
        exact ⟨a, dx, gs, r1.refV, hx, rf.none hl⟩
    obtain ⟨a, dx, gs, ev, hx, hn⟩ := key
    refine ⟨a, dx, gs, ev, hx, hn, p σ H1 (e.step s1) _ fun ds S2 vs H2 p2 s2 r2 => ?_⟩
    rw [List.append_nil]
    exact ⟨o :: ds, S2, s2.st, .cons (r1.lift s2.lft) r2, gm _ _ _ _ p2 fun d S3 p3 v H3 s3 r3 => q d S3 v H3 p3 ((s1.trans s2).trans s3) r3⟩
end
/-! ### own classes as their users see them -/
section
variable {X : Cx}
/-- C(..) -/
structure Mkc (P : Program) (w : World) (K : PySem.W.Frag) (mg : Str → Option Value) (base : Heap) (x : Str) (C : Addr) (k : Nat) (g : SpG) (dvs : List V) : Prop where
  ex : ∃ f fd ps ds, mg x = some (.ref C) ∧ Mk K C f ∧ FnA P w K mg base CX0 k f fd ps (spOf K g) ∧ Binds K fd ps ds ∧ Vals dvs ds
theorem pe_makeQ {P : Program} {w : World} (K : PySem.W.Frag) {mg : Str → Option Value} {base : Heap} {k : Nat} {C : Addr} {g : SpG} {dvs : List V} {x : Str} {p pos : Pos} {e : Expr} {es : List Expr} {t : TA} (c : Mkc P w K mg base x C k g dvs) (hr : Room (k + 1) X.A) (hG : Gd X.A) (hg : Gl X x) (ha : PA X (e :: es) t)
    (h : X.K = K := by rfl) (h1 : X.prog = P := by rfl) (h2 : X.w = w := by rfl) (h3 : X.mg = mg := by rfl) (h4 : X.base = base := by rfl)
    (hdb : (x == ("__debug__" : Str)) = false := by decide) (he : starEach (e :: es) X.env = (false, eval e X.env) :: starEach es X.env := by rfl) (hpl : (backTo pos (starEach es X.env)).any (·.1) = false := by rfl) :
    PE X (.Call (.Name x p) (e :: es) [] pos) (tMake C (spOf K g) dvs E0 t) := by
  subst h h1 h2 h3 h4
  obtain ⟨f, fd, ps, ds, q1, q2, q3, q4, q5⟩ := c.ex
  refine ⟨fun pins s σ H Q I hq => ?_⟩
  refine wpAny_Call_Name_kw (ld_glob I hg q1 ?_ hdb)
  refine PySem.W.callWith_K (h₀ := X.base) I.ok.mod.kin q2.kp (thn (ha.run pos pins s σ H _ I hq) fun us s1 ⟨vs, H1, I1, r, z⟩ => ⟨I1.kIn, ?_⟩) he hpl
  exact makeA q2 q3 hr hG q4 q5 I1 r z
theorem pe_makeQ0 {P : Program} {w : World} (K : PySem.W.Frag) {mg : Str → Option Value} {base : Heap} {k : Nat} {C : Addr} {g : SpG} {dvs : List V} {x : Str} {p pos : Pos} (c : Mkc P w K mg base x C k g dvs) (hr : Room (k + 1) X.A) (hG : Gd X.A) (hg : Gl X x)
    (h : X.K = K := by rfl) (h1 : X.prog = P := by rfl) (h2 : X.w = w := by rfl) (h3 : X.mg = mg := by rfl) (h4 : X.base = base := by rfl)
    (hdb : (x == ("__debug__" : Str)) = false := by decide) : PE X (.Call (.Name x p) [] [] pos) (tMake C (spOf K g) dvs E0 tNil) := by
  subst h h1 h2 h3 h4
  obtain ⟨f, fd, ps, ds, q1, q2, q3, q4, q5⟩ := c.ex
  refine ⟨fun pins s σ H Q I hq => ?_⟩
  refine wpAny_Call_Name_kw (ld_glob I hg q1 ?_ hdb)
  exact PySem.W.callWith_K0 I.kIn q2.kp (makeA (us := []) q2 q3 hr hG q4 q5 I .nil hq)
/-- an instance called -/
def tCallD (C : Addr) (sp : Sp) (tf : TE) (t : TA) : TE := fun σ H Q => tf σ H fun y H1 => ∃ a, y = V.ref a ∧ t σ H1 fun vs H2 => (∃ dx fs, H2 a = some (.ins C dx fs)) ∧ sp (V.ref a :: vs) H2 Q E0
theorem pe_callD {P : Program} {w : World} (K : PySem.W.Frag) {mg : Str → Option Value} {base : Heap} {k : Nat} {C : Addr} {g : SpG} {fe e : Expr} {es : List Expr} {tf : TE} {t : TA} {pos : Pos} (c : Spm P w K mg base C "__call__" k g) (hr : Room k X.A) (hG : Gd X.A) (hf : PE X fe tf) (ha : PA X (e :: es) t)
    (h : X.K = K := by rfl) (h1 : X.prog = P := by rfl) (h2 : X.w = w := by rfl) (h3 : X.mg = mg := by rfl) (h4 : X.base = base := by rfl)
    (ht : eval (.Call fe (e :: es) [] pos) X.env = (do callWith pos (← eval fe X.env) [] (backTo pos (starEach (e :: es) X.env)) (backToKw pos (keywordEach [] X.env))) := by rfl)
    (he : starEach (e :: es) X.env = (false, eval e X.env) :: starEach es X.env := by rfl) (hpl : (backTo pos (starEach es X.env)).any (·.1) = false := by rfl) : PE X (.Call fe (e :: es) [] pos) (tCallD C (spOf K g) tf t) := by
  subst h h1 h2 h3 h4
  obtain ⟨f, fd, ps, q1, q2, q3, q4, q5, q6⟩ := c.ex
  refine ⟨fun pins s σ H Q I h => ?_⟩
  refine Call_ (thn (hf.run pins s σ H _ I h) fun u s1 ⟨y, H1, I1, ry, a, ey, q⟩ => ?_) ht
  subst ey
  obtain rfl : u = Value.ref a := ry
  refine StX.callO_with (thn (ha.run pos pins s1 σ H1 _ I1 q) fun us s2 ⟨vs, H2, I2, r, ⟨dx, fs, hi⟩, z⟩ => ?_) he hpl
  obtain ⟨ox, od, J, hd⟩ := inst_at I2 hi
  refine ⟨⟨C, ox, od, J, hd⟩, ?_⟩
  have hl : (Value.ref a :: us).length = ps.length := by
    have := q5.len _ _ _ _ z
    rw [← this]
    simp [r.length]
  refine wpAny_call (PySem.W.kco_code I2.kIn J hd q1 q2 q3 (codeAny_mono (q5.run X.A X.stack s2 H2 ⟨.ref a :: us, []⟩ (.ref a :: us) (.ref a :: vs) Q E0 hG hr I2.env0 (by
    have b := q6 s2 (.ref a :: us) I2.kIn (by simpa using hl)
    simpa using b) (.cons (show RelV (V.ref a) (Value.ref a) from rfl) r) z) fun r s' hq => ?_))
  cases r with
  | error e => exact False.elim hq
  | ok fl =>
    cases fl with
    | ret w => exact I2.after hq
    | next => exact False.elim hq
    | brk => exact False.elim hq
    | cont => exact False.elim hq
/-- str(o) -/
def cStrO (K : PySem.W.Frag) (C : Addr) (g : SpG) : List V → Hp → VK → Prop := fun xs H Q => ∃ a dx fs, xs = [.ref a] ∧ H a = some (.ins C dx fs) ∧ spOf K g [.ref a] H (fun v H' => ∃ z, v = .str z ∧ Q v H') E0
theorem cr_strO {C : Addr} {k : Nat} {g : SpG} (c : Spm X.prog X.w X.K X.mg X.base C "__str__" k g) (hr : Room (k + 2) X.A) (hG0 : Gd X.A) : CallR X (.type "str") (cStrO X.K C g) := by
  intro pins s σ H xs us Q I r h
  obtain ⟨a, dx, fs, rfl, ha, h⟩ := h
  obtain ⟨f, fd, ps, h1, h2, h3, h4, h5, h6⟩ := c.ex
  obtain ⟨u, eu, ru⟩ : ∃ u, us = [u] ∧ u = Value.ref a := by
    cases r with
    | cons r1 r2 => cases r2; exact ⟨_, rfl, r1⟩
  subst eu ru
  obtain ⟨ox, od, J, _⟩ := inst_at I ha
  have sb : Sub X k X.A.in1.in1 := Sub.in1 (Sub.in1 ⟨hr, rfl⟩)
  have hG : Gd X.A.in1.in1 := hG0
  refine PySem.W.kso_call sb.room.units0 I.kIn J h1 h2 ?_
  refine wpAny_mono (run_sub (vs := [V.ref a]) h5 sb hG h6 I (.cons (show RelV (V.ref a) (Value.ref a) from rfl) .nil) h) (fun r s' q => ?_) fun _ _ z => z
  obtain ⟨z, H', I', rz, y, ez, q⟩ := q
  subst ez
  obtain ⟨t, rfl⟩ := rz
  exact ⟨.str y, H', I', ⟨t, rfl⟩, q⟩
/-- {o} in an f-string: a text, an int, an object -/
def tFmtD (K : PySem.W.Frag) (C : Addr) (g : SpG) (te : TE) : TE := fun σ H Q => te σ H fun x H1 => ∃ a dx fs, x = .ref a ∧ H1 a = some (.ins C dx fs) ∧ spOf K g [.ref a] H1 (fun v H' => ∃ z, v = .str z ∧ Q v H') E0
theorem pe_fmtD {P : Program} {w : World} (K : PySem.W.Frag) {mg : Str → Option Value} {base : Heap} {k : Nat} {C : Addr} {g : SpG} {e : Expr} {te : TE} {pos : Pos} (c : Spm P w K mg base C "__str__" k g) (hfm : PySem.W.findIn K (.ref C) "__format__" = some (some (.builtin "object.__format__"))) (hm : PySem.W.mroIn K C (.type "object") = some true) (hr : Room (k + 1) X.A) (hG0 : Gd X.A) (he : PE X e te)
    (h : X.K = K := by rfl) (h1 : X.prog = P := by rfl) (h2 : X.w = w := by rfl) (h3 : X.mg = mg := by rfl) (h4 : X.base = base := by rfl) : PE X (.FormattedValue e (-1) none pos) (tFmtD K C g te) := by
  subst h h1 h2 h3 h4
  obtain ⟨f, fd, ps, h1, h2, h3, h4, h5, h6⟩ := c.ex
  refine ⟨fun pins s σ H Q I h => ?_⟩
  refine wpAny_FormattedValue_plain (thn (he.run pins s σ H _ I h) fun v s1 hv => ?_)
  obtain ⟨x, H1, I1, r1, a, dx, fs, rfl, ha, q⟩ := hv
  cases r1
  obtain ⟨ox, od, J, _⟩ := inst_at I1 ha
  have sb : Sub X k X.A.in1 := Sub.in1 ⟨hr, rfl⟩
  have hG : Gd X.A.in1 := hG0
  refine PySem.W.kfo_fieldS sb.room.units0 I1.kIn J hfm hm h1 h2 ?_
  refine wpAny_mono (run_sub (vs := [V.ref a]) h5 sb hG h6 (I1.tok _) (.cons (show RelV (V.ref a) (Value.ref a) from rfl) .nil) q) (fun r s' q => ?_) fun _ _ z => z
  obtain ⟨z, H', I', rz, y, ez, q⟩ := q
  subst ez
  obtain ⟨t, rfl⟩ := rz
  exact ⟨.str y, H', I', ⟨t, rfl⟩, q⟩
end
section
variable {K : PySem.W.Frag} {S : Store} {G : Env'} {P : PD} {te tf : TE} {t : TA}
abbrev Mono (g : SpG) : Prop := ∀ xs S1 P P', g xs S1 P → (∀ d S', P d S' → P' d S') → g xs S1 P'
theorem g_callD {C : Addr} {g : SpG} (gm : Mono g) (h : EvG K tf G S fun o S1 => ∃ fs, o = .obj C fs ∧ EvA K t G S1 fun ds S2 => g (o :: ds) S2 P) : EvG K (tCallD C (spOf K g) tf t) G S P := fun σ H e Q q =>
  h σ H e _ fun o S1 vo H1 ⟨fs, ho, p⟩ s1 r1 => by
    subst ho
    obtain ⟨a, dx, gs, e1, hx, nz, rf⟩ := r1.objV
    subst e1
    refine ⟨a, rfl, p σ H1 (e.step s1) _ fun ds S2 vs H2 p2 s2 r2 => ?_⟩
    have r1' := r1.lift s2.lft
    obtain ⟨a', dx', gs', e1', hx', _⟩ := r1'.objV
    cases e1'
    exact ⟨⟨dx', gs', hx'⟩, _, S2, s2.st, .cons r1' r2, gm _ _ _ _ p2 fun d S3 p3 v H3 s3 r3 => q d S3 v H3 p3 ((s1.trans s2).trans s3) r3⟩
theorem c_strO {C : Addr} {g : SpG} {fs : List (Str × D)} (gm : Mono g) (h : g [.obj C fs] S fun d S' => ∃ z, d = .str z ∧ P d S') : CbG K (cStrO K C g) [.obj C fs] S P := fun H vs st r Q q => by
  cases r with
  | cons r1 r2 =>
    cases r2
    obtain ⟨a, dx, gs, e1, hx, nz, rf⟩ := r1.objV
    subst e1
    exact ⟨a, dx, gs, rfl, hx, _, S, st, .one r1, gm _ _ _ _ h fun d S' ⟨z, ed, p⟩ v H' s' r' => by
      subst ed
      exact ⟨z, r'.strV, q _ _ _ _ p s' r'⟩⟩
theorem g_fmtD {C : Addr} {g : SpG} (gm : Mono g) (h : EvG K te G S fun o S1 => ∃ fs, o = .obj C fs ∧ g [o] S1 fun d S' => ∃ z, d = .str z ∧ P d S') : EvG K (tFmtD K C g te) G S P := fun σ H e Q q =>
  h σ H e _ fun o S1 vo H1 ⟨fs, ho, p⟩ s1 r1 => by
    subst ho
    obtain ⟨a, dx, gs, e1, hx, nz, rf⟩ := r1.objV
    subst e1
    exact ⟨a, dx, gs, rfl, hx, _, S1, s1.st, .one r1, gm _ _ _ _ p fun d S' ⟨z, ed, p'⟩ v H' s' r' => by
      subst ed
      exact ⟨z, r'.strV, q _ _ _ _ p' (s1.trans s') r'⟩⟩
/-- own comparisons on data -/
def tyV' (K : PySem.W.Frag) (d : D) (t : Value) : Prop := ∀ Z H v, Rp K Z H v d → TyX K H v t
theorem tyV_plain {d : D} {t : String} (h : tyD d = some t) (hf : ∀ ns, d ≠ .frz ns) : tyV' K d (.type t) := fun Z H v r => r.tyX h hf
theorem tyV_obj {C : Addr} {fs : List (Str × D)} (c : OwnC K C) : tyV' K (.obj C fs) (.ref C) := fun Z H v r => by
  obtain ⟨a, dx, gs, e1, hx, nz, rf⟩ := r.objV
  subst e1
  exact .base (.ins hx c.cl c.ha c.hn c.htk c.hm)
theorem o_cmpO {C : Addr} {g : SpG} {fs : List (Str × D)} {y : D} {ty : Value} (gm : Mono g) (hty : tyV' K y ty) (nf : PySem.W.notFirst K C ty = true) (h : g [.obj C fs, y] S P) : OpG K (rCmpO K C g) (.obj C fs) y S P := fun H vx vy st rx ry Q q => by
  obtain ⟨a, dx, gs, e1, hx, nz, rf⟩ := rx.objV
  subst e1
  exact ⟨a, dx, gs, ty, rfl, hx, hty _ _ _ ry, nf, _, S, st, .cons rx (.one ry), gm _ _ _ _ h fun d S' p v H' s' r' => q _ _ _ _ p s' r'⟩
theorem o_neO {C : Addr} {g : SpG} {fs : List (Str × D)} {y : D} {ty : Value} (gm : Mono g) (hty : tyV' K y ty) (nf : PySem.W.notFirst K C ty = true) (h : g [.obj C fs, y] S fun d S' => ∃ b, d = .bl b ∧ P (.bl (!b)) S') : OpG K (rNeO K C g) (.obj C fs) y S P := fun H vx vy st rx ry Q q => by
  obtain ⟨a, dx, gs, e1, hx, nz, rf⟩ := rx.objV
  subst e1
  exact ⟨a, dx, gs, ty, rfl, hx, hty _ _ _ ry, nf, _, S, st, .cons rx (.one ry), gm _ _ _ _ h fun d S' ⟨b, ed, p⟩ v H' s' r' => by
    subst ed
    exact ⟨b, r'.blV, q _ _ _ _ p s' (.bl _)⟩⟩
/-- isinstance(x, C), C an own class told by its address -/
theorem c_isiO {d : D} {C : Addr} {t : Value} {b : Bool} (hty : tyV' K d t) (hk : PySem.W.kitOne K t (.ref C) = some b) (k : P (.bl b) S) : CbG K (rIsi K) [d, .ref C] S P := fun H vs st r Q q => by
  cases r with
  | cons r1 r2 =>
    cases r2 with
    | cons r2 r3 =>
      cases r3
      have e := r2.refV
      subst e
      exact ⟨_, _, _, _, b, rfl, .own C, hty _ _ _ r1, hk, q _ S _ H k (.refl st) (.bl b)⟩
theorem c_isiOT {C : Addr} {fs : List (Str × D)} {T : String} {b : Bool} (c : OwnC K C) (hk : PySem.W.kitOne K (.ref C) (.type T) = some b) (k : P (.bl b) S) : CbG K (rIsi K) [.obj C fs, .ty T] S P := fun H vs st r Q q => by
  cases r with
  | cons r1 r2 =>
    cases r2 with
    | cons r2 r3 =>
      cases r3
      have e := r2.tyV
      subst e
      exact ⟨_, _, _, _, b, rfl, .ty T, tyV_obj c _ _ _ r1, hk, q _ S _ H k (.refl st) (.bl b)⟩
end
end RS

set_option Elab.async false
set_option linter.all false
set_option maxRecDepth 100000
set_option maxHeartbeats 4000000
/-! Classes of the program in the functional layer. -/
namespace RX
open PySem PySem.Spec PyProof.Rows L2 RS
section
variable {K : PySem.W.Frag} {κ : Nat → Addr}
/-- an instance: its class and its fields (a value or a cell) -/
def insX (S : Xs) : Dt → Option (Nat × List (Str × Dt))
  | .obj c fs => some (c, fs)
  | .loc n => match S[n]? with | some (.ins c fs) => some (c, fs) | _ => none
  | _ => none
theorem RD.ins {ρ : List Addr} {S : Xs} {T : Store} {x : Dt} {d : D} {c : Nat} {fs : List (Str × Dt)} (rs : RSt κ ρ S T) (r : RD κ ρ x d) (e : insX S x = some (c, fs)) : ∃ gs, (d = .obj (κ c) gs ∨ ∃ a, d = .ref a ∧ T.lookup a = some (.ins (κ c) gs)) ∧ RDF κ ρ fs gs := by
  cases r with
  | obj r => cases e; exact ⟨_, .inl rfl, r⟩
  | @loc n a h =>
    have e : (match S[n]? with | some (.ins c fs) => some (c, fs) | _ => none) = some (c, fs) := e
    split at e
    · rename_i c' fs' ec
      cases e
      obtain ⟨cl, hc, rc⟩ := rs.cell n a _ h ec
      cases rc with
      | ins rx => exact ⟨_, .inr ⟨a, rfl, hc⟩, rx⟩
    · cases e
  | _ => cases e
theorem RV.ins {ρ : List Addr} {S : Xs} {T : Store} {H : Hp} {x : Dt} {v : V} {c : Nat} {fs : List (Str × Dt)} (rs : RSt κ ρ S T) (st : StOk K T H) (r : RV K κ ρ T H v x) (e : insX S x = some (c, fs)) : ∃ a dx gs, v = .ref a ∧ H a = some (.ins (κ c) dx gs) ∧ ∃ ds, RDF κ ρ fs ds ∧ RpF K (dom T) H gs ds := by
  obtain ⟨d, rd, rp⟩ := r
  obtain ⟨ds, h, rf⟩ := RD.ins rs rd e
  rcases h with rfl | ⟨a, rfl, ha⟩
  · obtain ⟨a, dx, gs, e1, hx, nz, q⟩ := rp.objV
    exact ⟨a, dx, gs, e1, hx, ds, rf, q⟩
  · obtain ⟨dx, gs, hx, q⟩ := st.ok a _ (lookup_mem ha)
    exact ⟨a, dx, gs, rp.refV, hx, ds, rf, q⟩
theorem RDF.none {ρ : List Addr} : ∀ {fs : List (Str × Dt)} {gs : List (Str × D)} {f : Str}, RDF κ ρ fs gs → fs.lookup f = none → gs.lookup f = none
  | _, _, _, .nil, e => rfl
  | _, _, f, .cons (f := g) r t, e => by
    rw [List.lookup_cons] at e ⊢
    cases q : (f == g) with
    | true => rw [q] at e; cases e
    | false => rw [q] at e; exact RDF.none t e
/-! ### fields -/
def mFld (f : Str) (cs : List Nat) (o : Me) : Me := fun G S => (o G S).bind fun x S1 => match insX S1 x with
  | some (c, fs) => if cs.contains c = true then (match fs.lookup f with | some y => .ok y S1 | none => .bad) else .bad
  | none => .bad
theorem em_fld {f : Str} {cs : List Nat} {te : TE} {mo : Me} (hf : ∀ c ∈ cs, FldOk K (κ c) f) (ho : EvX K κ te mo) : EvX K κ (tFld K te f) (mFld f cs mo) := fun ρ G S E T z S' rg rs h => by
  obtain ⟨x, S1, e1, h⟩ := Res.bind_eq h
  split at h
  · rename_i c fs ei
    split at h
    · rename_i hc
      split at h
      · rename_i y ey
        cases h
        refine g_fld (EvG.mono (ho ρ G S E T x _ rg rs e1) fun d T1 ⟨ρ1, g1, r⟩ => ?_)
        obtain ⟨gs, hd, rf⟩ := RD.ins g1.rst r ei
        obtain ⟨dy, hy, ry⟩ := rf.lookup ey
        exact ⟨κ c, gs, dy, hd, hf c (List.contains_iff_mem.mp hc), hy, ρ1, g1, ry⟩
      · cases h
    · cases h
  · cases h
/-- o.f = v (v first) -/
def sFl (f : Str) (cs : List Nat) (o v : Me) : Ms := fun G S => (v G S).bind fun y S1 => (o G S1).bind fun x S2 => match x with
  | .loc n => (match S2[n]? with | some (.ins c fs) => if (cs.contains c && decide (fs.length < 1000)) = true then .ok (.nx G) (S2.set n (.ins c (putX f y fs))) else .bad | _ => .bad)
  | _ => .bad
theorem st_fld {f : Str} {cs : List Nat} {to tv : TE} {mo mv : Me} (hf : ∀ c ∈ cs, FldOk K (κ c) f) (ho : EvX K κ to mo) (hv : EvX K κ tv mv) : StX K κ (sFld K to tv f) (sFl f cs mo mv) := fun ρ G S E T r S' rg rs h => by
  obtain ⟨y, S1, e1, h⟩ := Res.bind_eq h
  obtain ⟨x, S2, e2, h⟩ := Res.bind_eq h
  cases x with
  | loc n =>
    have h : (match S2[n]? with | some (.ins c fs) => if (cs.contains c && decide (fs.length < 1000)) = true then Res.ok (Out.nx G) (S2.set n (.ins c (putX f y fs))) else .bad | _ => .bad) = .ok r S' := h
    split at h
    · rename_i c fs ec
      split at h
      · rename_i hc
        rw [Bool.and_eq_true] at hc
        cases h
        refine x_fld (EvG.mono (hv ρ G S E T y S1 rg rs e1) fun dy T1 ⟨ρ1, g1, ry⟩ => EvG.mono (ho ρ1 G S1 E T1 _ S2 (rg.mono g1.pre) g1.rst e2) fun dx T2 ⟨ρ2, g2, rx⟩ => ?_)
        obtain ⟨a, rfl, ha⟩ := rx.locD
        obtain ⟨cl, hcl, rc⟩ := g2.rst.cell n a _ ha ec
        cases rc with
        | ins rf =>
          exact ⟨a, κ c, _, rfl, hcl, hf c (List.contains_iff_mem.mp hc.1), rf.length ▸ of_decide_eq_true hc.2, _, ρ2, rfl, (g1.trans g2).trans (Go.put g2.rst ha (.ins (rf.put (ry.mono g2.pre)))), rg.mono (g1.pre.trans g2.pre)⟩
      · cases h
    · cases h
  | _ => cases h
/-! ### instances made -/
/-- C(..): a value once __init__ is done -/
def mMk (c : Nat) (m : Mf) (dds : List Dt) (r : Ma) : Me := fun G S => (r G S).bind fun xs S1 => (m (.loc S1.length :: (xs ++ dds)) (S1 ++ [.ins c []])).bind fun y S2 => match y with
  | .non => exitX S1.length (.loc S1.length) S2
  | _ => .bad
/-- .. a cell -/
def mMkC (c : Nat) (m : Mf) (dds : List Dt) (r : Ma) : Me := fun G S => (r G S).bind fun xs S1 => (m (.loc S1.length :: (xs ++ dds)) (S1 ++ [.ins c []])).bind fun y S2 => match y with
  | .non => .ok (.loc S1.length) S2
  | _ => .bad
theorem make_x {c : Nat} {m : Mf} {dds xs : List Dt} {dvs vs : List V} {ddd ds : List D} {ρ1 : List Addr} {S1 S2 : Xs} {T1 : Store} {H1 : Hp} {E : XK} {Q : VK} (hdv : ∀ Z H, RpAll K Z H dvs ddd) (hdd : ∀ ρ, RDs κ ρ dds ddd) (rs : RSt κ ρ1 S1 T1) (st : StOk K T1 H1) (rd : RDs κ ρ1 xs ds) (rp : RpAll K (dom T1) H1 vs ds)
    (e : m (.loc S1.length :: (xs ++ dds)) (S1 ++ [.ins c []]) = .ok .non S2)
    (q : ∀ x ρ' T' H', Go κ ρ1 T1 ρ' S2 T' → Step K T1 H1 T' H' → ρ'[S1.length]? = some x → Q (.ref x) H') (x dx : Addr) (hx : H1 x = none) (hdx : H1 dx = none) (nex : dx ≠ x) :
    spOf K (spX κ m) (.ref x :: (vs ++ dvs)) (upd (upd H1 dx (.own x)) x (.ins (κ c) dx [])) (fun v H2 => v = .non ∧ Q (.ref x) H2) E := by
  have sa : Step K T1 H1 T1 (upd H1 dx (.own x)) := .new st hdx
  have hx2 : upd H1 dx (.own x) x = none := by rw [upd_ne (fun z => nex z.symm)]; exact hx
  have sb : Step K T1 (upd H1 dx (.own x)) ((x, .ins (κ c) []) :: T1) (upd (upd H1 dx (.own x)) x (.ins (κ c) dx [])) := .cell sa.st hx2 ⟨dx, [], upd_same, .nil⟩
  have sc := sa.trans sb
  obtain ⟨g, hi⟩ := Go.new rs (st.nodom hx) (.ins (c := c) .nil)
  refine ⟨.ref x :: (ds ++ ddd), (x, .ins (κ c) []) :: T1, sc.st, .cons (.ref x) ((rp.lift sc.lft).append (hdv _ _)), ρ1 ++ [x], .loc S1.length :: (xs ++ dds), S1 ++ [.ins c []], .non, S2, g.rst, .cons (.loc hi) ((rd.mono g.pre).append (hdd _)), e, fun d ρ' T' g' r v H2 s2 rv => ?_⟩
  have := r.nonD
  subst this
  exact ⟨rv.nonV, q x ρ' T' H2 (g.trans g') (sc.trans s2) (pre_get g'.pre hi)⟩
theorem em_make {c : Nat} {m : Mf} {dds : List Dt} {dvs : List V} {ddd : List D} {E : XK} {tr : TA} {mr : Ma} (hdv : ∀ Z H, RpAll K Z H dvs ddd) (hdd : ∀ ρ, RDs κ ρ dds ddd) (hr : ArX K κ tr mr) : EvX K κ (tMake (κ c) (spOf K (spX κ m)) dvs E tr) (mMk c m dds mr) := fun ρ G S En T z S' rg rs h => by
  obtain ⟨xs, S1, e1, h⟩ := Res.bind_eq h
  obtain ⟨y, S2, e2, h⟩ := Res.bind_eq h
  cases y with
  | non =>
    refine fun σ H eo Q q => hr ρ G S En T xs S1 rg rs e1 σ H eo _ fun ds T1 vs H1 ⟨ρ1, g1, rd⟩ s1 rp => ?_
    refine fun x dx hx hdx nex => make_x hdv hdd g1.rst s1.st rd rp e2 (fun x ρ' T' H' g s hi => ?_) x dx hx hdx nex
    have h : exitX ρ1.length (.loc S1.length) S2 = .ok z S' := by rw [g1.rst.len]; exact h
    obtain ⟨T3, d3, g3, r3, s3, p3⟩ := exit_ok (K := K) (v := .ref x) g h s.st (.loc hi) (.ref x)
    exact q d3 T3 _ H' ⟨ρ1, g1.trans g3, r3⟩ ((s1.trans s).trans s3) p3
  | _ => cases h
theorem em_makeC {c : Nat} {m : Mf} {dds : List Dt} {dvs : List V} {ddd : List D} {E : XK} {tr : TA} {mr : Ma} (hdv : ∀ Z H, RpAll K Z H dvs ddd) (hdd : ∀ ρ, RDs κ ρ dds ddd) (hr : ArX K κ tr mr) : EvX K κ (tMake (κ c) (spOf K (spX κ m)) dvs E tr) (mMkC c m dds mr) := fun ρ G S En T z S' rg rs h => by
  obtain ⟨xs, S1, e1, h⟩ := Res.bind_eq h
  obtain ⟨y, S2, e2, h⟩ := Res.bind_eq h
  cases y with
  | non =>
    cases h
    refine fun σ H eo Q q => hr ρ G S En T xs S1 rg rs e1 σ H eo _ fun ds T1 vs H1 ⟨ρ1, g1, rd⟩ s1 rp => ?_
    exact fun x dx hx hdx nex => make_x hdv hdd g1.rst s1.st rd rp e2 (fun x ρ' T' H' g s hi => q (.ref x) T' _ H' ⟨ρ', g1.trans g, .loc hi⟩ (s1.trans s) (.ref x)) x dx hx hdx nex
  | _ => cases h
/-! ### methods -/
def mMeth (c : Nat) (f : Str) (m : Mf) (o : Me) (r : Ma) : Me := fun G S => (o G S).bind fun x S1 => match insX S1 x with
  | some (c', fs) => if c' = c then (match fs.lookup f with | none => (r G S1).bind fun xs S2 => m (x :: xs) S2 | some _ => .bad) else .bad
  | none => .bad
theorem em_meth {c : Nat} {f : Str} {m : Mf} {E : XK} {to : TE} {mo : Me} {tr : TA} {mr : Ma} (ho : EvX K κ to mo) (hr : ArX K κ tr mr) : EvX K κ (tMeth (κ c) f (spOf K (spX κ m)) [] E to tr) (mMeth c f m mo mr) := fun ρ G S En T z S' rg rs h => by
  obtain ⟨x, S1, e1, k⟩ := Res.bind_eq h
  clear h
  split at k
  · rename_i c' fs ei
    split at k
    · rename_i hc
      subst hc
      split at k
      · rename_i hl
        obtain ⟨xs, S2, e2, k⟩ := Res.bind_eq k
        refine g_meth spX_mono (EvG.mono (ho ρ G S En T x S1 rg rs e1) fun d T1 ⟨ρ1, g1, r⟩ => ?_)
        obtain ⟨gs, hd, rf⟩ := RD.ins g1.rst r ei
        refine ⟨gs, hd, rf.none hl, evA_mono (hr ρ1 G S1 En T1 xs S2 (rg.mono g1.pre) g1.rst e2) fun ds T2 ⟨ρ2, g2, rds⟩ => ?_⟩
        exact ⟨ρ2, x :: xs, S2, z, S', g2.rst, .cons (r.mono g2.pre) rds, k, fun d' ρ' T' g' r' => ⟨ρ', (g1.trans g2).trans g', r'⟩⟩
      · cases k
    · cases k
  · cases k
end
/-- a method of a class as its users see it -/
structure Mx (P : Program) (w : World) (K : PySem.W.Frag) (κ : Nat → Addr) (mg : Str → Option Value) (base : Heap) (c : Nat) (f : Str) (k : Nat) (m : Mf) : Prop where
  ex : ∃ g fd ps, Cls K (κ c) ∧ Meth K (κ c) f g ∧ FnA P w K mg base CX0 k g fd ps (spOf K (spX κ m)) ∧ Binds K fd ps []
section
variable {P : Program} {w : World} {K : PySem.W.Frag} {κ : Nat → Addr} {mg : Str → Option Value} {base : Heap} {X : Cx}
theorem px_meth {k c : Nat} {m : Mf} {f : Str} {o e : Expr} {es : List Expr} {apos pos : Pos} {pl : Sem Bool} {mo : Me} {ma : Ma} (cl : Mx P w K κ mg base c f k m) (hr : Room k X.A) (hG : Gd X.A) (ho : PEm X K κ o mo) (ha : PAm X K κ (e :: es) ma)
    (h : X.K = K := by rfl) (h1 : X.prog = P := by rfl) (h2 : X.w = w := by rfl) (h3 : X.mg = mg := by rfl) (h4 : X.base = base := by rfl)
    (he : starEach (e :: es) X.env = (false, eval e X.env) :: starEach es X.env := by rfl) (hpl : (backTo pos (starEach es X.env)).any (·.1) = false := by rfl)
    (ht : eval (.Call (.Attribute o f apos) (e :: es) [] pos) X.env = (do let ov ← eval o X.env; standAt apos.atName; let (g, first) ← holding [ov] (getMethod ov f pl); callWith pos g first (backTo pos (starEach (e :: es) X.env)) (backToKw pos (keywordEach [] X.env))) := by rfl) :
    PEm X K κ (.Call (.Attribute o f apos) (e :: es) [] pos) (mMeth c f m mo ma) := by
  subst h h1 h2 h3 h4
  obtain ⟨g, fd, ps, c1, c2, c3, c4⟩ := cl.ex
  refine pe_m (te := tMeth (κ c) f (spOf X.K (spX κ m)) [] E0 (teM X.K κ mo) (taM X.K κ ma)) ⟨fun pins s σ H Q I h => ?_⟩ (em_meth te_self ta_self)
  refine PySem.W.methodCall_KW (pl := pl) (thn (ho.run pins s σ H _ I h) fun u s1 z => ?_) ht
  obtain ⟨y, H1, I1, ry, a, dx, fs, ey, ea, nl, q⟩ := z
  subst ey
  obtain rfl : u = Value.ref a := ry
  refine getmeth_ok I1 ea c1 c2 nl ?_
  refine PySem.W.callWith_K (first := [.ref a]) (h₀ := X.base) I.ok.mod.kin c2.kp (thn (ha.run pos pins s1 σ H1 _ I1 q) fun us s2 ⟨vs, H2, I2, r, q2⟩ => ⟨I2.kIn, ?_⟩) he hpl
  exact runA' (us := .ref a :: us) (vs := .ref a :: vs) c3 (RS.Room.sub hr) hG c4 .nil I2 (.cons rfl r) q2
theorem px_meth0 {k c : Nat} {m : Mf} {f : Str} {o : Expr} {apos pos : Pos} {pl : Sem Bool} {mo : Me} (cl : Mx P w K κ mg base c f k m) (hr : Room k X.A) (hG : Gd X.A) (ho : PEm X K κ o mo)
    (h : X.K = K := by rfl) (h1 : X.prog = P := by rfl) (h2 : X.w = w := by rfl) (h3 : X.mg = mg := by rfl) (h4 : X.base = base := by rfl)
    (ht : eval (.Call (.Attribute o f apos) [] [] pos) X.env = (do let ov ← eval o X.env; standAt apos.atName; let (g, first) ← holding [ov] (getMethod ov f pl); callWith pos g first (backTo pos (starEach [] X.env)) (backToKw pos (keywordEach [] X.env))) := by rfl) :
    PEm X K κ (.Call (.Attribute o f apos) [] [] pos) (mMeth c f m mo aNil) := by
  subst h h1 h2 h3 h4
  obtain ⟨g, fd, ps, c1, c2, c3, c4⟩ := cl.ex
  refine pe_m (te := tMeth (κ c) f (spOf X.K (spX κ m)) [] E0 (teM X.K κ mo) tNil) ⟨fun pins s σ H Q I h => ?_⟩ (em_meth te_self ar_nil)
  refine PySem.W.methodCall_KW (pl := pl) (thn (ho.run pins s σ H _ I h) fun u s1 z => ?_) ht
  obtain ⟨y, H1, I1, ry, a, dx, fs, ey, ea, nl, q⟩ := z
  subst ey
  obtain rfl : u = Value.ref a := ry
  refine getmeth_ok I1 ea c1 c2 nl ?_
  exact PySem.W.callWith_K0 (first := [.ref a]) I1.kIn c2.kp (runA' (us := [.ref a]) (vs := [.ref a]) c3 (RS.Room.sub hr) hG c4 .nil I1 (.cons rfl .nil) q)
/-- a class that is called -/
structure Kx (P : Program) (w : World) (K : PySem.W.Frag) (κ : Nat → Addr) (mg : Str → Option Value) (base : Heap) (x : Str) (c k : Nat) (m : Mf) (dds : List Dt) : Prop where
  ex : ∃ dvs ddd, Mkc P w K mg base x (κ c) k (spX κ m) dvs ∧ (∀ Z H, RpAll K Z H dvs ddd) ∧ ∀ ρ, RDs κ ρ dds ddd
theorem px_make {k c : Nat} {m : Mf} {dds : List Dt} {x : Str} {p pos : Pos} {e : Expr} {es : List Expr} {ma : Ma} (cl : Kx P w K κ mg base x c k m dds) (hr : Room (k + 1) X.A) (hG : Gd X.A) (hg : Gl X x) (ha : PAm X K κ (e :: es) ma)
    (h : X.K = K := by rfl) (h1 : X.prog = P := by rfl) (h2 : X.w = w := by rfl) (h3 : X.mg = mg := by rfl) (h4 : X.base = base := by rfl)
    (hdb : (x == ("__debug__" : Str)) = false := by decide) (he : starEach (e :: es) X.env = (false, eval e X.env) :: starEach es X.env := by rfl) (hpl : (backTo pos (starEach es X.env)).any (·.1) = false := by rfl) :
    PEm X K κ (.Call (.Name x p) (e :: es) [] pos) (mMk c m dds ma) := by
  obtain ⟨dvs, ddd, q1, q2, q3⟩ := cl.ex
  exact pe_m (pe_makeQ K q1 hr hG hg ha h h1 h2 h3 h4 hdb he hpl) (em_make q2 q3 ta_self)
theorem px_make0 {k c : Nat} {m : Mf} {dds : List Dt} {x : Str} {p pos : Pos} (cl : Kx P w K κ mg base x c k m dds) (hr : Room (k + 1) X.A) (hG : Gd X.A) (hg : Gl X x)
    (h : X.K = K := by rfl) (h1 : X.prog = P := by rfl) (h2 : X.w = w := by rfl) (h3 : X.mg = mg := by rfl) (h4 : X.base = base := by rfl)
    (hdb : (x == ("__debug__" : Str)) = false := by decide) : PEm X K κ (.Call (.Name x p) [] [] pos) (mMk c m dds aNil) := by
  obtain ⟨dvs, ddd, q1, q2, q3⟩ := cl.ex
  exact pe_m (pe_makeQ0 K q1 hr hG hg h h1 h2 h3 h4 hdb) (em_make q2 q3 ar_nil)
theorem px_makeC {k c : Nat} {m : Mf} {dds : List Dt} {x : Str} {p pos : Pos} {e : Expr} {es : List Expr} {ma : Ma} (cl : Kx P w K κ mg base x c k m dds) (hr : Room (k + 1) X.A) (hG : Gd X.A) (hg : Gl X x) (ha : PAm X K κ (e :: es) ma)
    (h : X.K = K := by rfl) (h1 : X.prog = P := by rfl) (h2 : X.w = w := by rfl) (h3 : X.mg = mg := by rfl) (h4 : X.base = base := by rfl)
    (hdb : (x == ("__debug__" : Str)) = false := by decide) (he : starEach (e :: es) X.env = (false, eval e X.env) :: starEach es X.env := by rfl) (hpl : (backTo pos (starEach es X.env)).any (·.1) = false := by rfl) :
    PEm X K κ (.Call (.Name x p) (e :: es) [] pos) (mMkC c m dds ma) := by
  obtain ⟨dvs, ddd, q1, q2, q3⟩ := cl.ex
  exact pe_m (pe_makeQ K q1 hr hG hg ha h h1 h2 h3 h4 hdb he hpl) (em_makeC q2 q3 ta_self)
theorem px_makeC0 {k c : Nat} {m : Mf} {dds : List Dt} {x : Str} {p pos : Pos} (cl : Kx P w K κ mg base x c k m dds) (hr : Room (k + 1) X.A) (hG : Gd X.A) (hg : Gl X x)
    (h : X.K = K := by rfl) (h1 : X.prog = P := by rfl) (h2 : X.w = w := by rfl) (h3 : X.mg = mg := by rfl) (h4 : X.base = base := by rfl)
    (hdb : (x == ("__debug__" : Str)) = false := by decide) : PEm X K κ (.Call (.Name x p) [] [] pos) (mMkC c m dds aNil) := by
  obtain ⟨dvs, ddd, q1, q2, q3⟩ := cl.ex
  exact pe_m (pe_makeQ0 K q1 hr hG hg h h1 h2 h3 h4 hdb) (em_makeC q2 q3 ar_nil)
end
end RX

set_option Elab.async false
set_option linter.all false
set_option maxRecDepth 100000
set_option maxHeartbeats 4000000
namespace RX
open PySem PySem.Spec PyProof.Rows L2 RS
/-! ### o.f(..), f a field that holds an instance with __call__ -/
def tCallF (K : PySem.W.Frag) (C : Addr) (f : Str) (sp : Sp) (to : TE) (t : TA) : TE := fun σ H Q => to σ H fun x H1 => ∃ a C' dx fs b, x = V.ref a ∧ H1 a = some (.ins C' dx fs) ∧ Cls K C' ∧ NoAttr K C' f ∧ fs.lookup f = some (V.ref b) ∧ t σ H1 fun vs H2 => (∃ dx' gs, H2 b = some (.ins C dx' gs)) ∧ sp (V.ref b :: vs) H2 Q E0
section
variable {P : Program} {w : World} {K : PySem.W.Frag} {κ : Nat → Addr} {mg : Str → Option Value} {base : Heap} {X : Cx}
theorem pe_callF {k : Nat} {C : Addr} {g : SpG} {f : Str} {o e : Expr} {es : List Expr} {to : TE} {t : TA} {apos pos : Pos} {pl : Sem Bool} (c : Spm P w K mg base C "__call__" k g) (hr : Room k X.A) (hG : Gd X.A) (ho : PE X o to) (ha : PA X (e :: es) t)
    (h : X.K = K := by rfl) (h1 : X.prog = P := by rfl) (h2 : X.w = w := by rfl) (h3 : X.mg = mg := by rfl) (h4 : X.base = base := by rfl)
    (he : starEach (e :: es) X.env = (false, eval e X.env) :: starEach es X.env := by rfl) (hpl : (backTo pos (starEach es X.env)).any (·.1) = false := by rfl)
    (ht : eval (.Call (.Attribute o f apos) (e :: es) [] pos) X.env = (do let ov ← eval o X.env; standAt apos.atName; let (g, first) ← holding [ov] (getMethod ov f pl); callWith pos g first (backTo pos (starEach (e :: es) X.env)) (backToKw pos (keywordEach [] X.env))) := by rfl) :
    PE X (.Call (.Attribute o f apos) (e :: es) [] pos) (tCallF K C f (spOf K g) to t) := by
  subst h h1 h2 h3 h4
  obtain ⟨fn, fd, ps, q1, q2, q3, q4, q5, q6⟩ := c.ex
  refine ⟨fun pins s σ H Q I h => ?_⟩
  refine PySem.W.methodCall_KW (pl := pl) (thn (ho.run pins s σ H _ I h) fun u s1 z => ?_) ht
  obtain ⟨y, H1, I1, ry, a, C', dx, fs, b, ey, ea, c1, c2, nl, q⟩ := z
  subst ey
  obtain rfl : u = Value.ref a := ry
  refine getmeth_fld I1 ea c1 c2 nl fun u s1' I1' ru => ?_
  obtain rfl : u = Value.ref b := ru
  refine StX.callO_with (thn (ha.run pos pins s1' σ H1 _ I1' q) fun us s2 ⟨vs, H2, I2, r, ⟨dx', gs, hi⟩, z⟩ => ?_) he hpl
  obtain ⟨ox, od, J, hd⟩ := inst_at I2 hi
  refine ⟨⟨C, ox, od, J, hd⟩, ?_⟩
  have hl : (Value.ref b :: us).length = ps.length := by
    have := q5.len _ _ _ _ z
    rw [← this]
    simp [r.length]
  refine wpAny_call (PySem.W.kco_code I2.kIn J hd q1 q2 q3 (codeAny_mono (q5.run X.A X.stack s2 H2 ⟨.ref b :: us, []⟩ (.ref b :: us) (.ref b :: vs) Q E0 hG hr I2.env0 (by
    have bb := q6 s2 (.ref b :: us) I2.kIn (by simpa using hl)
    simpa using bb) (.cons (show RelV (V.ref b) (Value.ref b) from rfl) r) z) fun r s' hq => ?_))
  match r, hq with
  | .error e, hq => exact False.elim hq
  | .ok .next, hq => exact False.elim hq
  | .ok .brk, hq => exact False.elim hq
  | .ok .cont, hq => exact False.elim hq
  | .ok (.ret u), hq => exact I2.after hq
def mCallF (f : Str) (cs : List Nat) (c : Nat) (m : Mf) (o : Me) (r : Ma) : Me := fun G S => (o G S).bind fun x S1 => match insX S1 x with
  | some (c', fs) => if cs.contains c' = true then (match fs.lookup f with
    | some (.obj c2 gs) => if c2 = c then (r G S1).bind fun xs S2 => m (.obj c2 gs :: xs) S2 else .bad
    | _ => .bad) else .bad
  | none => .bad
theorem em_callF {f : Str} {cs : List Nat} {c : Nat} {m : Mf} {to : TE} {mo : Me} {tr : TA} {mr : Ma} (hf : ∀ c ∈ cs, FldOk K (κ c) f) (ho : EvX K κ to mo) (hr : ArX K κ tr mr) : EvX K κ (tCallF K (κ c) f (spOf K (spX κ m)) to tr) (mCallF f cs c m mo mr) := fun ρ G S En T z S' rg rs h => by
  obtain ⟨x, S1, e1, k⟩ := Res.bind_eq h
  clear h
  split at k
  · rename_i c' fs ei
    split at k
    · rename_i hc
      split at k
      · rename_i c2 gs hl
        split at k
        · rename_i hcc
          subst hcc
          obtain ⟨xs, S2, e2, k⟩ := Res.bind_eq k
          refine fun σ H eo Q q => ho ρ G S En T x S1 rg rs e1 σ H eo _ fun d T1 v H1 ⟨ρ1, g1, r⟩ s1 rp => ?_
          obtain ⟨a, dx, ws, ev, ea, ds, rf, rpf⟩ := RV.ins (K := K) g1.rst s1.st ⟨d, r, rp⟩ ei
          obtain ⟨dy, hy, ry⟩ := rf.lookup hl
          obtain ⟨vy, hvy, rvy⟩ := rpf.lookup hy
          obtain ⟨ds2, ed, rf2⟩ := ry.objD
          subst ed
          obtain ⟨b, dx2, us2, eb, hb, nz, rf3⟩ := rvy.objV
          subst eb
          have fo := hf c' (List.contains_iff_mem.mp hc)
          refine ⟨a, κ c', dx, ws, b, ev, ea, fo.cl, fo.no, hvy, hr ρ1 G S1 En T1 xs S2 (rg.mono g1.pre) g1.rst e2 σ H1 (eo.step s1) _ fun es T2 vs H2 ⟨ρ2, g2, rd2⟩ s2 rp2 => ?_⟩
          have rvy2 := rvy.lift s2.lft
          obtain ⟨b', dx3, us3, eb', hb', _⟩ := rvy2.objV
          cases eb'
          refine ⟨⟨dx3, us3, hb'⟩, .obj (κ c2) ds2 :: es, T2, s2.st, .cons rvy2 rp2, ρ2, .obj c2 gs :: xs, S2, z, S', g2.rst, .cons (ry.mono g2.pre) rd2, k, fun d' ρ' T' g' r' v' H' s' rv' => ?_⟩
          exact q d' T' v' H' ⟨ρ', (g1.trans g2).trans g', r'⟩ ((s1.trans s2).trans s') rv'
        · cases k
      · cases k
    · cases k
  · cases k
/-- a special method -/
abbrev Sx (P : Program) (w : World) (K : PySem.W.Frag) (κ : Nat → Addr) (mg : Str → Option Value) (base : Heap) (c : Nat) (f : Str) (k : Nat) (m : Mf) : Prop := Spm P w K mg base (κ c) f k (spX κ m)
theorem px_callF {k c : Nat} {m : Mf} {f : Str} {cs : List Nat} {o e : Expr} {es : List Expr} {apos pos : Pos} {pl : Sem Bool} {mo : Me} {ma : Ma} (cl : Sx P w K κ mg base c "__call__" k m) (hf : ∀ c ∈ cs, FldOk K (κ c) f) (hr : Room k X.A) (hG : Gd X.A) (ho : PEm X K κ o mo) (ha : PAm X K κ (e :: es) ma)
    (h : X.K = K := by rfl) (h1 : X.prog = P := by rfl) (h2 : X.w = w := by rfl) (h3 : X.mg = mg := by rfl) (h4 : X.base = base := by rfl)
    (he : starEach (e :: es) X.env = (false, eval e X.env) :: starEach es X.env := by rfl) (hpl : (backTo pos (starEach es X.env)).any (·.1) = false := by rfl)
    (ht : eval (.Call (.Attribute o f apos) (e :: es) [] pos) X.env = (do let ov ← eval o X.env; standAt apos.atName; let (g, first) ← holding [ov] (getMethod ov f pl); callWith pos g first (backTo pos (starEach (e :: es) X.env)) (backToKw pos (keywordEach [] X.env))) := by rfl) :
    PEm X K κ (.Call (.Attribute o f apos) (e :: es) [] pos) (mCallF f cs c m mo ma) := pe_m (pe_callF cl hr hG ho ha h h1 h2 h3 h4 he hpl ht) (em_callF hf te_self ta_self)
/-! ### isinstance with classes -/
/-- what the classes below n are to one another and to the built-in types -/
def tyL : List String := ["NoneType", "bool", "int", "str", "list", "tuple"]
structure Ow (K : PySem.W.Frag) (κ : Nat → Addr) (n : Nat) : Prop where
  own : ∀ i, i < n → OwnC K (κ i)
  cc : ∀ i j, i < n → j < n → PySem.W.kitOne K (.ref (κ i)) (.ref (κ j)) = some (decide (i = j))
  tc : ∀ t ∈ tyL, ∀ j, j < n → PySem.W.kitOne K (.type t) (.ref (κ j)) = some false
  ct : ∀ i, i < n → ∀ t ∈ tyL, PySem.W.kitOne K (.ref (κ i)) (.type t) = some false
  nc : ∀ i j, i < n → j < n → PySem.W.notFirst K (κ i) (.ref (κ j)) = true
  nt : ∀ i, i < n → ∀ t ∈ tyL, PySem.W.notFirst K (κ i) (.type t) = true
theorem tyS_mem {S : Xs} {x : Dt} {t : String} (e : tyS S x = some t) : t ∈ tyL := by
  unfold tyS at e
  split at e <;> first | (cases e; decide) | skip
  · split at e
    · cases e; decide
    · cases e
  · cases e
theorem ins_ty {ρ : List Addr} {S : Xs} {T : Store} {H : Hp} {v : V} {x : Dt} {c n : Nat} {fs : List (Str × Dt)} (O : Ow K κ n) (hc : c < n) (rs : RSt κ ρ S T) (st : StOk K T H) (r : RV K κ ρ T H v x) (e : insX S x = some (c, fs)) : TyX K H v (.ref (κ c)) := by
  obtain ⟨a, dx, gs, rfl, ha, _⟩ := r.ins rs st e
  have c' := O.own c hc
  exact .base (.ins ha c'.cl c'.ha c'.hn c'.htk c'.hm)
/-- the type of a value: a built-in one, or a class below n -/
def tyN (n : Nat) (S : Xs) (x : Dt) : Option (String ⊕ Nat) := match tyS S x with
  | some t => some (.inl t)
  | none => match insX S x with | some (c, _) => if c < n then some (.inr c) else none | none => none
def tyVal (κ : Nat → Addr) : String ⊕ Nat → Value
  | .inl t => .type t
  | .inr c => .ref (κ c)
def TyB (n : Nat) : String ⊕ Nat → Prop
  | .inl t => t ∈ tyL
  | .inr c => c < n
theorem tyN_ok {ρ : List Addr} {S : Xs} {T : Store} {H : Hp} {v : V} {x : Dt} {n : Nat} {t : String ⊕ Nat} (O : Ow K κ n) (rs : RSt κ ρ S T) (st : StOk K T H) (r : RV K κ ρ T H v x) (e : tyN n S x = some t) : TyX K H v (tyVal κ t) ∧ TyB n t := by
  unfold tyN at e
  split at e
  · rename_i t' et
    cases e
    exact ⟨tyS_ok rs st r et, tyS_mem et⟩
  · split at e
    · rename_i c fs ei
      split at e
      · rename_i hc
        cases e
        exact ⟨ins_ty O hc rs st r ei, hc⟩
      · cases e
    · cases e
def xIsiN (n : Nat) : List Dt → Xs → Res Dt := fun xs S => match xs with
  | [x, .cls j] => if j < n then (match tyN n S x with | some (.inl _) => .ok (.bl false) S | some (.inr i) => .ok (.bl (decide (i = j))) S | none => .bad) else .bad
  | [x, .ty T] => (match tyN n S x with
    | some (.inr _) => if tyL.contains T = true then .ok (.bl false) S else .bad
    | _ => xIsi [x, .ty T] S)
  | xs => xIsi xs S
theorem cx_isiN {n : Nat} (O : Ow K κ n) : CbX K κ (rIsiX K) (xIsiN n) := cx_of fun ρ S T H vs xs z S' rs st rx e Q q => by
  have old : ∀ {xs : List Dt} {vs : List V}, RVs K κ ρ T H vs xs → xIsi xs S = .ok z S' → rIsiX K vs H Q := fun {xs vs} ⟨ds, a, b⟩ e =>
    cx_isi ρ S T xs ds z S' rs a e H vs st b Q fun d T' v H' ⟨ρ', g, r⟩ s p => q ρ' T' v H' g s ⟨d, r, p⟩
  unfold xIsiN at e
  split at e
  · rename_i x j
    obtain ⟨v, w, rfl, r1, r2⟩ := rx.cases2
    have hw := r2.clsV
    subst hw
    split at e
    · rename_i hj
      split at e
      · rename_i t et
        cases e
        obtain ⟨h1, h2⟩ := tyN_ok O rs st r1 et
        exact .inl ⟨_, _, _, _, false, rfl, .own _, h1, O.tc t h2 j hj, q ρ T _ H (.refl rs) (.refl st) (.bl _)⟩
      · rename_i i et
        cases e
        obtain ⟨h1, h2⟩ := tyN_ok O rs st r1 et
        exact .inl ⟨_, _, _, _, _, rfl, .own _, h1, O.cc i j h2 hj, q ρ T _ H (.refl rs) (.refl st) (.bl _)⟩
      · cases e
    · cases e
  · rename_i x t
    split at e
    · rename_i i et
      split at e
      · rename_i ht
        cases e
        obtain ⟨v, w, rfl, r1, r2⟩ := rx.cases2
        have hw := r2.tyV
        subst hw
        obtain ⟨h1, h2⟩ := tyN_ok O rs st r1 et
        exact .inl ⟨_, _, _, _, false, rfl, .ty t, h1, O.ct i h2 t (List.contains_iff_mem.mp ht), q ρ T _ H (.refl rs) (.refl st) (.bl _)⟩
      · cases e
    · exact old rx e
  · exact old rx e
/-! ### own comparisons -/
def rCmpL (K : PySem.W.Frag) (κ : Nat → Addr) (L : List (Nat × Mf)) (r : R2) : R2 := fun x y H Q => r x y H Q ∨ ∃ p ∈ L, rCmpO K (κ p.1) (spX κ p.2) x y H Q
def rNeL (K : PySem.W.Frag) (κ : Nat → Addr) (L : List (Nat × Mf)) (r : R2) : R2 := fun x y H Q => r x y H Q ∨ ∃ p ∈ L, rNeO K (κ p.1) (spX κ p.2) x y H Q
theorem op_eqL {k : Nat} (K : PySem.W.Frag) {L : List (Nat × Mf)} {r : R2} (c : ∀ p ∈ L, Sx P w K κ mg base p.1 "__eq__" k p.2) (hr : Room k X.A) (hG : Gd X.A) (h0 : OpR X (compareOp .Eq) r)
    (h : X.K = K := by rfl) (h1 : X.prog = P := by rfl) (h2 : X.w = w := by rfl) (h3 : X.mg = mg := by rfl) (h4 : X.base = base := by rfl) : OpR X (compareOp .Eq) (rCmpL K κ L r) := by
  subst h h1 h2 h3 h4
  intro pins s σ H x y u v Q I rx ry hq
  rcases hq with hq | ⟨p, hp, hq⟩
  · exact h0 pins s σ H x y u v Q I rx ry hq
  · exact op_eqO (c p hp) hr hG pins s σ H x y u v Q I rx ry hq
theorem op_neL {k : Nat} (K : PySem.W.Frag) {L : List (Nat × Mf)} {r : R2} (c : ∀ p ∈ L, Sx P w K κ mg base p.1 "__eq__" k p.2) (hne : ∀ p ∈ L, PySem.W.findIn K (.ref (κ p.1)) "__ne__" = some (some (.builtin "object.__ne__")) ∧ PySem.W.mroIn K (κ p.1) (.type "object") = some true) (hr : Room (k + 1) X.A) (hG : Gd X.A) (h0 : OpR X (compareOp .NotEq) r)
    (h : X.K = K := by rfl) (h1 : X.prog = P := by rfl) (h2 : X.w = w := by rfl) (h3 : X.mg = mg := by rfl) (h4 : X.base = base := by rfl) : OpR X (compareOp .NotEq) (rNeL K κ L r) := by
  subst h h1 h2 h3 h4
  intro pins s σ H x y u v Q I rx ry hq
  rcases hq with hq | ⟨p, hp, hq⟩
  · exact h0 pins s σ H x y u v Q I rx ry hq
  · exact op_neO (c p hp) (hne p hp).1 (hne p hp).2 hr hG pins s σ H x y u v Q I rx ry hq
def findM (c : Nat) : List (Nat × Mf) → Option Mf
  | [] => none
  | p :: r => if p.1 = c then some p.2 else findM c r
theorem findM_mem {c : Nat} {m : Mf} : ∀ {L : List (Nat × Mf)}, findM c L = some m → (c, m) ∈ L
  | [], e => by cases e
  | p :: r, e => by
    unfold findM at e
    split at e
    · rename_i h
      cases e
      subst h
      exact List.mem_cons_self
    · exact List.mem_cons_of_mem _ (findM_mem e)
/-- x op y, by x's own method if x is an instance of a class in L -/
def xOwn (n : Nat) (L : List (Nat × Mf)) (f : Dt → Dt → Xs → Res Dt) : Dt → Dt → Xs → Res Dt := fun x y S => match insX S x with
  | some (c, _) => (match findM c L with | some m => (match tyN n S y with | some _ => m [x, y] S | none => .bad) | none => .bad)
  | none => f x y S
def xOwnNe (n : Nat) (L : List (Nat × Mf)) (f : Dt → Dt → Xs → Res Dt) : Dt → Dt → Xs → Res Dt := fun x y S => match insX S x with
  | some (c, _) => (match findM c L with | some m => (match tyN n S y with | some _ => (m [x, y] S).bind fun z S1 => (match z with | .bl b => .ok (.bl (!b)) S1 | _ => .bad) | none => .bad) | none => .bad)
  | none => f x y S
theorem nf_of {n c : Nat} {t : String ⊕ Nat} (O : Ow K κ n) (hc : c < n) (h : TyB n t) : PySem.W.notFirst K (κ c) (tyVal κ t) = true := by
  cases t with
  | inl t => exact O.nt c hc t h
  | inr j => exact O.nc c j hc h
theorem sp_own {ρ : List Addr} {S S' : Xs} {T : Store} {H : Hp} {vs : List V} {xs : List Dt} {m : Mf} {z : Dt} {Q : VK} {E : XK} (rs : RSt κ ρ S T) (st : StOk K T H) (r : RVs K κ ρ T H vs xs) (e : m xs S = .ok z S') (q : ∀ ρ' T' v H', Go κ ρ T ρ' S' T' → Step K T H T' H' → RV K κ ρ' T' H' v z → Q v H') : spOf K (spX κ m) vs H Q E := by
  obtain ⟨ds, a, b⟩ := r
  exact ⟨ds, T, st, b, ρ, xs, S, z, S', rs, a, e, fun d ρ' T' g rd v H' s rv => q ρ' T' v H' g s ⟨d, rd, rv⟩⟩
theorem ox_own {n : Nat} {L : List (Nat × Mf)} {r : R2} {f : Dt → Dt → Xs → Res Dt} (O : Ow K κ n) (hL : ∀ p ∈ L, p.1 < n) (h0 : OpX K κ r f) : OpX K κ (rCmpL K κ L r) (xOwn n L f) := ox_of fun ρ S T H vx vy x y z S' rs st rx ry e Q q => by
  unfold xOwn at e
  split at e
  · rename_i c fs ei
    split at e
    · rename_i m em
      split at e
      · rename_i t et
        obtain ⟨a, dx, gs, ev, ha, _⟩ := rx.ins rs st ei
        obtain ⟨h1, h2⟩ := tyN_ok O rs st ry et
        have hm := findM_mem em
        refine .inr ⟨(c, m), hm, a, dx, gs, _, ev, ha, h1, nf_of O (hL _ hm) h2, ?_⟩
        exact sp_own rs st (.cons rx (.cons ry .nil)) e q
      · cases e
    · cases e
  · obtain ⟨dx, a1, b1⟩ := rx
    obtain ⟨dy, a2, b2⟩ := ry
    exact .inl (h0 ρ S T x y dx dy z S' rs a1 a2 e H vx vy st b1 b2 Q fun d T' v H' ⟨ρ', g, r⟩ s p => q ρ' T' v H' g s ⟨d, r, p⟩)
theorem ox_ownNe {n : Nat} {L : List (Nat × Mf)} {r : R2} {f : Dt → Dt → Xs → Res Dt} (O : Ow K κ n) (hL : ∀ p ∈ L, p.1 < n) (h0 : OpX K κ r f) : OpX K κ (rNeL K κ L r) (xOwnNe n L f) := ox_of fun ρ S T H vx vy x y z S' rs st rx ry e Q q => by
  unfold xOwnNe at e
  split at e
  · rename_i c fs ei
    split at e
    · rename_i m em
      split at e
      · rename_i t et
        obtain ⟨w, S1, e1, e⟩ := Res.bind_eq e
        split at e
        · rename_i b
          cases e
          obtain ⟨a, dx, gs, ev, ha, _⟩ := rx.ins rs st ei
          obtain ⟨h1, h2⟩ := tyN_ok O rs st ry et
          have hm := findM_mem em
          refine .inr ⟨(c, m), hm, a, dx, gs, _, ev, ha, h1, nf_of O (hL _ hm) h2, ?_⟩
          exact sp_own rs st (.cons rx (.cons ry .nil)) e1 fun ρ' T' v H' g s rv => ⟨b, rv.blV, q ρ' T' _ H' g s (.bl _)⟩
        · cases e
      · cases e
    · cases e
  · obtain ⟨dx, a1, b1⟩ := rx
    obtain ⟨dy, a2, b2⟩ := ry
    exact .inl (h0 ρ S T x y dx dy z S' rs a1 a2 e H vx vy st b1 b2 Q fun d T' v H' ⟨ρ', g, r⟩ s p => q ρ' T' v H' g s ⟨d, r, p⟩)
end
end RX

set_option Elab.async false
set_option linter.all false
set_option maxRecDepth 100000
set_option maxHeartbeats 4000000
/-! Slices and texts in the functional layer. -/
namespace RX
open PySem PySem.Spec PyProof.Rows L2 RS
abbrev Mo := Xe → Xs → Res (Option Int)
def OtX (K : PySem.W.Frag) (κ : Nat → Addr) (to : TO) (m : Mo) : Prop := ∀ ρ G S E T o S', RG κ ρ G E → RSt κ ρ S T → m G S = .ok o S' → EvO K to E T fun o' T' => o' = o ∧ ∃ ρ', Go κ ρ T ρ' S' T'
def oNone : Mo := fun _ S => .ok none S
def oSome (e : Me) : Mo := fun G S => (e G S).bind fun x S1 => match x with | .int i => .ok (some i) S1 | _ => .bad
section
variable {K : PySem.W.Frag} {κ : Nat → Addr}
theorem ot_none : OtX K κ tNoPart oNone := fun ρ G S E T o S' rg rs h => by
  cases h
  exact fun σ H e Q q => q none T H ⟨rfl, ρ, .refl rs⟩ (.refl e.st)
theorem ot_some {te : TE} {me : Me} (h : EvX K κ te me) : OtX K κ (tPart te) (oSome me) := fun ρ G S E T o S' rg rs e => by
  obtain ⟨x, S1, e1, e⟩ := Res.bind_eq e
  split at e
  · rename_i i
    cases e
    exact fun σ H eo Q q => h ρ G S E T _ _ rg rs e1 σ H eo _ fun d T1 v H1 ⟨ρ1, g1, r⟩ s1 rp => ⟨i, RV.intV ⟨d, r, rp⟩, q _ T1 H1 ⟨rfl, ρ1, g1⟩ s1⟩
  · cases e
def cutX (xs : List Dt) (lo hi : Option Int) : List Dt := (xs.drop (HT.sIx xs.length 0 lo)).take (HT.sIx xs.length xs.length hi - HT.sIx xs.length 0 lo)
theorem RVs.cut {ρ : List Addr} {T : Store} {H : Hp} {vs : List V} {xs : List Dt} (r : RVs K κ ρ T H vs xs) (lo hi : Option Int) : RVs K κ ρ T H (cutV vs lo hi) (cutX xs lo hi) := by
  unfold cutV cutX
  rw [r.length]
  exact (r.drop _).take _
def xSl (x : Dt) (lo hi : Option Int) (S : Xs) : Res Dt := match x with
  | .tup xs => .ok (.tup (cutX xs lo hi)) S
  | .str z => if z.length ≤ 1000000 then .ok (.str (cutS z lo hi)) S else .bad
  | x => match seqL S x with | some xs => .ok (.lst (cutX xs lo hi)) S | none => .bad
def mSl (e : Me) (l u : Mo) : Me := fun G S => (e G S).bind fun x S1 => (l G S1).bind fun lo S2 => (u G S2).bind fun hi S3 => xSl x lo hi S3
def rSlX' (K : PySem.W.Frag) : V → Option Int → Option Int → Hp → VK → Prop := fun x lo hi H Q => rSlL K x lo hi H Q ∨ rSlA K x lo hi H Q ∨ rSlS x lo hi H Q
theorem sl_X {X : Cx} (K : PySem.W.Frag) (h : X.K = K := by rfl) : L2.SlR X (rSlX' K) := by
  subst h
  intro pins s σ H x v vl vu lo hi sl Q I rx hs pl pu q
  rcases q with q | q | q
  · exact sl_list pins s σ H x v vl vu lo hi sl Q I rx hs pl pu q
  · exact sl_tupA pins s σ H x v vl vu lo hi sl Q I rx hs pl pu q
  · exact sl_str pins s σ H x v vl vu lo hi sl Q I rx hs pl pu q
theorem xSl_ok {ρ : List Addr} {S S' : Xs} {T : Store} {H : Hp} {v : V} {x z : Dt} {lo hi : Option Int} (rs : RSt κ ρ S T) (st : StOk K T H) (r : RV K κ ρ T H v x) (e : xSl x lo hi S = .ok z S') (Q : VK) (q : ∀ ρ' T' v H', Go κ ρ T ρ' S' T' → Step K T H T' H' → RV K κ ρ' T' H' v z → Q v H') : rSlX' K v lo hi H Q := by
  unfold xSl at e
  split at e
  · rename_i xs
    cases e
    obtain ⟨a, vs, rfl, ha, ra⟩ := r.tupT
    refine .inr (.inl ⟨a, vs, rfl, ha, fun hw => ?_, fun _ p hp => ?_⟩)
    · have hl := ra.length
      have : cutX xs lo hi = xs := by
        unfold cutX
        rw [← hl, hw.1, hw.2, List.drop_zero, Nat.sub_zero, hl, List.take_length]
      rw [this] at q
      exact q ρ T _ H (.refl rs) (.refl st) r
    · obtain ⟨g, s, r⟩ := rv_newT rs st hp (ra.cut lo hi)
      exact q ρ T _ _ g s r
  · rename_i w
    split at e
    · rename_i hl
      cases e
      exact .inr (.inr ⟨w, r.strV, Nat.le_trans hl (by decide), q ρ T _ H (.refl rs) (.refl st) (.str _)⟩)
    · cases e
  · split at e
    · rename_i xs e1
      cases e
      obtain ⟨a, vs, rfl, ha, ra⟩ := r.lstL rs st e1
      refine .inl ⟨a, vs, rfl, ha, fun p hp => ?_⟩
      obtain ⟨g, s, r⟩ := rv_newL rs st hp (ra.cut lo hi)
      exact q ρ T _ _ g s r
    · cases e
theorem em_sl {te : TE} {me : Me} {tl tu : TO} {ml mu : Mo} (he : EvX K κ te me) (hl : OtX K κ tl ml) (hu : OtX K κ tu mu) : EvX K κ (L2.tSl (rSlX' K) te tl tu) (mSl me ml mu) := fun ρ G S E T z S' rg rs h => by
  obtain ⟨x, S1, e1, h⟩ := Res.bind_eq h
  obtain ⟨lo, S2, e2, h⟩ := Res.bind_eq h
  obtain ⟨hi, S3, e3, h⟩ := Res.bind_eq h
  refine fun σ H eo Q q => he ρ G S E T x S1 rg rs e1 σ H eo _ fun d T1 v H1 ⟨ρ1, g1, r⟩ s1 rp => ?_
  refine hl ρ1 G S1 E T1 lo S2 (rg.mono g1.pre) g1.rst e2 σ H1 (eo.step s1) _ fun o2 T2 H2 ⟨ho2, ρ2, g2⟩ s2 => ?_
  subst ho2
  have g12 := g1.trans g2
  refine hu ρ2 G S2 E T2 hi S3 (rg.mono g12.pre) g2.rst e3 σ H2 ((eo.step s1).step s2) _ fun o3 T3 H3 ⟨ho3, ρ3, g3⟩ s3 => ?_
  subst ho3
  have g23 := g2.trans g3
  have s23 := s2.trans s3
  exact xSl_ok g3.rst s3.st (RV.lift g23.pre s23.lft ⟨d, r, rp⟩) h Q fun ρ' T' v' H' g s ⟨d', a, b⟩ => q d' T' v' H' ⟨ρ', (g1.trans g23).trans g, a⟩ ((s1.trans s23).trans s) b
/-- as gen prints it -/
theorem px_sl {X : Cx} {e : Expr} {me : Me} {tl tu : TO} {ml mu : Mo} {lo hi : Option Expr} {p2 pos : Pos} (he : PEm X K κ e me) (hl : PO X lo tl) (xl : OtX K κ tl ml) (hu : PO X hi tu) (xu : OtX K κ tu mu) (h : X.K = K := by rfl) : PEm X K κ (.Subscript e (.Slice lo hi none p2) pos) (mSl me ml mu) :=
  pe_m (pe_slice (sl_X K h) he hl hu) (em_sl te_self xl xu)
/-! ### texts -/
/-- a method of texts with arguments -/
def xStr1 (f : Str → Str → Option Dt) : Dt → List Dt → Xs → Res Dt := fun x xs S => match x, xs with
  | .str a, [.str b] => (match f a b with | some z => .ok z S | none => .bad)
  | _, _ => .bad
def xFind := xStr1 fun a b => some (.int (Txt.find a b))
theorem mx_find : MtX K κ (fun x xs H Q => ∃ a b, x = .str a ∧ xs = [.str b] ∧ Q (.int (Txt.find a b)) H) xFind := fun ρ S T H v vs x xs z S' rs st rx rxs e Q q => by
  unfold xFind xStr1 at e
  split at e
  · rename_i a b
    cases e
    obtain ⟨u, rfl, r⟩ := rxs.cases1
    exact ⟨a, b, rx.strV, by rw [r.strV], q ρ T _ H (.refl rs) (.refl st) (.int _)⟩
  · cases e
def xSplit := xStr1 fun a b => if ((b.length == 0) = false ∧ a.length + 2 ≤ 1000000) then some (.lst ((Txt.split a b).map .str)) else none
theorem mx_split : MtX K κ (fun x xs H Q => ∃ a b, x = .str a ∧ xs = [.str b] ∧ (b.length == 0) = false ∧ a.length + 2 ≤ sizeLine ∧ rNewStrs (Txt.split a b) H Q) xSplit := fun ρ S T H v vs x xs z S' rs st rx rxs e Q q => by
  unfold xSplit xStr1 at e
  split at e
  · rename_i a b
    split at e
    · rename_i w ew
      cases e
      dsimp only at ew
      split at ew
      · rename_i hc
        cases ew
        obtain ⟨u, rfl, r⟩ := rxs.cases1
        refine ⟨a, b, rx.strV, by rw [r.strV], hc.1, Nat.le_trans hc.2 (by decide), fun p hp => ?_⟩
        obtain ⟨g, s, r⟩ := rv_newL rs st hp (RVs.ofStrs (K := K) (κ := κ) (ρ := ρ) (T := T) (H := H) (Txt.split a b))
        exact q ρ T _ _ g s r
      · cases ew
    · cases e
  · cases e
end
end RX

set_option Elab.async false
set_option linter.all false
set_option maxRecDepth 100000
set_option maxHeartbeats 4000000
namespace RX
open PySem PySem.Spec PyProof.Rows L2 RS
section
variable {K : PySem.W.Frag} {κ : Nat → Addr}
/-! int(text), str(int), str(text) -/
def cIntX : List V → Hp → VK → Prop := cOr cInt fun xs H Q => ∃ a n, xs = [.str a] ∧ PySem.intText? a = some n ∧ a.length ≤ 640 ∧ Q (.int n) H
theorem cr_intX {X : Cx} : CallR X (.type "int") cIntX := call_or cr_int call_int_str
def xIntX : List Dt → Xs → Res Dt := fun xs S => match xs with
  | [.str a] => if a.length ≤ 640 then (match PySem.intText? a with | some n => .ok (.int n) S | none => .bad) else .bad
  | xs => xInt xs S
theorem cx_intX : CbX K κ cIntX xIntX := cx_of fun ρ S T H vs xs z S' rs st rx e Q q => by
  unfold xIntX at e
  split at e
  · rename_i a
    split at e
    · rename_i hl
      split at e
      · rename_i n en
        cases e
        obtain ⟨v, rfl, r⟩ := rx.cases1
        exact .inr ⟨a, n, by rw [r.strV], en, hl, q ρ T _ H (.refl rs) (.refl st) (.int _)⟩
      · cases e
    · cases e
  · obtain ⟨ds, a, b⟩ := rx
    exact .inl (cx_int ρ S T _ ds z S' rs a e H vs st b Q fun d T' v H' ⟨ρ', g, r⟩ s p => q ρ' T' v H' g s ⟨d, r, p⟩)
def cStrX : List V → Hp → VK → Prop := cOr (fun xs H Q => ∃ i, xs = [.int i] ∧ i.natAbs.log2 < 1920 ∧ Q (.str (toString i)) H) fun xs H Q => ∃ a, xs = [.str a] ∧ Q (.str a) H
theorem cr_strX {X : Cx} : CallR X (.type "str") cStrX := call_or call_str_int SkE.call_str_str
def xStr : List Dt → Xs → Res Dt := fun xs S => match xs with
  | [.int i] => if i.natAbs.log2 < 1920 then .ok (.str (toString i)) S else .bad
  | [.str a] => .ok (.str a) S
  | _ => .bad
theorem cx_str : CbX K κ cStrX xStr := cx_of fun ρ S T H vs xs z S' rs st rx e Q q => by
  unfold xStr at e
  split at e
  · rename_i i
    split at e
    · rename_i hl
      cases e
      obtain ⟨v, rfl, r⟩ := rx.cases1
      exact .inl ⟨i, by rw [r.intV], hl, q ρ T _ H (.refl rs) (.refl st) (.str _)⟩
    · cases e
  · cases e
    obtain ⟨v, rfl, r⟩ := rx.cases1
    exact .inr ⟨_, by rw [r.strV], q ρ T _ H (.refl rs) (.refl st) (.str _)⟩
  · cases e
/-! join, index -/
def strsD : List Dt → Option (List Str)
  | [] => some []
  | .str i :: r => (match strsD r with | some l => some (i :: l) | none => none)
  | _ :: _ => none
theorem strsD_ok : ∀ {xs : List Dt} {ns : List Str}, strsD xs = some ns → xs = ns.map .str
  | [], ns, e => by cases e; rfl
  | x :: r, ns, e => by
    cases x with
    | str i =>
      have e : (match strsD r with | some l => some (i :: l) | none => none) = some ns := e
      split at e
      · rename_i l el
        cases e
        rw [strsD_ok el]
        rfl
      · cases e
    | _ => cases e
def rJoinX (K : PySem.W.Frag) : V → List V → Hp → VK → Prop := fun x xs H Q => ∃ a p, ∃ ys : List Str, x = .str a ∧ xs = [.ref p] ∧ (SqL K H p (ys.map V.str) ∨ SqT K H p (ys.map V.str)) ∧ (ys.map (·.length)).sum + ys.length * a.length ≤ 16777216 ∧ Q (.str (Txt.join a ys)) H
theorem mt_joinX {X : Cx} (K : PySem.W.Frag) (h : X.K = K := by rfl) : MtR X "str.join" (rJoinX K) := h ▸ mt_join
def xJoin : Dt → List Dt → Xs → Res Dt := fun x xs S => match x, xs with
  | .str a, [y] => (match seqA S y with | some ys => (match strsD ys with | some zs => if (zs.map (·.length)).sum + zs.length * a.length ≤ 16777216 then .ok (.str (Txt.join a zs)) S else .bad | none => .bad) | none => .bad)
  | _, _ => .bad
theorem mx_join : MtX K κ (rJoinX K) xJoin := fun ρ S T H v vs x xs z S' rs st rx rxs e Q q => by
  unfold xJoin at e
  split at e
  · rename_i a y
    split at e
    · rename_i ys e1
      split at e
      · rename_i zs e2
        split at e
        · rename_i hl
          cases e
          obtain ⟨u, rfl, r⟩ := rxs.cases1
          obtain ⟨p, ws, rfl, hp, rw'⟩ := r.seqA rs st e1
          have := strsD_ok e2
          subst this
          have := rw'.strs
          subst this
          exact ⟨a, p, zs, rx.strV, rfl, hp, hl, q ρ T _ H (.refl rs) (.refl st) (.str _)⟩
        · cases e
      · cases e
    · cases e
  · cases e
def xIndexS := xStr1 fun a b => match Builtin.Str.occurrences a b 0 a.length 1 with | i :: _ => some (.int (i : Nat)) | [] => none
theorem mx_indexS : MtX K κ (fun x xs H Q => ∃ a b i rest, x = .str a ∧ xs = [.str b] ∧ Builtin.Str.occurrences a b 0 a.length 1 = i :: rest ∧ Q (.int (i : Nat)) H) xIndexS := fun ρ S T H v vs x xs z S' rs st rx rxs e Q q => by
  unfold xIndexS xStr1 at e
  split at e
  · rename_i a b
    split at e
    · rename_i w ew
      cases e
      dsimp only at ew
      split at ew
      · rename_i i rest eo
        cases ew
        obtain ⟨u, rfl, r⟩ := rxs.cases1
        exact ⟨a, b, i, rest, rx.strV, by rw [r.strV], eo, q ρ T _ H (.refl rs) (.refl st) (.int _)⟩
      · cases ew
    · cases e
  · cases e
end
end RX

set_option Elab.async false
set_option linter.all false
set_option maxRecDepth 100000
set_option maxHeartbeats 4000000
namespace RX
open PySem PySem.Spec PyProof.Rows L2 RS
/-! ### walks over sequences and texts -/
def iAny (K : PySem.W.Frag) (te : TE) : TI := fun σ H R => iSeq K te σ H R ∨ iStr te σ H R
theorem pi_any {X : Cx} (K : PySem.W.Frag) {tg e : Expr} {te : TE} (he : PE X e te) (h : X.K = K := by rfl) : PI X tg e (iAny K te) := by
  subst h
  refine ⟨fun pins s σ H R I q => ?_⟩
  rcases q with q | q
  · exact (pi_seq he).run pins s σ H R I q
  · exact (pi_str he).run pins s σ H R I q
section
variable {K : PySem.W.Frag} {κ : Nat → Addr} {te : TE} {me : Me}
def signs (x : Str) : List Dt := x.cps.toList.map fun c => .str ⟨#[c]⟩
def wAny (m : Me) : Ma := fun G S => (m G S).bind fun x S1 => match x with
  | .str z => .ok (signs z) S1
  | x => match seqV x with | some xs => .ok xs S1 | none => .bad
theorem itr_str {Z : Addr → Prop} {H : Hp} {x : Str} : ItR K (Its x) (x.cps.toList.map fun c => D.str ⟨#[c]⟩) Z H := fun H1 Z1 L zt => by
  refine ⟨fun i d hi => ?_, by show x.cps.size ≤ _; simp⟩
  rw [List.getElem?_map] at hi
  cases e : x.cps.toList[i]? with
  | none => rw [e] at hi; cases hi
  | some c =>
    rw [e] at hi
    cases hi
    have hlt : i < x.cps.size := by have := (List.getElem?_eq_some_iff.mp e).1; simpa using this
    refine ⟨hlt, fun v H2 ⟨eh, c', ec, ev⟩ => ?_⟩
    subst eh ev
    have : x.cps[i]? = some c := by rw [← Array.getElem?_toList]; exact e
    rw [this] at ec
    cases ec
    exact ⟨fun _ _ h => h, .str _⟩
theorem it_any (h : EvX K κ te me) : ItX K κ (iAny K te) (wAny me) := fun ρ G S E T xs S' rg rs e => by
  obtain ⟨x, S1, e1, e⟩ := Res.bind_eq e
  split at e
  · rename_i z
    cases e
    refine fun σ H eo R q => .inr (h ρ G S E T _ _ rg rs e1 σ H eo _ fun d T1 v H1 ⟨ρ1, g1, r⟩ s1 rp => ⟨z, RV.strV ⟨d, r, rp⟩, q _ T1 _ H1 ⟨ρ1, g1, ?_⟩ s1 itr_str⟩)
    unfold signs
    generalize z.cps.toList = l
    induction l with
    | nil => exact .nil
    | cons c r ih => exact .cons (.str _) ih
  · split at e
    · rename_i ys ey
      cases e
      have k : wSeq me G S = .ok xs S' := by
        show (me G S).bind _ = _
        rw [e1]
        show (match seqV x with | some xs => Res.ok xs S' | none => .bad) = _
        rw [ey]
      exact fun σ H eo R q => .inl (it_seq h ρ G S E T xs S' rg rs k σ H eo R q)
    · cases e
end
end RX

set_option Elab.async false
set_option linter.all false
set_option maxRecDepth 100000
set_option maxHeartbeats 4000000
namespace RX
open PySem PySem.Spec PyProof.Rows L2 RS
/-! ### f-strings, str(o) -/
section
variable {P : Program} {w : World} {K : PySem.W.Frag} {κ : Nat → Addr} {mg : Str → Option Value} {base : Heap} {X : Cx}
/-- {x}: a text, an int, an instance of a class in L -/
def tFmtX (K : PySem.W.Frag) (κ : Nat → Addr) (L : List (Nat × Mf)) (te : TE) : TE := fun σ H Q => tFmt te σ H Q ∨ ∃ p ∈ L, tFmtD K (κ p.1) (spX κ p.2) te σ H Q
theorem pe_fmtX {k : Nat} (K : PySem.W.Frag) {L : List (Nat × Mf)} {e : Expr} {te : TE} {pos : Pos} (c : ∀ p ∈ L, Sx P w K κ mg base p.1 "__str__" k p.2)
    (hf : ∀ p ∈ L, PySem.W.findIn K (.ref (κ p.1)) "__format__" = some (some (.builtin "object.__format__")) ∧ PySem.W.mroIn K (κ p.1) (.type "object") = some true) (hr : Room (k + 1) X.A) (hG : Gd X.A) (he : PE X e te)
    (h : X.K = K := by rfl) (h1 : X.prog = P := by rfl) (h2 : X.w = w := by rfl) (h3 : X.mg = mg := by rfl) (h4 : X.base = base := by rfl) : PE X (.FormattedValue e (-1) none pos) (tFmtX K κ L te) := by
  refine ⟨fun pins s σ H Q I q => ?_⟩
  rcases q with q | ⟨p, hp, q⟩
  · exact (pe_fmt he).run pins s σ H Q I q
  · exact (pe_fmtD K (c p hp) (hf p hp).1 (hf p hp).2 hr hG he h h1 h2 h3 h4).run pins s σ H Q I q
def xFmt (L : List (Nat × Mf)) (x : Dt) (S : Xs) : Res Dt := match x with
  | .str y => if y.length ≤ 1000000 then .ok (.str y) S else .bad
  | .int i => if i.natAbs.log2 < 1920 then .ok (.str (toString i)) S else .bad
  | x => match insX S x with
    | some (c, _) => (match findM c L with | some m => (m [x] S).bind fun y S1 => (match y with | .str z => .ok (.str z) S1 | _ => .bad) | none => .bad)
    | none => .bad
def mFmt (L : List (Nat × Mf)) (e : Me) : Me := fun G S => (e G S).bind fun x S1 => xFmt L x S1
theorem em_fmt {L : List (Nat × Mf)} {te : TE} {me : Me} (he : EvX K κ te me) : EvX K κ (tFmtX K κ L te) (mFmt L me) := fun ρ G S E T z S' rg rs h => by
  obtain ⟨x, S1, e1, k⟩ := Res.bind_eq h
  clear h
  unfold xFmt at k
  intro σ H eo Q q
  split at k
  · rename_i y
    split at k
    · rename_i hl
      cases k
      exact .inl (he ρ G S E T _ _ rg rs e1 σ H eo _ fun d T1 v H1 ⟨ρ1, g1, r⟩ s1 rp => .inl ⟨y, RV.strV ⟨d, r, rp⟩, Nat.le_trans hl (by decide), q _ T1 _ H1 ⟨ρ1, g1, .str y⟩ s1 (.str y)⟩)
    · cases k
  · rename_i i
    split at k
    · rename_i hl
      cases k
      exact .inl (he ρ G S E T _ _ rg rs e1 σ H eo _ fun d T1 v H1 ⟨ρ1, g1, r⟩ s1 rp => .inr ⟨i, RV.intV ⟨d, r, rp⟩, hl, q _ T1 _ H1 ⟨ρ1, g1, .str _⟩ s1 (.str _)⟩)
    · cases k
  · split at k
    · rename_i c fs ei
      split at k
      · rename_i m em
        obtain ⟨y, S2, e2, k⟩ := Res.bind_eq k
        split at k
        · rename_i zz
          cases k
          refine .inr ⟨(c, m), findM_mem em, he ρ G S E T _ _ rg rs e1 σ H eo _ fun d T1 v H1 ⟨ρ1, g1, r⟩ s1 rp => ?_⟩
          obtain ⟨a, dx, gs, ev, ha, _⟩ := RV.ins (K := K) g1.rst s1.st ⟨d, r, rp⟩ ei
          refine ⟨a, dx, gs, ev, ha, ?_⟩
          subst ev
          exact sp_own g1.rst s1.st (.cons ⟨d, r, rp⟩ .nil) e2 fun ρ' T' v' H' g s rv => ⟨zz, rv.strV, q _ T' _ H' ⟨ρ', g1.trans g, .str zz⟩ (s1.trans s) (by rw [rv.strV]; exact .str zz)⟩
        · cases k
      · cases k
    · cases k
/-- the parts one behind the other -/
def mJs : List Me → Str → Me
  | [], acc => fun _ S => .ok (.str acc) S
  | m :: ms, acc => fun G S => (m G S).bind fun x S1 => match x with
    | .str y => if (acc ++ y).length ≤ 1000000 then mJs ms (acc ++ y) G S1 else .bad
    | _ => .bad
inductive PJm (X : Cx) (K : PySem.W.Frag) (κ : Nat → Addr) : List Expr → List Me → Prop
  | nil : PJm X K κ [] []
  | cons {e : Expr} {m : Me} {es : List Expr} {ms : List Me} (h : PEm X K κ e m) (r : PJm X K κ es ms) : PJm X K κ (e :: es) (m :: ms)
theorem PJm.pj {es : List Expr} {ms : List Me} (h : PJm X K κ es ms) : PJ X es (ms.map (teM K κ)) := by
  induction h with
  | nil => exact .nil
  | cons h _ ih => exact .cons h ih
theorem em_js : ∀ (ms : List Me) (acc : Str) {ρ : List Addr} {G : Xe} {S S' : Xs} {E : Env'} {T : Store} {z : Dt}, RG κ ρ G E → RSt κ ρ S T → mJs ms acc G S = .ok z S' → EvG K (fun σ H Q => tJs (ms.map (teM K κ)) acc σ H fun out H1 => Q (.str out) H1) E T fun d T' => ∃ ρ', Go κ ρ T ρ' S' T' ∧ RD κ ρ' z d
  | [], acc, ρ, G, S, S', E, T, z, rg, rs, h => by
    cases h
    exact fun σ H eo Q q => q (.str acc) T _ H ⟨ρ, .refl rs, .str acc⟩ (.refl eo.st) (.str acc)
  | m :: ms, acc, ρ, G, S, S', E, T, z, rg, rs, h => by
    obtain ⟨x, S1, e1, k⟩ := Res.bind_eq h
    split at k
    · rename_i y
      split at k
      · rename_i hl
        refine fun σ H eo Q q => te_self ρ G S E T _ _ rg rs e1 σ H eo _ fun d T1 v H1 ⟨ρ1, g1, r⟩ s1 rp => ?_
        refine ⟨y, RV.strV (K := K) ⟨d, r, rp⟩, Nat.le_trans hl (by decide), ?_⟩
        exact em_js ms (acc ++ y) (rg.mono g1.pre) g1.rst k σ H1 (eo.step s1) Q fun d' T' v' H' ⟨ρ', g, r'⟩ s rv => q d' T' v' H' ⟨ρ', g1.trans g, r'⟩ (s1.trans s) rv
      · cases k
    · cases k
theorem px_joined {v1 v2 : Expr} {rest : List Expr} {ms : List Me} {pos : Pos} (h : PJm X K κ (v1 :: v2 :: rest) ms) : PEm X K κ (.JoinedStr (v1 :: v2 :: rest) pos) (mJs ms Str.empty) :=
  pe_m (pe_joined h.pj) fun ρ G S E T z S' rg rs e => em_js ms Str.empty rg rs e
theorem px_joined1 {e : Expr} {m : Me} {pos : Pos} (h : PEm X K κ e m) : PEm X K κ (.JoinedStr [e] pos) m := pe_joined1 h
end
end RX

set_option Elab.async false
set_option linter.all false
set_option maxRecDepth 100000
set_option maxHeartbeats 4000000
namespace RX
open PySem PySem.Spec PyProof.Rows L2 RS
/-! ### repr of data -/
def rReprX (K : PySem.W.Frag) : List V → Hp → VK → Prop := fun xs H Q => ∃ v d, xs = [v] ∧ Dp K H v d ∧ d.showable = true ∧ d.hasDict = false ∧ d.shown.length ≤ sizeLine ∧ d.depth ≤ 60 ∧ Q (.str d.shown) H
theorem cr_reprX {X : Cx} (K : PySem.W.Frag) (hG : Gd X.A) (hu : X.A.units + 64 < cLine) (h : X.K = K := by rfl) : CallR X (.builtin "repr") (rReprX K) := by
  subst h
  intro pins s σ H xs us Q I r h
  obtain ⟨v, d, rfl, dp, hs, hd, hz, hdp, q⟩ := h
  cases r with
  | cons r1 r2 =>
    cases r2
    rename_i u
    obtain ⟨as, rd⟩ := Dp.reads I d v u dp r1
    have fin : ∀ tk w, EP X pins σ Q (.str d.shown w) { s with toks := tk } := fun tk w => ⟨.str d.shown, H, I.tok tk, ⟨w, rfl⟩, q⟩
    cases rd with
    | none => exact PySem.P.repr_of_none (fin _ _)
    | bool b => exact PySem.P.repr_of_bool (fin _ _)
    | int i t => exact PySem.P.repr_of_int (of_decide_eq_true hs) (fin _ _)
    | str x t => exact PySem.P.repr_of_str (fin _ _) hz
    | list h1 h2 h3 h4 => exact PySem.repr_of_reads' (.list h1 h2 h3 h4) hs (fun z => by rw [hd] at z; cases z) hG (by omega) (fun _ _ e => e) (fun h' w tk hk => ⟨.str _, H, I.kept (t' := tk) hk, ⟨w, rfl⟩, q⟩) hz
    | tuple h1 h2 h3 h4 => exact PySem.repr_of_reads' (.tuple h1 h2 h3 h4) hs (fun z => by rw [hd] at z; cases z) hG (by omega) (fun _ _ e => e) (fun h' w tk hk => ⟨.str _, H, I.kept (t' := tk) hk, ⟨w, rfl⟩, q⟩) hz
    | dict _ _ _ _ => cases hd
section
variable {K : PySem.W.Frag} {κ : Nat → Addr}
def xRepr : List Dt → Xs → Res Dt := fun xs S => match xs with
  | [x] => (match toP S 20 x with | some p => if p.showable = true ∧ p.hasDict = false ∧ p.shown.length ≤ sizeLine ∧ p.depth ≤ 60 then .ok (.str p.shown) S else .bad | none => .bad)
  | _ => .bad
theorem cx_repr : CbX K κ (rReprX K) xRepr := cx_of fun ρ S T H vs xs z S' rs st rx e Q q => by
  unfold xRepr at e
  split at e
  · split at e
    · rename_i p ep
      split at e
      · rename_i hc
        cases e
        obtain ⟨v, rfl, r⟩ := rx.cases1
        exact ⟨v, p, rfl, toP_dp rs st 20 ep r, hc.1, hc.2.1, hc.2.2.1, hc.2.2.2, q ρ T _ H (.refl rs) (.refl st) (.str _)⟩
      · cases e
    · cases e
  · cases e
end
end RX

set_option Elab.async false
set_option linter.all false
set_option maxRecDepth 100000
set_option maxHeartbeats 4000000
namespace RX
open PySem PySem.Spec PyProof.Rows L2 RS
/-! ### C.m(..), m a classmethod -/
structure CMx (P : Program) (w : World) (K : PySem.W.Frag) (κ : Nat → Addr) (mg : Str → Option Value) (base : Heap) (c : Nat) (f : Str) (k : Nat) (m : Mf) : Prop where
  ex : ∃ mc p g fd ps, ClX.CRead K (κ c) mc ∧ ClX.CMet K (κ c) mc f p g ∧ FnA P w K mg base CX0 k g fd ps (spOf K (spX κ m)) ∧ Binds K fd ps []
section
variable {P : Program} {w : World} {K : PySem.W.Frag} {κ : Nat → Addr} {mg : Str → Option Value} {base : Heap} {X : Cx}
def mCMeth (c : Nat) (m : Mf) (o : Me) (r : Ma) : Me := fun G S => (o G S).bind fun x S1 => match x with
  | .cls c' => if c' = c then (r G S1).bind fun xs S2 => m (.cls c :: xs) S2 else .bad
  | _ => .bad
theorem em_cmeth {c : Nat} {m : Mf} {to : TE} {mo : Me} {tr : TA} {mr : Ma} (ho : EvX K κ to mo) (hr : ArX K κ tr mr) : EvX K κ (ClX.tCMeth (κ c) (spOf K (spX κ m)) E0 to tr) (mCMeth c m mo mr) := fun ρ G S En T z S' rg rs h => by
  obtain ⟨x, S1, e1, k⟩ := Res.bind_eq h
  clear h
  split at k
  · rename_i c'
    split at k
    · rename_i hc
      subst hc
      obtain ⟨xs, S2, e2, k⟩ := Res.bind_eq k
      refine fun σ H eo Q q => ho ρ G S En T _ S1 rg rs e1 σ H eo _ fun d T1 v H1 ⟨ρ1, g1, r⟩ s1 rp => ⟨RV.clsV ⟨d, r, rp⟩, ?_⟩
      refine hr ρ1 G S1 En T1 xs S2 (rg.mono g1.pre) g1.rst e2 σ H1 (eo.step s1) _ fun es T2 vs H2 ⟨ρ2, g2, rd2⟩ s2 rp2 => ?_
      exact sp_own g2.rst s2.st (.cons ⟨_, .cls c', .ref _⟩ ⟨es, rd2, rp2⟩) k fun ρ' T' v' H' g s ⟨d', a, b⟩ => q d' T' v' H' ⟨ρ', (g1.trans g2).trans g, a⟩ ((s1.trans s2).trans s) b
    · cases k
  · cases k
theorem px_cmeth {k c : Nat} {m : Mf} {f : Str} {o e : Expr} {es : List Expr} {apos pos : Pos} {pl : Sem Bool} {mo : Me} {ma : Ma} (cl : CMx P w K κ mg base c f k m) (hr : Room k X.A) (hG : Gd X.A) (ho : PEm X K κ o mo) (ha : PAm X K κ (e :: es) ma)
    (h : X.K = K := by rfl) (h1 : X.prog = P := by rfl) (h2 : X.w = w := by rfl) (h3 : X.mg = mg := by rfl) (h4 : X.base = base := by rfl)
    (he : starEach (e :: es) X.env = (false, eval e X.env) :: starEach es X.env := by rfl) (hpl : (backTo pos (starEach es X.env)).any (·.1) = false := by rfl)
    (ht : eval (.Call (.Attribute o f apos) (e :: es) [] pos) X.env = (do let ov ← eval o X.env; standAt apos.atName; let (g, first) ← holding [ov] (getMethod ov f pl); callWith pos g first (backTo pos (starEach (e :: es) X.env)) (backToKw pos (keywordEach [] X.env))) := by rfl) :
    PEm X K κ (.Call (.Attribute o f apos) (e :: es) [] pos) (mCMeth c m mo ma) := by
  subst h h1 h2 h3 h4
  obtain ⟨mc, p, g, fd, ps, c1, c2, c3, c4⟩ := cl.ex
  refine pe_m (te := ClX.tCMeth (κ c) (spOf X.K (spX κ m)) E0 (teM X.K κ mo) (taM X.K κ ma)) ⟨fun pins s σ H Q I h => ?_⟩ (em_cmeth te_self ta_self)
  refine PySem.W.methodCall_KW (pl := pl) (thn (ho.run pins s σ H _ I h) fun u s1 z => ?_) ht
  obtain ⟨y, H1, I1, ry, ey, q⟩ := z
  subst ey
  obtain rfl : u = Value.ref (κ c) := ry
  refine ClX.getmethcm_ok I1 c1 c2 fun s2 I2 => ?_
  refine ClX.callwith_cm I2 (ClX.base_none I1 (Nat.le_refl _)) c2.fi (thn (ha.run pos _ s2 σ H1 _ I2 q) fun us s3 ⟨vs, H2, I3, rv, q2⟩ => ⟨⟨ClX.pin_at I3, I3.kIn⟩, ?_⟩) he hpl
  have q3 : spOf X.K (spX κ m) ((V.ref (κ c) :: vs) ++ []) H2 Q E0 := by rw [List.append_nil]; exact q2
  have z : wpAny (model X.prog X.w) X.A (call (.ref s1.heap.objs.size) us) (EP X ((s1.heap.objs.size, PySem.W.methodObj (.ref g) (.ref (κ c))) :: pins) σ Q) X.xe s3 := by
    refine wpAny_call (PySem.W.method_call (ClX.pin_at I3) (codeAny_mono (runA (us := .ref (κ c) :: us) (vs := .ref (κ c) :: vs) c3 (RS.Room.sub hr) hG c4 .nil I3 (.cons rfl rv) q3) fun r s' hq => ?_))
    match r, hq with
    | .error e, hq => exact False.elim hq
    | .ok .next, hq => exact False.elim hq
    | .ok .brk, hq => exact False.elim hq
    | .ok .cont, hq => exact False.elim hq
    | .ok (.ret u), hq => exact hq
  exact thn z fun _ _ y => ClX.unpinE y
end
end RX

set_option Elab.async false
set_option linter.all false
set_option maxRecDepth 100000
set_option maxHeartbeats 4000000
/-! Dicts in the functional layer: each is a cell. -/
namespace RX
open PySem PySem.Spec PyProof.Rows L2 RS
def putKX {τ α : Type} [DecidableEq τ] (kvs : List (τ × α)) (k : τ) (v : α) : List (τ × α) :=
  if (kvs.any fun kv => decide (kv.1 = k)) = true then kvs.map (fun kv => if kv.1 = k then (kv.1, v) else kv) else kvs ++ [(k, v)]
def valKX {τ α : Type} [DecidableEq τ] (kvs : List (τ × α)) (k : τ) : Option α := (kvs.find? fun kv => decide (kv.1 = k)).map (·.2)
section
variable {K : PySem.W.Frag} {κ : Nat → Addr} {Z : Addr → Prop} {H : Hp} {ρ : List Addr} {τ : Type} [DecidableEq τ]
theorem _root_.RS.RpK.length {vs : List (τ × V)} {ds : List (τ × D)} (r : RpK K Z H vs ds) : vs.length = ds.length := by
  induction r with
  | nil => rfl
  | cons _ _ ih => simp [ih]
theorem _root_.RS.RpK.append {vs ws : List (τ × V)} {ds es : List (τ × D)} (r : RpK K Z H vs ds) (q : RpK K Z H ws es) : RpK K Z H (vs ++ ws) (ds ++ es) := by
  induction r with
  | nil => exact q
  | cons a _ ih => exact .cons a ih
theorem _root_.RS.RpK.put {vs : List (τ × V)} {ds : List (τ × D)} {v : V} {d : D} (r : RpK K Z H vs ds) (k : τ) (h : Rp K Z H v d) : RpK K Z H (putK vs k v) (putKX ds k d) := by
  have ha : (vs.any fun kv => decide (kv.1 = k)) = (ds.any fun kv => decide (kv.1 = k)) := by
    induction r with
    | nil => rfl
    | cons _ _ ih => rw [List.any_cons, List.any_cons, ih]
  unfold putK putKX
  rw [ha]
  split
  · rename_i hcut; clear ha hcut
    induction r with
    | nil => exact .nil
    | @cons j v' vs' d' ds' a _ ih =>
      rw [List.map_cons, List.map_cons]
      by_cases e : j = k
      · rw [if_pos e, if_pos e]; exact .cons h ih
      · rw [if_neg e, if_neg e]; exact .cons a ih
  · exact r.append (.cons h .nil)
theorem _root_.RS.RpK.val {vs : List (τ × V)} {ds : List (τ × D)} (r : RpK K Z H vs ds) (k : τ) : (∃ d v, valKX ds k = some d ∧ valV vs k = some v ∧ Rp K Z H v d) ∨ valKX ds k = none ∧ valV vs k = none := by
  induction r with
  | nil => exact .inr ⟨rfl, rfl⟩
  | @cons j v' vs' d' ds' a _ ih =>
    by_cases e : j = k
    · exact .inl ⟨d', v', by simp [valKX, e], valV_pos e, a⟩
    · rw [valV_neg e]
      have : valKX ((j, d') :: ds') k = valKX ds' k := by simp [valKX, e]
      rw [this]
      exact ih
theorem RDK.append {xs ys : List (τ × Dt)} {ds es : List (τ × D)} (r : RDK κ ρ xs ds) (q : RDK κ ρ ys es) : RDK κ ρ (xs ++ ys) (ds ++ es) := by
  induction r with
  | nil => exact q
  | cons a _ ih => exact .cons a ih
theorem RDK.length {vs : List (τ × Dt)} {ds : List (τ × D)} (r : RDK κ ρ vs ds) : vs.length = ds.length := by
  induction r with
  | nil => rfl
  | cons _ _ ih => simp [ih]
theorem RDK.put {xs : List (τ × Dt)} {ds : List (τ × D)} {x : Dt} {d : D} (r : RDK κ ρ xs ds) (k : τ) (h : RD κ ρ x d) : RDK κ ρ (putKX xs k x) (putKX ds k d) := by
  have ha : (xs.any fun kv => decide (kv.1 = k)) = (ds.any fun kv => decide (kv.1 = k)) := by
    induction r with
    | nil => rfl
    | cons _ _ ih => rw [List.any_cons, List.any_cons, ih]
  unfold putKX
  rw [ha]
  split
  · rename_i hcut; clear ha hcut
    induction r with
    | nil => exact .nil
    | @cons j v' vs' d' ds' a _ ih =>
      rw [List.map_cons, List.map_cons]
      by_cases e : j = k
      · rw [if_pos e, if_pos e]; exact .cons h ih
      · rw [if_neg e, if_neg e]; exact .cons a ih
  · exact r.append (.cons h .nil)
theorem RDK.val {xs : List (τ × Dt)} {ds : List (τ × D)} (r : RDK κ ρ xs ds) (k : τ) : (∃ x d, valKX xs k = some x ∧ valKX ds k = some d ∧ RD κ ρ x d) ∨ valKX xs k = none ∧ valKX ds k = none := by
  induction r with
  | nil => exact .inr ⟨rfl, rfl⟩
  | @cons j v' vs' d' ds' a _ ih =>
    by_cases e : j = k
    · exact .inl ⟨v', d', by simp [valKX, e], by simp [valKX, e], a⟩
    · have h1 : valKX ((j, d') :: ds') k = valKX ds' k := by simp [valKX, e]
      have h2 : valKX ((j, v') :: vs') k = valKX vs' k := by simp [valKX, e]
      rw [h1, h2]
      exact ih
end
/-! ### keys -/
def keyD : Dt → Option Key
  | .int i => some (.inl i)
  | .str x => some (.inr x)
  | _ => none
def keysD : List Dt → Option (List Key)
  | [] => some []
  | x :: xs => match keyD x with | some k => (match keysD xs with | some ks => some (k :: ks) | none => none) | none => none
section
variable {K : PySem.W.Frag} {κ : Nat → Addr} {ρ : List Addr} {T : Store} {H : Hp}
theorem keyD_ok {x : Dt} {k : Key} {v : V} (e : keyD x = some k) (r : RV K κ ρ T H v x) : v = kV k := by
  cases x with
  | int i => cases e; exact r.intV
  | str i => cases e; exact r.strV
  | _ => cases e
theorem keysD_ok : ∀ {xs : List Dt} {ks : List Key} {vs : List V}, keysD xs = some ks → RVs K κ ρ T H vs xs → vs = ks.map kV
  | [], ks, vs, e, ⟨ds, a, b⟩ => by cases e; cases a; cases b; rfl
  | x :: xs, ks, vs, e, ⟨ds, a, b⟩ => by
    unfold keysD at e
    cases a with
    | cons a1 a2 =>
      cases b with
      | cons b1 b2 =>
        split at e
        · rename_i k ek
          split at e
          · rename_i ks' es
            cases e
            rw [keyD_ok ek ⟨_, a1, b1⟩, keysD_ok es ⟨_, a2, b2⟩]
            rfl
          · cases e
        · cases e
end
/-- what a dict holds at a key: none if it is not told -/
def dgX (S : Xs) (d y : Dt) : Option (Option Dt) := match d with
  | .loc n => (match S[n]? with
    | some (.dK kvs) => (match keyD y with | some k => some (valKX kvs k) | none => none)
    | some (.dT kvs) => (match y with | .tup ys => (match keysD ys with | some ks => some (valKX kvs ks) | none => none) | _ => none)
    | _ => none)
  | _ => none
/-- .. in the hand layer, a key that is a tuple of the program's top too -/
def DGetX (K : PySem.W.Frag) (H : Hp) (a : Addr) (y : V) (r : Option V) : Prop :=
  (∃ kvs k, H a = some (.dK kvs) ∧ y = kV k ∧ r = valV kvs k) ∨ ∃ kvs k b, H a = some (.dT kvs) ∧ y = .ref b ∧ SqT K H b (k.map kV) ∧ r = valV kvs k
section
variable {K : PySem.W.Frag} {κ : Nat → Addr} {ρ : List Addr} {S : Xs} {T : Store} {H : Hp}
theorem dgX_ok {d y : Dt} {o : Option Dt} {vd vy : V} (rs : RSt κ ρ S T) (st : StOk K T H) (rd : RV K κ ρ T H vd d) (ry : RV K κ ρ T H vy y) (e : dgX S d y = some o) :
    ∃ a r, vd = .ref a ∧ DGetX K H a vy r ∧ ((∃ x v, o = some x ∧ r = some v ∧ RV K κ ρ T H v x) ∨ o = none ∧ r = none) := by
  unfold dgX at e
  split at e
  · rename_i n
    obtain ⟨dd, hd, hp⟩ := rd
    obtain ⟨a, rfl, ha⟩ := hd.locD
    have ev := hp.refV
    subst ev
    split at e
    · rename_i kvs ec
      obtain ⟨c, hc, rc⟩ := rs.cell n a _ ha ec
      cases rc with
      | dK rk =>
        obtain ⟨ys, hx, rp⟩ := st.ok a _ (lookup_mem hc)
        split at e
        · rename_i k ek
          cases e
          refine ⟨a, valV ys k, rfl, .inl ⟨ys, k, hx, keyD_ok ek ry, rfl⟩, ?_⟩
          rcases rk.val k with ⟨x, d1, e1, e2, r1⟩ | ⟨e1, e2⟩
          · rcases rp.val k with ⟨d2, v, e3, e4, r2⟩ | ⟨e3, e4⟩
            · rw [e2] at e3
              cases e3
              exact .inl ⟨x, v, e1, e4, _, r1, r2⟩
            · rw [e2] at e3; cases e3
          · rcases rp.val k with ⟨d2, v, e3, e4, r2⟩ | ⟨e3, e4⟩
            · rw [e2] at e3; cases e3
            · exact .inr ⟨e1, e4⟩
        · cases e
    · rename_i kvs ec
      obtain ⟨c, hc, rc⟩ := rs.cell n a _ ha ec
      cases rc with
      | dT rk =>
        obtain ⟨ys, hx, rp⟩ := st.ok a _ (lookup_mem hc)
        split at e
        · rename_i zs
          split at e
          · rename_i k ek
            cases e
            obtain ⟨b, vs, rfl, hb, rb⟩ := ry.tupT
            rw [keysD_ok ek rb] at hb
            refine ⟨a, valV ys k, rfl, .inr ⟨ys, k, b, hx, rfl, hb, rfl⟩, ?_⟩
            rcases rk.val k with ⟨x, d1, e1, e2, r1⟩ | ⟨e1, e2⟩
            · rcases rp.val k with ⟨d2, v, e3, e4, r2⟩ | ⟨e3, e4⟩
              · rw [e2] at e3
                cases e3
                exact .inl ⟨x, v, e1, e4, _, r1, r2⟩
              · rw [e2] at e3; cases e3
            · rcases rp.val k with ⟨d2, v, e3, e4, r2⟩ | ⟨e3, e4⟩
              · rw [e2] at e3; cases e3
              · exact .inr ⟨e1, e4⟩
          · cases e
        · cases e
    · cases e
  · cases e
end
end RX

set_option Elab.async false
set_option linter.all false
set_option maxRecDepth 100000
set_option maxHeartbeats 4000000
namespace RX
open PySem PySem.Spec PyProof.Rows L2 RS
section
variable {X : Cx} {pins : List (Addr × Obj)} {σ : L2.St} {H : Hp} {s : Shared} {a b : Addr} {y v d : V} {u r : Value} {o : Option V} {A : Around} {E : Value → Shared → Prop}
theorem key_ofX {ks : List Key} (I : Inv X pins σ H s) (e : SqT X.K H b (ks.map kV)) : (tupleKind (mixKind X.prog X.w)).is s.heap ks b := by
  rcases e with e | ⟨ob, its, n, h1, h2, h3, h4, h5⟩
  · obtain ⟨_, its, rr, ob, h1, h2, n, h3⟩ := (show ObjOk X.prog X.w H s.heap b (.tup (ks.map kV)) from rd_of I.hok e)
    exact ⟨ob, its.toArray, n, h1, h2, h3, by simpa using items_are rr⟩
  · exact ⟨ob, its, n, I.kIn _ _ h1, h2, h3, by simpa using items_are h5⟩
theorem x_getItem {Q : Value → Shared → Prop} (hu : A.units + 1 < cLine) (I : Inv X pins σ H s) (g : DGetX X.K H a y (some v)) (ry : RelV y u) (h : ∀ w' s', Inv X pins σ H s' → RelV v w' → Q w' s') : wpAny (model X.prog X.w) A (getItem (.ref a) u) Q E s := by
  rcases g with ⟨kvs, k, e, ey, l⟩ | ⟨kvs, k, b, e, ey, eb, l⟩
  · exact d_getItem hu I (.inl ⟨kvs, k, .inl e, ey, l⟩) ry h
  · subst ey
    obtain rfl : u = Value.ref b := ry
    obtain ⟨_, _, xs, rel, dd⟩ := dt_rd I.hok (.inl e)
    obtain ⟨w', hw, rw'⟩ := RelO.some_of (v := v) (o := (atKey xs k).map (·.2)) (l ▸ rel.val k)
    obtain ⟨p, hp, hp2⟩ := Option.map_eq_some_iff.mp hw
    exact wpAny_getItem_heap (tupleKind_room_in1 hu) (key_ofX I eb) dd hp (hp2 ▸ h w' _ (I.tok _) rw')
theorem x_in {Q : Value → Shared → Prop} (hu : A.units + 1 < cLine) (I : Inv X pins σ H s) (g : DGetX X.K H a y o) (ry : RelV y u) (h : ∀ s', Inv X pins σ H s' → Q (.bool o.isSome) s') : wpAny (model X.prog X.w) A (compareOp .In u (.ref a)) Q E s := by
  rcases g with ⟨kvs, k, e, ey, l⟩ | ⟨kvs, k, b, e, ey, eb, l⟩
  · exact d_in hu I (.inl ⟨kvs, k, .inl e, ey, l⟩) ry h
  · subst ey
    obtain rfl : u = Value.ref b := ry
    obtain ⟨_, hd, xs, rel, dd⟩ := dt_rd I.hok (.inl e)
    have q := (rel.val k).isSome_eq
    rw [Option.isSome_map, ← l] at q
    exact wpAny_in_heap (tupleKind_room_in1 hu) (key_ofX I eb) hd dd (q ▸ h _ (I.tok _))
theorem x_notIn {Q : Value → Shared → Prop} (hu : A.units + 1 < cLine) (I : Inv X pins σ H s) (g : DGetX X.K H a y o) (ry : RelV y u) (h : ∀ s', Inv X pins σ H s' → Q (.bool (!o.isSome)) s') : wpAny (model X.prog X.w) A (compareOp .NotIn u (.ref a)) Q E s := by
  rcases g with ⟨kvs, k, e, ey, l⟩ | ⟨kvs, k, b, e, ey, eb, l⟩
  · exact d_notIn hu I (.inl ⟨kvs, k, .inl e, ey, l⟩) ry h
  · subst ey
    obtain rfl : u = Value.ref b := ry
    obtain ⟨_, hd, xs, rel, dd⟩ := dt_rd I.hok (.inl e)
    have q := (rel.val k).isSome_eq
    rw [Option.isSome_map, ← l] at q
    exact wpAny_notIn_heap (tupleKind_room_in1 hu) (key_ofX I eb) hd dd (q ▸ h _ (I.tok _))
theorem x_get2 {Q : Value → Shared → Prop} (hu : A.units + 1 < cLine) (I : Inv X pins σ H s) (g : DGetX X.K H a y o) (ry : RelV y u) (rd : RelV d r) (h : ∀ w' s', Inv X pins σ H s' → RelV (o.getD d) w' → Q w' s') : wpAny (model X.prog X.w) A (call (.builtin "dict.get") [.ref a, u, r]) Q E s := by
  rcases g with ⟨kvs, k, e, ey, l⟩ | ⟨kvs, k, b, e, ey, eb, l⟩
  · exact d_get2 hu I (.inl ⟨kvs, k, .inl e, ey, l⟩) ry rd h
  · subst ey
    obtain rfl : u = Value.ref b := ry
    obtain ⟨_, hd, xs, rel, dd⟩ := dt_rd I.hok (.inl e)
    exact call_meetsIn PySem.F.slot_dict_get dd.typeIs PySem.F.entry_dict_get (PySem.F.args_dict_get_3 _ _ _) (meetsH_dict_get_default (tupleKind (mixKind X.prog X.w)) a b hd r) ⟨tupleKind_room_in1 hu, k, xs, key_ofX I eb, dd, h _ _ (I.tok _) (l ▸ (rel.val k).getD rd)⟩
theorem x_typeIs (I : Inv X pins σ H s) (g : DGetX X.K H a y o) : s.TypeIs (.ref a) "dict" := by
  rcases g with ⟨kvs, k, e, _, _⟩ | ⟨kvs, k, b, e, _, _, _⟩
  · obtain ⟨_, _, vs, _, dd⟩ := dk_rd I.hok (.inl e)
    exact dd.typeIs
  · obtain ⟨_, _, xs, _, dd⟩ := dt_rd I.hok (.inl e)
    exact dd.typeIs
end
def tDGetX (K : PySem.W.Frag) (td ty : TE) : TE := fun σ H Q => td σ H fun x H1 => ty σ H1 fun y H2 => ∃ a v, x = V.ref a ∧ DGetX K H2 a y (some v) ∧ Q v H2
def tDInX (K : PySem.W.Frag) (ty td : TE) : TE := fun σ H Q => ty σ H fun y H1 => td σ H1 fun x H2 => ∃ a o, x = V.ref a ∧ DGetX K H2 a y o ∧ Q (.bl o.isSome) H2
def tDNotInX (K : PySem.W.Frag) (ty td : TE) : TE := fun σ H Q => ty σ H fun y H1 => td σ H1 fun x H2 => ∃ a o, x = V.ref a ∧ DGetX K H2 a y o ∧ Q (.bl (!o.isSome)) H2
def tDGet2X (K : PySem.W.Frag) (td ty tx : TE) : TE := fun σ H Q => td σ H fun x H1 => ∃ a, x = V.ref a ∧ IsD H1 a ∧ ty σ H1 fun y H2 => tx σ H2 fun z H3 => ∃ o, DGetX K H3 a y o ∧ Q (o.getD z) H3
section
variable {X : Cx} {o i e f : Expr} {td ty tx : TE} {pos apos cpos : Pos}
theorem pe_dgetX (K : PySem.W.Frag) (hu : X.A.units + 1 < cLine) (ho : PE X o td) (hi : PE X i ty) (hs : NoSl i) (h : X.K = K := by rfl) : PE X (.Subscript o i pos) (tDGetX K td ty) := by
  subst h
  refine ⟨fun pins s σ H Q I h => subD_of PySem.F.slot_dict_getitem.lookup hs (thn (ho.run pins s σ H _ I h) fun u s1 ⟨x, H1, I1, rx, q1⟩ => thn (hi.run pins s1 σ H1 _ I1 q1) fun iv s2 ⟨y, H2, I2, ry, a, v, ex, g, q2⟩ => ?_)⟩
  subst ex
  obtain rfl : u = Value.ref a := rx
  exact ⟨x_typeIs I2 g, x_getItem hu I2 g ry fun w' s3 I3 rw' => ⟨v, H2, I3, rw', q2⟩⟩
theorem pc_inX (K : PySem.W.Frag) (hu : X.A.units + 1 < cLine) (hi : PE X i ty) (ho : PE X o td) (h : X.K = K := by rfl) : PC X .In i o (tDInX K ty td) := by
  subst h
  refine ⟨fun pins s σ H Q I h => thn (hi.run pins s σ H _ I h) fun iv s1 ⟨y, H1, I1, ry, q1⟩ => thn (ho.run pins s1 σ H1 _ I1 q1) fun u s2 ⟨x, H2, I2, rx, a, ov, ex, g, q2⟩ => ?_⟩
  subst ex
  obtain rfl : u = Value.ref a := rx
  exact x_in hu I2 g ry fun s3 I3 => ⟨.bl ov.isSome, H2, I3, rfl, q2⟩
theorem pc_notInX (K : PySem.W.Frag) (hu : X.A.units + 1 < cLine) (hi : PE X i ty) (ho : PE X o td) (h : X.K = K := by rfl) : PC X .NotIn i o (tDNotInX K ty td) := by
  subst h
  refine ⟨fun pins s σ H Q I h => thn (hi.run pins s σ H _ I h) fun iv s1 ⟨y, H1, I1, ry, q1⟩ => thn (ho.run pins s1 σ H1 _ I1 q1) fun u s2 ⟨x, H2, I2, rx, a, ov, ex, g, q2⟩ => ?_⟩
  subst ex
  obtain rfl : u = Value.ref a := rx
  exact x_notIn hu I2 g ry fun s3 I3 => ⟨.bl (!ov.isSome), H2, I3, rfl, q2⟩
theorem pe_dget2X (K : PySem.W.Frag) (hu : X.A.units + 1 < cLine) (ho : PE X o td) (he : PE X e ty) (hf : PE X f tx) (m : M2 X o "get" apos e f cpos) (h : X.K = K := by rfl) : PE X (.Call (.Attribute o "get" apos) [e, f] [] cpos) (tDGet2X K td ty tx) := by
  subst h
  refine ⟨fun pins s σ H Q I h => wpAny_Call_method m.base m.few m.line PySem.F.plainAttrs_dict PySem.F.slot_dict_get PySem.F.type_dict_get (thn (ho.run pins s σ H _ I h) fun u s1 ⟨x, H1, I1, rx, a, ex, dd, q1⟩ => ?_)⟩
  subst ex
  obtain rfl : u = Value.ref a := rx
  obtain ⟨t1, t2, _⟩ := isD_at I1 dd
  refine ⟨t1, t2, ?_⟩
  rw [m.trees]
  exact Calls.callWith_builtin rfl (Calls.evalArgs_plain (Calls.spliced_cons (thn (he.run pins s1 σ H1 _ I1 q1) fun iv s2 ⟨y, H2, I2, ry, q2⟩ => Calls.spliced_cons (thn (hf.run pins s2 σ H2 _ I2 q2) fun fv s3 ⟨z, H3, I3, rz, ov, g, q3⟩ => Calls.spliced_nil (x_get2 hu I3 g ry rz fun w' s4 I4 rw' => ⟨_, H3, I4, rw', q3⟩)))))
end
/-! ### what is computed -/
def mDGet (d y : Me) : Me := fun G S => (d G S).bind fun x S1 => (y G S1).bind fun k S2 => match dgX S2 x k with | some (some v) => .ok v S2 | _ => .bad
def mDIn (y d : Me) : Me := fun G S => (y G S).bind fun k S1 => (d G S1).bind fun x S2 => match dgX S2 x k with | some o => .ok (.bl o.isSome) S2 | none => .bad
def mDNotIn (y d : Me) : Me := fun G S => (y G S).bind fun k S1 => (d G S1).bind fun x S2 => match dgX S2 x k with | some o => .ok (.bl (!o.isSome)) S2 | none => .bad
def isDX (S : Xs) (x : Dt) : Bool := match x with | .loc n => (match S[n]? with | some (.dK _) => true | some (.dT _) => true | _ => false) | _ => false
def mDGet2 (d y z : Me) : Me := fun G S => (d G S).bind fun x S1 => if isDX S1 x = true then (y G S1).bind fun k S2 => (z G S2).bind fun w S3 => (match dgX S3 x k with | some o => .ok (o.getD w) S3 | none => .bad) else .bad
section
variable {K : PySem.W.Frag} {κ : Nat → Addr} {td ty tx : TE} {md my mx : Me}
theorem em_dget (hd : EvX K κ td md) (hy : EvX K κ ty my) : EvX K κ (tDGetX K td ty) (mDGet md my) := fun ρ G S E T z S' rg rs h => by
  obtain ⟨x, S1, e1, h⟩ := Res.bind_eq h
  obtain ⟨k, S2, e2, h⟩ := Res.bind_eq h
  split at h
  · rename_i w eg
    cases h
    refine fun σ H eo Q q => hd ρ G S E T x S1 rg rs e1 σ H eo _ fun d1 T1 v1 H1 ⟨ρ1, g1, r1⟩ s1 p1 => hy ρ1 G S1 E T1 k _ (rg.mono g1.pre) g1.rst e2 σ H1 (eo.step s1) _ fun d2 T2 v2 H2 ⟨ρ2, g2, r2⟩ s2 p2 => ?_
    obtain ⟨a, r, ev, g, ho⟩ := dgX_ok g2.rst s2.st (RV.lift g2.pre s2.lft ⟨d1, r1, p1⟩) ⟨d2, r2, p2⟩ eg
    rcases ho with ⟨x', v', ex, er, ⟨d3, a3, b3⟩⟩ | ⟨ex, _⟩
    · cases ex
      subst er
      exact ⟨a, v', ev, g, q d3 T2 v' H2 ⟨ρ2, g1.trans g2, a3⟩ (s1.trans s2) b3⟩
    · cases ex
  · cases h
theorem em_din (hy : EvX K κ ty my) (hd : EvX K κ td md) : EvX K κ (tDInX K ty td) (mDIn my md) := fun ρ G S E T z S' rg rs h => by
  obtain ⟨k, S1, e1, h⟩ := Res.bind_eq h
  obtain ⟨x, S2, e2, h⟩ := Res.bind_eq h
  split at h
  · rename_i w eg
    cases h
    refine fun σ H eo Q q => hy ρ G S E T k S1 rg rs e1 σ H eo _ fun d1 T1 v1 H1 ⟨ρ1, g1, r1⟩ s1 p1 => hd ρ1 G S1 E T1 x _ (rg.mono g1.pre) g1.rst e2 σ H1 (eo.step s1) _ fun d2 T2 v2 H2 ⟨ρ2, g2, r2⟩ s2 p2 => ?_
    obtain ⟨a, r, ev, g, ho⟩ := dgX_ok g2.rst s2.st ⟨d2, r2, p2⟩ (RV.lift g2.pre s2.lft ⟨d1, r1, p1⟩) eg
    have : r.isSome = w.isSome := by
      rcases ho with ⟨x', v', ex, er, _⟩ | ⟨ex, er⟩ <;> (subst ex er; rfl)
    exact ⟨a, r, ev, g, this ▸ q _ T2 _ H2 ⟨ρ2, g1.trans g2, .bl _⟩ (s1.trans s2) (.bl _)⟩
  · cases h
theorem em_dnotin (hy : EvX K κ ty my) (hd : EvX K κ td md) : EvX K κ (tDNotInX K ty td) (mDNotIn my md) := fun ρ G S E T z S' rg rs h => by
  obtain ⟨k, S1, e1, h⟩ := Res.bind_eq h
  obtain ⟨x, S2, e2, h⟩ := Res.bind_eq h
  split at h
  · rename_i w eg
    cases h
    refine fun σ H eo Q q => hy ρ G S E T k S1 rg rs e1 σ H eo _ fun d1 T1 v1 H1 ⟨ρ1, g1, r1⟩ s1 p1 => hd ρ1 G S1 E T1 x _ (rg.mono g1.pre) g1.rst e2 σ H1 (eo.step s1) _ fun d2 T2 v2 H2 ⟨ρ2, g2, r2⟩ s2 p2 => ?_
    obtain ⟨a, r, ev, g, ho⟩ := dgX_ok g2.rst s2.st ⟨d2, r2, p2⟩ (RV.lift g2.pre s2.lft ⟨d1, r1, p1⟩) eg
    have : r.isSome = w.isSome := by
      rcases ho with ⟨x', v', ex, er, _⟩ | ⟨ex, er⟩ <;> (subst ex er; rfl)
    exact ⟨a, r, ev, g, this ▸ q _ T2 _ H2 ⟨ρ2, g1.trans g2, .bl _⟩ (s1.trans s2) (.bl _)⟩
  · cases h
theorem isDX_ok {ρ : List Addr} {S : Xs} {T : Store} {H : Hp} {x : Dt} {v : V} (rs : RSt κ ρ S T) (st : StOk K T H) (r : RV K κ ρ T H v x) (e : isDX S x = true) : ∃ a, v = .ref a ∧ IsD H a := by
  unfold isDX at e
  split at e
  · rename_i n
    obtain ⟨dd, hd, hp⟩ := r
    obtain ⟨a, rfl, ha⟩ := hd.locD
    refine ⟨a, hp.refV, ?_⟩
    split at e
    · rename_i kvs ec
      obtain ⟨c, hc, rc⟩ := rs.cell n a _ ha ec
      cases rc with
      | dK rk =>
        obtain ⟨ys, hx, _⟩ := st.ok a _ (lookup_mem hc)
        exact .inl ⟨ys, .inl hx⟩
    · rename_i kvs ec
      obtain ⟨c, hc, rc⟩ := rs.cell n a _ ha ec
      cases rc with
      | dT rk =>
        obtain ⟨ys, hx, _⟩ := st.ok a _ (lookup_mem hc)
        exact .inr ⟨ys, .inl hx⟩
    · cases e
  · cases e
theorem em_dget2 (hd : EvX K κ td md) (hy : EvX K κ ty my) (hx : EvX K κ tx mx) : EvX K κ (tDGet2X K td ty tx) (mDGet2 md my mx) := fun ρ G S E T z S' rg rs h => by
  obtain ⟨x, S1, e1, h⟩ := Res.bind_eq h
  split at h
  · rename_i hi
    obtain ⟨k, S2, e2, h⟩ := Res.bind_eq h
    obtain ⟨w, S3, e3, h⟩ := Res.bind_eq h
    split at h
    · rename_i o eg
      cases h
      refine fun σ H eo Q q => hd ρ G S E T x S1 rg rs e1 σ H eo _ fun d1 T1 v1 H1 ⟨ρ1, g1, r1⟩ s1 p1 => ?_
      obtain ⟨a1, ev1, id1⟩ := isDX_ok g1.rst s1.st ⟨d1, r1, p1⟩ hi
      refine ⟨a1, ev1, id1, hy ρ1 G S1 E T1 k S2 (rg.mono g1.pre) g1.rst e2 σ H1 (eo.step s1) _ fun d2 T2 v2 H2 ⟨ρ2, g2, r2⟩ s2 p2 => hx ρ2 G S2 E T2 w _ (rg.mono (g1.trans g2).pre) g2.rst e3 σ H2 ((eo.step s1).step s2) _ fun d3 T3 v3 H3 ⟨ρ3, g3, r3⟩ s3 p3 => ?_⟩
      have g23 := g2.trans g3
      have s23 := s2.trans s3
      obtain ⟨a, r, ev, g, ho⟩ := dgX_ok g3.rst s3.st (RV.lift g23.pre s23.lft ⟨d1, r1, p1⟩) (RV.lift g3.pre s3.lft ⟨d2, r2, p2⟩) eg
      rw [ev1] at ev
      cases ev
      refine ⟨r, g, ?_⟩
      rcases ho with ⟨x', v', ex, er, ⟨d4, a4, b4⟩⟩ | ⟨ex, er⟩
      · subst ex er
        exact q d4 T3 v' H3 ⟨ρ3, g1.trans g23, a4⟩ (s1.trans s23) b4
      · subst ex er
        exact q d3 T3 v3 H3 ⟨ρ3, g1.trans g23, r3⟩ (s1.trans s23) p3
    · cases h
  · cases h
end
end RX

set_option Elab.async false
set_option linter.all false
set_option maxRecDepth 100000
set_option maxHeartbeats 4000000
namespace RX
open PySem PySem.Spec PyProof.Rows L2 RS
/-! ### comprehensions of dicts, keys ints or texts -/
def dcX (g : Dt → Xe → Xs → Res Xe) (tt : Mt) (k v : Me) (n : Nat) (G : Xe) : List Dt → Xs → Res Unit
  | [], S => .ok () S
  | x :: xs, S => (g x G S).bind fun G1 S1 => (tt G1 S1).bind fun c S2 => if c = true then (k G1 S2).bind fun kx S3 => (v G1 S3).bind fun y S4 => (match S4[n]? with
      | some (.dK kvs) => (match keyD kx with | some j => if kvs.length < 100000 then dcX g tt k v n G xs (S4.set n (.dK (putKX kvs j y))) else .bad | none => .bad)
      | _ => .bad) else dcX g tt k v n G xs S2
def mDc (w : Ma) (g : Dt → Xe → Xs → Res Xe) (tt : Mt) (k v : Me) (vs : List Nat) : Me := fun G S => (w G S).bind fun xs S1 => if xs.length ≤ 100000 then (dcX g tt k v S1.length (wipeX G vs) xs (S1 ++ [.dK []])).bind fun _ S2 => .ok (.loc S1.length) S2 else .bad
section
variable {K : PySem.W.Frag} {κ : Nat → Addr}
theorem em_dc {wi : TI} {mw : Ma} {g : TG} {mg : Dt → Xe → Xs → Res Xe} {tt : TT} {mt : Mt} {tk tv : TE} {mk mv : Me} {vs : List Nat} (wo : WipeOk g vs) (hw : ItX K κ wi mw) (hg : TgX K κ g mg) (ht : TsX K κ tt mt) (hk : EvX K κ tk mk) (hv : EvX K κ tv mv) : EvX K κ (tDc wi g tt tk tv vs) (mDc mw mg mt mk mv vs) := fun ρ G S E T z S' rg rs h => by
  obtain ⟨xs, S1, e1, h⟩ := Res.bind_eq h
  split at h
  case isFalse => cases h
  rename_i hlen
  obtain ⟨⟨⟩, S2, e2, h⟩ := Res.bind_eq h
  cases h
  refine fun σ H eo Q q => hw ρ G S E T xs S1 rg rs e1 σ H eo _ fun its T1 J H1 ⟨ρ1, g1, ri⟩ s1 ir => fun D hD => ?_
  have nd1 : ¬ dom T1 D := s1.st.nodom hD
  obtain ⟨gn, hidx⟩ := Go.new g1.rst nd1 (.dK (xs := []) (ds := []) .nil)
  have sn : Step K T1 H1 ((D, .dK []) :: T1) (upd H1 D (.dK [])) := .cell s1.st hD ⟨[], upd_same, .nil⟩
  have hl2 : its.length ≤ 100000 := ri.length ▸ hlen
  refine ⟨fun i m H' => m = its.length - i ∧ i ≤ its.length ∧ ∃ ρ' S3 T', Go κ ρ1 T1 ρ' S3 T' ∧ (ρ1 ++ [D]) <+: ρ' ∧ Step K T1 H1 T' H' ∧ dcX mg mt mk mv S1.length (wipeX G vs) (xs.drop i) S3 = .ok () S',
    ⟨its.length, by simp, Nat.zero_le _, ρ1 ++ [D], S1 ++ [Xc.dK []], _, gn, List.prefix_rfl, sn, (show dcX mg mt mk mv S1.length (wipeX G vs) (xs.drop 0) (S1 ++ [Xc.dK []]) = .ok () S' from e2)⟩, ?_⟩
  rintro i m H' ⟨rfl, hi, ρ', S3, T', gg, hp, ss, hx⟩
  obtain ⟨hgo, hstop⟩ := ir H' (dom T') ss.lft (fun a d => ss.st.there d)
  by_cases hlt : i < its.length
  · obtain ⟨x, hxx, rx⟩ := ri.getD (List.getElem?_eq_getElem hlt)
    have hd : xs.drop i = x :: xs.drop (i + 1) := by
      obtain ⟨hlt, e⟩ := List.getElem?_eq_some_iff.mp hxx
      rw [← e]
      exact List.drop_eq_getElem_cons hlt
    rw [hd] at hx
    obtain ⟨G3, S4, e3, hx⟩ := Res.bind_eq hx
    obtain ⟨c, S5, e4, hx⟩ := Res.bind_eq hx
    obtain ⟨k1, k2⟩ := hgo i its[i] (List.getElem?_eq_getElem hlt)
    refine .inr ⟨k1, fun H3 => ∃ ρ' S3 T', Go κ ρ1 T1 ρ' S3 T' ∧ (ρ1 ++ [D]) <+: ρ' ∧ Step K T1 H1 T' H3 ∧ dcX mg mt mk mv S1.length (wipeX G vs) (xs.drop (i + 1)) S3 = .ok () S', fun H3 zz => ⟨its.length - (i + 1), by omega, rfl, hlt, zz⟩, fun vx H3 hyl => ?_⟩
    obtain ⟨k3, r3⟩ := k2 vx H3 hyl
    have s3 : Step K T' H' T' H3 := .ext ss.st k3
    have e3' : EnvOk K T' H3 (L2.wipe σ vs) (wipeG E vs) := ⟨s3.st, ((eo.step s1).step (ss.trans s3)).env.wipe vs⟩
    have rg3 : RG κ ρ' (wipeX G vs) (wipeG E vs) := (rg.wipe vs).mono (g1.pre.trans gg.pre)
    have tg := hg ρ' x its[i] (wipeX G vs) S3 (wipeG E vs) T' G3 S4 (rx.mono gg.pre) rg3 gg.rst e3 (L2.wipe σ vs) H3 vx e3' r3
    refine wo vx (L2.wipe σ vs) H3 _ _ (fun σ2 H2 ew ⟨E2, T2, ρ2, eo2, st2, g2, rg2⟩ => ?_) (tg (fun σ2 H2 => ∃ E2 T2 ρ2, EnvOk K T2 H2 σ2 E2 ∧ Step K T' H3 T2 H2 ∧ Go κ ρ' T' ρ2 S4 T2 ∧ RG κ ρ2 G3 E2) fun E2 T2 σ2 H2 ⟨ρ2, g2, rg2⟩ s e => ⟨E2, T2, ρ2, e, s, g2, rg2⟩)
    rw [wipe_wipe] at ew
    refine ⟨ew, ht ρ2 G3 S4 E2 T2 c S5 rg2 g2.rst e4 σ2 H2 eo2 _ fun b T4 H4 ⟨eb, ρ4, g4⟩ s4 => ?_⟩
    subst eb
    have gA := (gg.trans g2).trans g4
    have sA := ((ss.trans s3).trans st2).trans s4
    cases b with
    | true =>
      rw [if_pos rfl] at hx ⊢
      obtain ⟨kx, S6, e5, hx⟩ := Res.bind_eq hx
      obtain ⟨y, S7, e6, hx⟩ := Res.bind_eq hx
      refine hk ρ4 G3 S5 E2 T4 kx S6 (rg2.mono g4.pre) g4.rst e5 σ2 H4 (eo2.step s4) _ fun dk T5 vk H5 ⟨ρ5, g5, rk⟩ s5 pk => hv ρ5 G3 S6 E2 T5 y S7 (rg2.mono (g4.trans g5).pre) g5.rst e6 σ2 H5 ((eo2.step s4).step s5) _ fun dy T6 vy H6 ⟨ρ6, g6, ry⟩ s6 py => ?_
      have gB := (gA.trans g5).trans g6
      have sB := (sA.trans s5).trans s6
      have hidx6 : ρ6[S1.length]? = some D := pre_get ((((hp.trans g2.pre).trans g4.pre).trans g5.pre).trans g6.pre) hidx
      split at hx
      · rename_i kvs ec
        split at hx
        · rename_i j ej
          split at hx
          · rename_i hsz
            obtain ⟨cl, hcl, rc⟩ := gB.rst.cell S1.length D _ hidx6 ec
            cases rc with
            | dK rkk =>
              obtain ⟨ys, hH, rp⟩ := sB.st.ok D _ (lookup_mem hcl)
              refine ⟨ys, j, keyD_ok ej (RV.lift g6.pre s6.lft ⟨dk, rk, pk⟩), hH, ?_, ρ6, _, _, gB.trans (Go.put gB.rst hidx6 (.dK (rkk.put j ry))), (((hp.trans g2.pre).trans g4.pre).trans g5.pre).trans g6.pre, sB.trans (.put sB.st hcl ⟨_, upd_same, (rp.put j py).lift (Lift.put hcl)⟩), hx⟩
              rw [rp.length, ← rkk.length]
              exact Nat.lt_of_lt_of_le hsz (by decide)
          · cases hx
        · cases hx
      · cases hx
    | false =>
      rw [if_neg Bool.false_ne_true] at hx ⊢
      exact ⟨ρ4, S5, T4, gA, (hp.trans g2.pre).trans g4.pre, sA, hx⟩
  · have ei : i = its.length := by omega
    subst ei
    refine .inl ⟨hstop, ?_⟩
    rw [← ri.length, List.drop_length] at hx
    cases hx
    exact q _ _ _ _ ⟨ρ', g1.trans gg, .loc (pre_get hp hidx)⟩ (s1.trans ss) (.ref D)
/-! ### {} -/
def mDNewK : Me := fun _ S => .ok (.loc S.length) (S ++ [.dK []])
def mDNewT : Me := fun _ S => .ok (.loc S.length) (S ++ [.dT []])
theorem em_dnewK : EvX K κ tDNewK mDNewK := fun ρ G S E T z S' rg rs h => by
  cases h
  refine fun σ H eo Q q p hp => ?_
  obtain ⟨gn, hidx⟩ := Go.new rs (eo.st.nodom hp) (.dK (xs := []) (ds := []) .nil)
  exact q _ _ _ _ ⟨_, gn, .loc hidx⟩ (.cell eo.st hp ⟨[], upd_same, .nil⟩) (.ref p)
theorem em_dnewT : EvX K κ tDNewT mDNewT := fun ρ G S E T z S' rg rs h => by
  cases h
  refine fun σ H eo Q q p hp => ?_
  obtain ⟨gn, hidx⟩ := Go.new rs (eo.st.nodom hp) (.dT (xs := []) (ds := []) .nil)
  exact q _ _ _ _ ⟨_, gn, .loc hidx⟩ (.cell eo.st hp ⟨[], upd_same, .nil⟩) (.ref p)
/-! ### d[k] = v, k an int or a text -/
def sDPutX (d y v : Me) : Ms := fun G S => (v G S).bind fun w S1 => (d G S1).bind fun x S2 => (y G S2).bind fun k S3 => match x with
  | .loc n => (match S3[n]? with | some (.dK kvs) => (match keyD k with | some j => if kvs.length < 100000 then .ok (.nx G) (S3.set n (.dK (putKX kvs j w))) else .bad | none => .bad) | _ => .bad)
  | _ => .bad
theorem st_dput {td ty tv : TE} {md my mv : Me} (hd : EvX K κ td md) (hy : EvX K κ ty my) (hv : EvX K κ tv mv) : StX K κ (sDPut td ty tv) (sDPutX md my mv) := fun ρ G S E T r S' rg rs h => by
  obtain ⟨w, S1, e1, h1⟩ := Res.bind_eq h
  clear h
  obtain ⟨x, S2, e2, h2⟩ := Res.bind_eq h1
  clear h1
  obtain ⟨k, S3, e3, h⟩ := Res.bind_eq h2
  clear h2
  split at h
  · rename_i n
    split at h
    · rename_i kvs ec
      split at h
      · rename_i j ej
        split at h
        · rename_i hsz
          cases h
          refine fun σ H D eo fi => hv ρ G S E T w S1 rg rs e1 σ H eo _ fun d1 T1 v1 H1 ⟨ρ1, g1, r1⟩ s1 p1 => hd ρ1 G S1 E T1 _ S2 (rg.mono g1.pre) g1.rst e2 σ H1 (eo.step s1) _ fun d2 T2 v2 H2 ⟨ρ2, g2, r2⟩ s2 p2 => hy ρ2 G S2 E T2 k S3 (rg.mono (g1.trans g2).pre) g2.rst e3 σ H2 ((eo.step s1).step s2) _ fun d3 T3 v3 H3 ⟨ρ3, g3, r3⟩ s3 p3 => ?_
          obtain ⟨a, rfl, ha⟩ := r2.locD
          have ev := p2.refV
          subst ev
          have ha3 := pre_get g3.pre ha
          have g123 := (g1.trans g2).trans g3
          have s123 := (s1.trans s2).trans s3
          obtain ⟨cl, hcl, rc⟩ := g3.rst.cell n a _ ha3 ec
          cases rc with
          | dK rk =>
            obtain ⟨ys, hH, rp⟩ := s3.st.ok a _ (lookup_mem hcl)
            obtain ⟨dw, rw1, rw2⟩ := RV.lift (g2.trans g3).pre (s2.trans s3).lft ⟨d1, r1, p1⟩
            refine ⟨a, _, rfl, .inl ⟨ys, j, hH, keyD_ok ej ⟨d3, r3, p3⟩, ?_, rfl⟩, ?_⟩
            · rw [rp.length, ← rk.length]
              exact Nat.lt_of_lt_of_le hsz (by decide)
            · have sp : Step K T3 H3 (setC T3 a (.dK (putKX _ j dw))) (upd H3 a (.dK (putK ys j v1))) := .put s3.st hcl ⟨_, upd_same, (rp.put j rw2).lift (Lift.put hcl)⟩
              refine fi.nx E _ _ _ ⟨G, ρ3, rfl, g123.trans (Go.put g3.rst ha3 (.dK (rk.put j rw1))), rg.mono g123.pre⟩ (s123.trans sp) ?_
              exact (eo.step s123).step sp
        · cases h
      · cases h
    · cases h
  · cases h
end
end RX

set_option Elab.async false
set_option linter.all false
set_option maxRecDepth 100000
set_option maxHeartbeats 4000000
/-! Own operators, membership, properties, attributes as targets. -/
namespace RX
open PySem PySem.Spec PyProof.Rows L2 RS
/-! ### o.f as a target -/
def gFld (K : PySem.W.Frag) (ta : TE) (f : Str) : TG := fun v σ H Q => ta σ H fun x H2 => ∃ a C dx fs, x = V.ref a ∧ H2 a = some (.ins C dx fs) ∧ Cls K C ∧ NoAttr K C f ∧ fs.length < 1000 ∧ Q σ (upd H2 a (.ins C dx (putF f v fs)))
theorem pg_fld {X : Cx} (K : PySem.W.Frag) {o : Expr} {f : Str} {pos : Pos} {ta : TE} (ha : PE X o ta) (h : X.K = K := by rfl) : PG X (.Attribute o f pos) (gFld K ta f) := by
  subst h
  refine ⟨fun pins s σ H v u Q I r h => ?_⟩
  rw [assign_Attribute]
  refine wpAny_bind (wpAny_holding (thn (ha.run pins s σ H _ I h) fun ov s2 ⟨x, H2, I2, rx, a, C, dx, fs, ex, ea, c, n, l, q2⟩ => ?_))
  subst ex
  obtain rfl : ov = Value.ref a := rx
  refine wpAny_bind (wpAny_standAt (wpAny_bind (wpAny_holding (setattr_ok I2 ea c n l r fun s3 I3 => ?_))))
  exact wpAny_release ⟨σ, _, I3, q2⟩
def gFl (f : Str) (cs : List Nat) (o : Me) : Dt → Xe → Xs → Res Xe := fun y G S => (o G S).bind fun x S2 => match x with
  | .loc n => (match S2[n]? with | some (.ins c fs) => if (cs.contains c && decide (fs.length < 1000)) = true then .ok G (S2.set n (.ins c (putX f y fs))) else .bad | _ => .bad)
  | _ => .bad
section
variable {K : PySem.W.Frag} {κ : Nat → Addr}
theorem tgx_fld {f : Str} {cs : List Nat} {to : TE} {mo : Me} (hf : ∀ c ∈ cs, FldOk K (κ c) f) (ho : EvX K κ to mo) : TgX K κ (gFld K to f) (gFl f cs mo) := fun ρ y dy G S E T G' S' rd rg rs h => by
  obtain ⟨x, S2, e2, k⟩ := Res.bind_eq h
  clear h
  cases x with
  | loc n =>
    have h : (match S2[n]? with | some (.ins c fs) => if (cs.contains c && decide (fs.length < 1000)) = true then Res.ok G (S2.set n (.ins c (putX f y fs))) else .bad | _ => .bad) = .ok G' S' := k
    split at h
    · rename_i c fs ec
      split at h
      · rename_i hc
        rw [Bool.and_eq_true] at hc
        cases h
        refine fun σ H v eo rv Q q => ho ρ G S E T _ S2 rg rs e2 σ H eo _ fun dx T2 vo H2 ⟨ρ2, g2, rx⟩ s2 r2 => ?_
        obtain ⟨a, rfl, ha⟩ := rx.locD
        have ev := r2.refV
        subst ev
        obtain ⟨cl, hcl, rc⟩ := g2.rst.cell n a _ ha ec
        cases rc with
        | @ins _ _ gs rf =>
          obtain ⟨dd, vs, hH, rp⟩ := s2.st.ok a _ (lookup_mem hcl)
          have fo := hf c (List.contains_iff_mem.mp hc.1)
          have rv2 := rv.lift s2.lft
          have sp : Step K T2 H2 (setC T2 a (.ins (κ c) (putD f dy gs))) (upd H2 a (.ins (κ c) dd (putF f v vs))) := .put s2.st hcl ⟨dd, _, upd_same, (rp.put rv2).lift (Lift.put hcl)⟩
          refine ⟨a, κ c, dd, vs, rfl, hH, fo.cl, fo.no, ?_, q E _ σ _ ⟨ρ2, g2.trans (Go.put g2.rst ha (.ins (rf.put (rd.mono g2.pre)))), rg.mono g2.pre⟩ (s2.trans sp) ((eo.step s2).step sp)⟩
          rw [rp.length, ← rf.length]
          exact of_decide_eq_true hc.2
      · cases h
    · cases h
  | _ => cases k
end
/-! ### binary operators of own classes, both sides of the class -/
section
variable {P : Program} {w : World} {K : PySem.W.Frag} {κ : Nat → Addr} {mg : Str → Option Value} {base : Heap} {X : Cx}
def rBinO (K : PySem.W.Frag) (C : Addr) (g : SpG) : R2 := fun x y H Q => ∃ a dx fs, x = .ref a ∧ H a = some (.ins C dx fs) ∧ TyX K H y (.ref C) ∧ spOf K g [x, y] H Q E0
theorem op_binO {op : Operator} {C : Addr} {k : Nat} {g : SpG} (c : Spm X.prog X.w X.K X.mg X.base C (PySem.dunder op.info.2) k g) (hc : PySem.W.selfFirst X.K C = true) (hr : Room k X.A) (hG : Gd X.A) : OpR X (binaryOp op) (rBinO X.K C g) := by
  intro pins s σ H x y v u Q I rx ry h
  obtain ⟨a, dx, fs, rfl, ha, ty, h⟩ := h
  cases rx
  obtain ⟨f, fd, ps, h1, h2, h3, h4, h5, h6⟩ := c.ex
  obtain ⟨ox, od, J, _⟩ := inst_at I ha
  obtain ⟨m, hF⟩ := I.fr
  refine PySem.W.binop_K hF I.ok.mod.kin J (typ_of I ry ty _) hc h1 h2 ?_
  refine wpAny_mono (run_sub (vs := [V.ref a, y]) h5 ⟨hr, rfl⟩ hG h6 I (.cons (show RelV (V.ref a) (Value.ref a) from rfl) (.cons ry .nil)) h) (fun r s' q => ?_) fun _ _ z => z
  obtain ⟨z, H', I', rz, q⟩ := q
  exact not_ni rz ⟨z, H', I', rz, q⟩
def rBinL (K : PySem.W.Frag) (κ : Nat → Addr) (L : List (Nat × Mf)) (r : R2) : R2 := fun x y H Q => r x y H Q ∨ ∃ p ∈ L, rBinO K (κ p.1) (spX κ p.2) x y H Q
theorem op_binL {op : Operator} {nm : Str} {k : Nat} (K : PySem.W.Frag) {L : List (Nat × Mf)} {r : R2} (c : ∀ p ∈ L, Sx P w K κ mg base p.1 nm k p.2) (hsf : ∀ p ∈ L, PySem.W.selfFirst K (κ p.1) = true) (hr : Room k X.A) (hG : Gd X.A) (h0 : OpR X (binaryOp op) r) (hn : PySem.dunder op.info.2 = nm := by rfl)
    (h : X.K = K := by rfl) (h1 : X.prog = P := by rfl) (h2 : X.w = w := by rfl) (h3 : X.mg = mg := by rfl) (h4 : X.base = base := by rfl) : OpR X (binaryOp op) (rBinL K κ L r) := by
  subst h h1 h2 h3 h4 hn
  intro pins s σ H x y u v Q I rx ry hq
  rcases hq with hq | ⟨p, hp, hq⟩
  · exact h0 pins s σ H x y u v Q I rx ry hq
  · exact op_binO (c p hp) (hsf p hp) hr hG pins s σ H x y u v Q I rx ry hq
def xOwnB (L : List (Nat × Mf)) (f : Dt → Dt → Xs → Res Dt) : Dt → Dt → Xs → Res Dt := fun x y S => match insX S x with
  | some (c, _) => (match findM c L with | some m => (match insX S y with | some (c', _) => if c' = c then m [x, y] S else .bad | none => .bad) | none => .bad)
  | none => f x y S
theorem ox_ownB {n : Nat} {L : List (Nat × Mf)} {r : R2} {f : Dt → Dt → Xs → Res Dt} (O : Ow K κ n) (hL : ∀ p ∈ L, p.1 < n) (h0 : OpX K κ r f) : OpX K κ (rBinL K κ L r) (xOwnB L f) := ox_of fun ρ S T H vx vy x y z S' rs st rx ry e Q q => by
  unfold xOwnB at e
  split at e
  · rename_i c fs ei
    split at e
    · rename_i m em
      split at e
      · rename_i c' fs' ej
        split at e
        · rename_i hcc
          subst hcc
          obtain ⟨a, dx, gs, ev, ha, _⟩ := rx.ins rs st ei
          have hm := findM_mem em
          exact .inr ⟨_, hm, a, dx, gs, ev, ha, ins_ty O (hL _ hm) rs st ry ej, sp_own rs st (.cons rx (.cons ry .nil)) e q⟩
        · cases e
      · cases e
    · cases e
  · obtain ⟨dx, a1, b1⟩ := rx
    obtain ⟨dy, a2, b2⟩ := ry
    exact .inl (h0 ρ S T x y dx dy z S' rs a1 a2 e H vx vy st b1 b2 Q fun d T' v H' ⟨ρ', g, r⟩ s p => q ρ' T' v H' g s ⟨d, r, p⟩)
/-! ### comparisons by own methods (<, <=, >, >=) -/
theorem op_cmpL {op : CmpOp} {nm : Str} {k : Nat} (K : PySem.W.Frag) {L : List (Nat × Mf)} {r : R2} (c : ∀ p ∈ L, Sx P w K κ mg base p.1 nm k p.2) (hr : Room k X.A) (hG : Gd X.A) (h0 : OpR X (compareOp op) r) (hop : ∀ v u, compareOp op v u = richCompare op v u := by intro _ _; rfl) (hn : (cmpInfo op).2.1 = nm := by rfl)
    (h : X.K = K := by rfl) (h1 : X.prog = P := by rfl) (h2 : X.w = w := by rfl) (h3 : X.mg = mg := by rfl) (h4 : X.base = base := by rfl) : OpR X (compareOp op) (rCmpL K κ L r) := by
  subst h h1 h2 h3 h4 hn
  intro pins s σ H x y v u Q I rx ry hq
  rcases hq with hq | ⟨p, hp, hq⟩
  · exact h0 pins s σ H x y v u Q I rx ry hq
  · rw [hop]
    exact rc_own (op := op) (c p hp) ⟨hr, rfl⟩ hG I rx ry hq
/-! ### ~x -/
def rUnO (K : PySem.W.Frag) (C : Addr) (g : SpG) : V → Hp → VK → Prop := fun x H Q => ∃ a dx fs, x = .ref a ∧ H a = some (.ins C dx fs) ∧ spOf K g [x] H Q E0
def rUnL (K : PySem.W.Frag) (κ : Nat → Addr) (L : List (Nat × Mf)) (r : V → Hp → VK → Prop) : V → Hp → VK → Prop := fun x H Q => r x H Q ∨ ∃ p ∈ L, rUnO K (κ p.1) (spX κ p.2) x H Q
theorem un_invL {k : Nat} (K : PySem.W.Frag) {L : List (Nat × Mf)} {r : V → Hp → VK → Prop} (c : ∀ p ∈ L, Sx P w K κ mg base p.1 "__invert__" k p.2) (hr : Room k X.A) (hG : Gd X.A) (h0 : UnR X (unaryOp .Invert) r)
    (h : X.K = K := by rfl) (h1 : X.prog = P := by rfl) (h2 : X.w = w := by rfl) (h3 : X.mg = mg := by rfl) (h4 : X.base = base := by rfl) : UnR X (unaryOp .Invert) (rUnL K κ L r) := by
  subst h h1 h2 h3 h4
  intro pins s σ H x v Q I rx hq
  rcases hq with hq | ⟨p, hp, a, dx, fs, rfl, ha, hq⟩
  · exact h0 pins s σ H x v Q I rx hq
  · cases rx
    obtain ⟨f, fd, ps, h1, h2, h3, h4, h5, h6⟩ := (c p hp).ex
    obtain ⟨ox, od, J, _⟩ := inst_at I ha
    obtain ⟨m, hF⟩ := I.fr
    exact PySem.W.ksp_inv hF I.ok.mod.kin J h1 h2 (run_sub (vs := [V.ref a]) h5 ⟨hr, rfl⟩ hG h6 I (.cons (show RelV (V.ref a) (Value.ref a) from rfl) .nil) hq)
def xOwnU (L : List (Nat × Mf)) (f : Dt → Xs → Res Dt) : Dt → Xs → Res Dt := fun x S => match insX S x with
  | some (c, _) => (match findM c L with | some m => m [x] S | none => .bad)
  | none => f x S
theorem ux_own {L : List (Nat × Mf)} {r : V → Hp → VK → Prop} {f : Dt → Xs → Res Dt} (h0 : UnX K κ r f) : UnX K κ (rUnL K κ L r) (xOwnU L f) := fun ρ S T x dx z S' rs rd e => fun H v st rp Q q => by
  unfold xOwnU at e
  split at e
  · rename_i c fs ei
    split at e
    · rename_i m em
      obtain ⟨a, dx', gs, ev, ha, _⟩ := RV.ins (K := K) rs st ⟨dx, rd, rp⟩ ei
      exact .inr ⟨_, findM_mem em, a, dx', gs, ev, ha, sp_own rs st (.cons ⟨dx, rd, rp⟩ .nil) e fun ρ' T' v' H' g s ⟨d, a1, b1⟩ => q d T' v' H' ⟨ρ', g, a1⟩ s b1⟩
    · cases e
  · exact .inl (h0 ρ S T x dx z S' rs rd e H v st rp Q q)
/-! ### x in o -/
def rInO (K : PySem.W.Frag) (C : Addr) (g : SpG) (neg : Bool) : R2 := fun x y H Q => ∃ a dx fs, y = .ref a ∧ H a = some (.ins C dx fs) ∧ spOf K g [y, x] H (fun v H' => ∃ b, v = .bl b ∧ Q (.bl (neg != b)) H') E0
def rInL (K : PySem.W.Frag) (κ : Nat → Addr) (L : List (Nat × Mf)) (neg : Bool) (r : R2) : R2 := fun x y H Q => r x y H Q ∨ ∃ p ∈ L, rInO K (κ p.1) (spX κ p.2) neg x y H Q
theorem op_inL {k : Nat} (K : PySem.W.Frag) {L : List (Nat × Mf)} {r : R2} (c : ∀ p ∈ L, Sx P w K κ mg base p.1 "__contains__" k p.2) (hr : Room k X.A) (hG : Gd X.A) (h0 : OpR X (compareOp .In) r)
    (h : X.K = K := by rfl) (h1 : X.prog = P := by rfl) (h2 : X.w = w := by rfl) (h3 : X.mg = mg := by rfl) (h4 : X.base = base := by rfl) : OpR X (compareOp .In) (rInL K κ L false r) := by
  subst h h1 h2 h3 h4
  intro pins s σ H x y v u Q I rx ry hq
  rcases hq with hq | ⟨p, hp, a, dx, fs, rfl, ha, hq⟩
  · exact h0 pins s σ H x y v u Q I rx ry hq
  · cases ry
    obtain ⟨f, fd, ps, h1, h2, h3, h4, h5, h6⟩ := (c p hp).ex
    obtain ⟨ox, od, J, _⟩ := inst_at I ha
    obtain ⟨m, hF⟩ := I.fr
    refine PySem.W.in_K hF I.ok.mod.kin J h1 h2 (wpAny_mono (run_sub (vs := [V.ref a, x]) h5 ⟨hr, rfl⟩ hG h6 I (.cons (show RelV (V.ref a) (Value.ref a) from rfl) (.cons rx .nil)) hq) (fun r s' hq' => ?_) fun _ _ z => z)
    obtain ⟨z, H', I', rz, b, ez, q⟩ := hq'
    subst ez
    obtain rfl : r = Value.bool b := rz
    refine wpAny_pure ⟨.bl b, H', I', rfl, ?_⟩
    simpa using q
theorem op_notInL {k : Nat} (K : PySem.W.Frag) {L : List (Nat × Mf)} {r : R2} (c : ∀ p ∈ L, Sx P w K κ mg base p.1 "__contains__" k p.2) (hr : Room k X.A) (hG : Gd X.A) (h0 : OpR X (compareOp .NotIn) r)
    (h : X.K = K := by rfl) (h1 : X.prog = P := by rfl) (h2 : X.w = w := by rfl) (h3 : X.mg = mg := by rfl) (h4 : X.base = base := by rfl) : OpR X (compareOp .NotIn) (rInL K κ L true r) := by
  subst h h1 h2 h3 h4
  intro pins s σ H x y v u Q I rx ry hq
  rcases hq with hq | ⟨p, hp, a, dx, fs, rfl, ha, hq⟩
  · exact h0 pins s σ H x y v u Q I rx ry hq
  · cases ry
    obtain ⟨f, fd, ps, h1, h2, h3, h4, h5, h6⟩ := (c p hp).ex
    obtain ⟨ox, od, J, _⟩ := inst_at I ha
    obtain ⟨m, hF⟩ := I.fr
    refine PySem.W.notIn_K hF I.ok.mod.kin J h1 h2 (wpAny_mono (run_sub (vs := [V.ref a, x]) h5 ⟨hr, rfl⟩ hG h6 I (.cons (show RelV (V.ref a) (Value.ref a) from rfl) (.cons rx .nil)) hq) (fun r s' hq' => ?_) fun _ _ z => z)
    obtain ⟨z, H', I', rz, b, ez, q⟩ := hq'
    subst ez
    obtain rfl : r = Value.bool b := rz
    refine wpAny_pure ⟨.bl (!b), H', I', rfl, ?_⟩
    simpa using q
def xOwnIn (neg : Bool) (L : List (Nat × Mf)) (f : Dt → Dt → Xs → Res Dt) : Dt → Dt → Xs → Res Dt := fun x y S => match insX S y with
  | some (c, _) => (match findM c L with | some m => (m [y, x] S).bind fun z S1 => (match z with | .bl b => .ok (.bl (neg != b)) S1 | _ => .bad) | none => .bad)
  | none => f x y S
theorem ox_ownIn {neg : Bool} {L : List (Nat × Mf)} {r : R2} {f : Dt → Dt → Xs → Res Dt} (h0 : OpX K κ r f) : OpX K κ (rInL K κ L neg r) (xOwnIn neg L f) := ox_of fun ρ S T H vx vy x y z S' rs st rx ry e Q q => by
  unfold xOwnIn at e
  split at e
  · rename_i c fs ei
    split at e
    · rename_i m em
      obtain ⟨w, S1, e1, e⟩ := Res.bind_eq e
      split at e
      · rename_i b
        cases e
        obtain ⟨a, dx, gs, ev, ha, _⟩ := ry.ins rs st ei
        exact .inr ⟨_, findM_mem em, a, dx, gs, ev, ha, sp_own rs st (.cons ry (.cons rx .nil)) e1 fun ρ' T' v H' g s rv => ⟨b, rv.blV, q ρ' T' _ H' g s (.bl _)⟩⟩
      · cases e
    · cases e
  · obtain ⟨dx, a1, b1⟩ := rx
    obtain ⟨dy, a2, b2⟩ := ry
    exact .inl (h0 ρ S T x y dx dy z S' rs a1 a2 e H vx vy st b1 b2 Q fun d T' v H' ⟨ρ', g, r⟩ s p => q ρ' T' v H' g s ⟨d, r, p⟩)
/-! ### properties -/
structure Px (P : Program) (w : World) (K : PySem.W.Frag) (κ : Nat → Addr) (mg : Str → Option Value) (base : Heap) (c : Nat) (f : Str) (k : Nat) (m : Mf) : Prop where
  ex : ∃ p g fd ps, Cls K (κ c) ∧ PropOf K (κ c) f p g ∧ FnA P w K mg base CX0 k g fd ps (spOf K (spX κ m)) ∧ Binds K fd ps []
def mProp (c : Nat) (m : Mf) (o : Me) : Me := fun G S => (o G S).bind fun x S1 => match insX S1 x with
  | some (c', _) => if c' = c then m [x] S1 else .bad
  | none => .bad
theorem px_prop {k c : Nat} {m : Mf} {f : Str} {o : Expr} {pos : Pos} {mo : Me} (cl : Px P w K κ mg base c f k m) (hr : Room (k + 1) X.A) (hG : Gd X.A) (ho : PEm X K κ o mo) (hab : attributeBase o f X.env (eval o X.env) = eval o X.env)
    (h : X.K = K := by rfl) (h1 : X.prog = P := by rfl) (h2 : X.w = w := by rfl) (h3 : X.mg = mg := by rfl) (h4 : X.base = base := by rfl) : PEm X K κ (.Attribute o f pos) (mProp c m mo) := by
  subst h h1 h2 h3 h4
  obtain ⟨p, g, fd, ps, c1, hp, F, hb⟩ := cl.ex
  refine pe_m (te := tProp (κ c) (spOf X.K (spX κ m)) [] E0 (teM X.K κ mo)) ⟨fun pins s σ H Q I h => ?_⟩ fun ρ G S En T z S' rg rs h => ?_
  · refine attr_of hab (thn (ho.run pins s σ H _ I h) fun u s1 ⟨x, H1, I1, rx, a, dx, fs, ex, ea, q⟩ => ?_)
    subst ex
    obtain rfl : u = Value.ref a := rx
    obtain ⟨mA, O, _, _, _, _⟩ := ins_get I1.hok ea
    obtain ⟨od, J, _⟩ := O.look
    obtain ⟨rest, hrec⟩ := hp.rec_
    have I2 := I1.tok (s1.toks + 1)
    have hc : (PySem.W.clsIn X.K (κ c)).isSome = true := by
      obtain ⟨cd, hc, _⟩ := PySem.W.any_some c1.hd
      rw [hc]
      rfl
    have sb : Sub X k X.A.in1 := Sub.in1 ⟨hr, rfl⟩
    have hG1 : Gd X.A.in1 := hG
    refine PySem.W.get_bind I1.kIn J (PySem.W.plainGet_of (c1.get f)).1 (PySem.W.findObj_data hc hp.at_ hp.get hp.tak) (PySem.W.plainGet_of (c1.get f)).2 (wpAny_call (PySem.W.prop_get (s := { s1 with toks := s1.toks + 1 }) I1.kIn hrec ?_))
    refine codeAny_mono (runA (us := [.ref a]) (vs := [.ref a]) F sb hG1 hb .nil I2 (.cons rfl .nil) q) fun r s' hq => ?_
    match r, hq with
    | .error e, hq => exact False.elim hq
    | .ok .next, hq => exact False.elim hq
    | .ok .brk, hq => exact False.elim hq
    | .ok .cont, hq => exact False.elim hq
    | .ok (.ret u), hq =>
      obtain ⟨v, H', I3, rv, q3⟩ := hq
      show wpAny _ _ (handedOut u) _ _ _
      rw [PySem.W.handedOut_of (handed_of rv)]
      exact wpAny_pure ⟨v, H', I3, rv, q3⟩
  · obtain ⟨x, S1, e1, k⟩ := Res.bind_eq h
    clear h
    split at k
    · rename_i c' fs ei
      split at k
      · rename_i hcc
        subst hcc
        refine fun σ H eo Q q => te_self ρ G S En T x S1 rg rs e1 σ H eo _ fun d T1 v H1 ⟨ρ1, g1, r⟩ s1 rp => ?_
        obtain ⟨a, dx, gs, ev, ha, _⟩ := RV.ins (K := X.K) g1.rst s1.st ⟨d, r, rp⟩ ei
        subst ev
        exact ⟨a, dx, gs, rfl, ha, sp_own g1.rst s1.st (.cons ⟨d, r, rp⟩ .nil) k fun ρ' T' v' H' g s ⟨d', a1, b1⟩ => q d' T' v' H' ⟨ρ', g1.trans g, a1⟩ (s1.trans s) b1⟩
      · cases k
    · cases k
end
end RX

set_option Elab.async false
set_option linter.all false
set_option maxRecDepth 100000
set_option maxHeartbeats 4000000
/-! What the top leaves: facts told by the head's run. -/
namespace RX
open PySem PySem.Spec PyProof.Rows L2 RS He
/-- the def behind a property, a classmethod -/
def recA (K : PySem.W.Frag) (C : Addr) (m : Str) (t : String) : Addr := match PySem.W.recIn K (ma K C m) t with | some (.ref g :: _) => g | _ => 0
structure DefA where
  adr : PySem.W.Frag → Addr
  name : Str
  qual : Str
  params : Arguments
  body : List Stmt
  scope : Scope
  dfl : List Dv := []
def DefA.val (d : DefA) : FnW := some (d.name, d.qual, d.params, .stmts d.body, d.scope, mainGlobals, [], builtinsNs)
def DefA.dvs (K : PySem.W.Frag) (d : DefA) : List V := d.dfl.map (Dv.v K)
def fnA' (K : PySem.W.Frag) (a : Addr) : FnW := match K.lookup a with | some ⟨_, _, .func fd, _⟩ => some (fd.name, fd.qualname, fd.params, fd.body, fd.scope, fd.globals, fd.closure, fd.builtins) | _ => none
def DefA.ok (K : PySem.W.Frag) (d : DefA) : Bool := PySem.W.keepIn K (.ref (d.adr K)) && (match K.lookup (d.adr K) with | some ⟨_, _, .func fd, _⟩ => PySem.W.codeIn K fd.code d.qual && (dflB K fd.defaults (d.dvs K) && kwdB K fd.kwdefaults []) | _ => false)
theorem DefA.funD {K : PySem.W.Frag} {d : DefA} (e : fnA' K (d.adr K) = d.val) (c : d.ok K = true) : ∃ fd, FunD K d.name d.qual d.params d.body d.scope (d.dvs K) [] (d.adr K) fd := by
  obtain ⟨kp, c2⟩ := ba c
  unfold fnA' at e
  cases q : K.lookup (d.adr K) with
  | none => rw [q] at c2; cases c2
  | some o =>
    obtain ⟨oc, od, dt, osl⟩ := o
    rw [q] at c2 e
    cases dt with
    | func fd =>
      obtain ⟨m1, m2, m3, m4, m5, m6, m7, m8, m9, m10, m11, m12, m13, m14, m15⟩ := fd
      have e2 : (some (m1, m2, m3, m4, m5, m6, m7, m15) : FnW) = d.val := e
      unfold DefA.val at e2
      simp only [Option.some.injEq, Prod.mk.injEq] at e2
      obtain ⟨h1, h2, h3, h4, h5, h6, h7, h8⟩ := e2
      subst h1 h2 h3 h4 h5 h6 h7 h8
      have c3 : (PySem.W.codeIn K m13 d.qual && (dflB K m8 (d.dvs K) && kwdB K m9 [])) = true := c2
      obtain ⟨k1, k2⟩ := ba c3
      obtain ⟨k3, k4⟩ := ba k2
      exact ⟨_, ⟨oc, od, m8, m9, m10, m11, m12, m13, m14, osl, rfl, q, k1, dflB_ok k3, kwdB_ok k4⟩, kp⟩
    | _ => cases c2
/-! ### constants -/
def kstB (K : PySem.W.Frag) (κ : Nat → Addr) : Nat → Value → Dt → Bool
  | 0, _, _ => false
  | n + 1, u, d => match u, d with
    | .none, .non => true
    | .bool b, .bl c => b == c
    | .int i _, .int j => decide (i = j)
    | .str x _, .str y => decide (x = y)
    | .ref a, .cls c => decide (a = κ c)
    | .ref a, .tup ds => (match K.lookup a with
      | some ⟨.type t, _, .seq its _, _⟩ => decide (t = "tuple") && (decide (its.size ≤ sizeLine) && (decide (its.toList.length = ds.length) && (its.toList.zip ds).all fun p => kstB K κ n p.1 p.2))
      | _ => false)
    | _, _ => false
theorem kstB_ok {K : PySem.W.Frag} {κ : Nat → Addr} : ∀ (n : Nat) {u : Value} {d : Dt}, kstB K κ n u d = true → ∃ v dd, RelV v u ∧ (∀ Z H, Rp K Z H v dd) ∧ ∀ ρ, RD κ ρ d dd := by
  intro n
  induction n with
  | zero => intro u d h; cases h
  | succ n ih =>
    have all : ∀ (us : List Value) (ds : List Dt), us.length = ds.length → ((us.zip ds).all fun p => kstB K κ n p.1 p.2) = true → ∃ vs dds, Vals vs us ∧ (∀ Z H, RpAll K Z H vs dds) ∧ ∀ ρ, RDs κ ρ ds dds := by
      intro us
      induction us with
      | nil => intro ds hl _; cases ds with
        | nil => exact ⟨[], [], .nil, fun _ _ => .nil, fun _ => .nil⟩
        | cons _ _ => cases hl
      | cons u us ih2 => intro ds hl h; cases ds with
        | nil => cases hl
        | cons d ds =>
          rw [List.zip_cons_cons, List.all_cons, Bool.and_eq_true] at h
          obtain ⟨v, dd, h1, h2, h3⟩ := ih h.1
          obtain ⟨vs, dds, h4, h5, h6⟩ := ih2 ds (Nat.succ.inj hl) h.2
          exact ⟨v :: vs, dd :: dds, .cons h1 h4, fun Z H => .cons (h2 Z H) (h5 Z H), fun ρ => .cons (h3 ρ) (h6 ρ)⟩
    intro u d h
    unfold kstB at h
    split at h
    · exact ⟨.non, .non, rfl, fun _ _ => .non, fun _ => .non⟩
    · rename_i b c
      rw [beq_iff_eq.mp h]
      exact ⟨.bl c, .bl c, rfl, fun _ _ => .bl c, fun _ => .bl c⟩
    · rename_i i t j
      rw [of_decide_eq_true h]
      exact ⟨.int j, .int j, ⟨t, rfl⟩, fun _ _ => .int j, fun _ => .int j⟩
    · rename_i x t y
      rw [of_decide_eq_true h]
      exact ⟨.str y, .str y, ⟨t, rfl⟩, fun _ _ => .str y, fun _ => .str y⟩
    · rename_i a c
      rw [of_decide_eq_true h]
      exact ⟨.ref (κ c), .ref (κ c), rfl, fun _ _ => .ref _, fun _ => .cls c⟩
    · rename_i a ds
      split at h
      · rename_i t od its sz sl hk
        obtain ⟨h1, h⟩ := ba h
        obtain ⟨h2, h⟩ := ba h
        obtain ⟨h3, h4⟩ := ba h
        obtain ⟨vs, dds, q1, q2, q3⟩ := all _ _ (of_decide_eq_true h3) h4
        have ht := of_decide_eq_true h1
        subst ht
        exact ⟨.ref a, .tup dds, rfl, fun Z H => .tupK ⟨_, its, sz, hk, rfl, rfl, of_decide_eq_true h2, q1⟩ (q2 Z H), fun ρ => .tup (q3 ρ)⟩
      · cases h
    · cases h
/-! ### facts -/
structure Ow2 (K : PySem.W.Frag) (κ : Nat → Addr) (n : Nat) : Prop where
  ne : ∀ i, i < n → PySem.W.findIn K (.ref (κ i)) "__ne__" = some (some (.builtin "object.__ne__")) ∧ PySem.W.mroIn K (κ i) (.type "object") = some true
  fm : ∀ i, i < n → PySem.W.findIn K (.ref (κ i)) "__format__" = some (some (.builtin "object.__format__")) ∧ PySem.W.mroIn K (κ i) (.type "object") = some true
  sf : ∀ i, i < n → PySem.W.selfFirst K (κ i) = true
def clsB (K : PySem.W.Frag) (C : Addr) : Bool := PySem.W.plainGet K C Str.empty && (PySem.W.hasDictIn K C && (PySem.W.plainOver K C && eqO (PySem.W.findIn K (.ref C) "__setattr__") (some (some (.builtin "object.__setattr__")))))
theorem clsB_ok {K : PySem.W.Frag} {C : Addr} (h : clsB K C = true) : Cls K C := by
  obtain ⟨c1, h⟩ := ba h
  obtain ⟨c2, h⟩ := ba h
  obtain ⟨c3, c4⟩ := ba h
  exact ⟨c1, c2, c3, eqO_ok c4⟩
def ownB (K : PySem.W.Frag) (C : Addr) : Bool := clsB K C && (eqO (PySem.W.findIn K (.ref C) "__class__") (some (some (.builtin "object.__class__"))) && (eqO (PySem.W.specialIn K (.builtin "object.__class__") "__get__") (some (some (.builtin "getset_descriptor.__get__"))) && (decide (PySem.W.takesIn K (.builtin "object.__class__") = some true) && decide (PySem.W.mroIn K C (.type "object") = some true))))
theorem ownB_ok {K : PySem.W.Frag} {C : Addr} (h : ownB K C = true) : OwnC K C := by
  obtain ⟨c1, h⟩ := ba h
  obtain ⟨c2, h⟩ := ba h
  obtain ⟨c3, h⟩ := ba h
  obtain ⟨c4, c5⟩ := ba h
  exact ⟨clsB_ok c1, eqO_ok c2, eqO_ok c3, of_decide_eq_true c4, of_decide_eq_true c5⟩
def own2B (K : PySem.W.Frag) (C : Addr) : Bool := eqO (PySem.W.findIn K (.ref C) "__ne__") (some (some (.builtin "object.__ne__"))) && (eqO (PySem.W.findIn K (.ref C) "__format__") (some (some (.builtin "object.__format__"))) && PySem.W.selfFirst K C)
def owB (K : PySem.W.Frag) (κ : Nat → Addr) (n : Nat) : Bool := (List.range n).all fun i => (ownB K (κ i) && own2B K (κ i)) && (((List.range n).all fun j => decide (PySem.W.kitOne K (.ref (κ i)) (.ref (κ j)) = some (decide (i = j))) && PySem.W.notFirst K (κ i) (.ref (κ j))) &&
  tyL.all fun t => decide (PySem.W.kitOne K (.type t) (.ref (κ i)) = some false) && (decide (PySem.W.kitOne K (.ref (κ i)) (.type t) = some false) && PySem.W.notFirst K (κ i) (.type t)))
theorem owB_ok {K : PySem.W.Frag} {κ : Nat → Addr} {n : Nat} (h : owB K κ n = true) : Ow K κ n ∧ Ow2 K κ n := by
  have key : ∀ i, i < n → _ := fun i hi => ba (List.all_eq_true.mp h i (List.mem_range.mpr hi))
  have k1 : ∀ i, i < n → OwnC K (κ i) := fun i hi => ownB_ok (ba (key i hi).1).1
  have k2 : ∀ i, i < n → _ := fun i hi => ba (ba (key i hi).1).2
  have k3 : ∀ i j, i < n → j < n → _ := fun i j hi hj => ba (List.all_eq_true.mp (ba (key i hi).2).1 j (List.mem_range.mpr hj))
  have k4 : ∀ i, i < n → ∀ t ∈ tyL, _ := fun i hi t ht => ba (List.all_eq_true.mp (ba (key i hi).2).2 t ht)
  exact ⟨⟨k1, fun i j hi hj => of_decide_eq_true (k3 i j hi hj).1, fun t ht j hj => of_decide_eq_true (k4 j hj t ht).1, fun i hi t ht => of_decide_eq_true (ba (k4 i hi t ht).2).1, fun i j hi hj => (k3 i j hi hj).2, fun i hi t ht => (ba (k4 i hi t ht).2).2⟩,
    ⟨fun i hi => ⟨eqO_ok (k2 i hi).1, (k1 i hi).hm⟩, fun i hi => ⟨eqO_ok (ba (k2 i hi).2).1, (k1 i hi).hm⟩, fun i hi => (ba (k2 i hi).2).2⟩⟩
inductive Fx where
  | glo (x : Str) | free (x : Str) | fld (cs : List Nat) (f : Str) | meth (c : Nat) (m : Str) | mkr (c : Nat) | prop (c : Nat) (f : Str) | cmet (c : Nat) (m : Str) | kst (x : Str) (d : Dt) | dfl (p : Str × Option Str) (i : Nat) (d : Dt) | ow (n : Nat)
def methB (K : PySem.W.Frag) (C : Addr) (m : Str) : Bool := eqO (PySem.W.findIn K (.ref C) m) (some (some (.ref (ma K C m)))) && (PySem.W.isFn K (.ref (ma K C m)) && (PySem.W.fnIn K (ma K C m) && PySem.W.keepIn K (.ref (ma K C m))))
def mkrB (K : PySem.W.Frag) (C : Addr) : Bool := PySem.W.makesIn K C && (eqO (PySem.W.findIn K (.ref C) "__init__") (some (some (.ref (ma K C "__init__")))) && (PySem.W.isFn K (.ref (ma K C "__init__")) && PySem.W.keepIn K (.ref C)))
def recB (K : PySem.W.Frag) (p : Addr) (t : String) : Bool := match PySem.W.recIn K p t with | some (.ref _ :: _) => true | _ => false
def propB (K : PySem.W.Frag) (C : Addr) (f : Str) : Bool := eqO (PySem.W.findIn K (.ref C) f) (some (some (.ref (ma K C f)))) && (eqO (PySem.W.specialIn K (.ref (ma K C f)) "__get__") (some (some (.builtin "property.__get__"))) && (decide (PySem.W.takesIn K (.ref (ma K C f)) = some true) && recB K (ma K C f) "property"))
def cmetB (K : PySem.W.Frag) (C : Addr) (m : Str) : Bool := PySem.W.readsIn K C (.type "type") && (eqO (PySem.W.specialIn K (.ref C) "__getattribute__") (some (some (.builtin "type.__getattribute__"))) && ((match PySem.W.findCls K (.ref C) (.type "type") m with | some (.get (.builtin b) (.ref p) .none (.ref C')) => decide (b = "classmethod.__get__") && (decide (p = ma K C m) && decide (C' = C)) | _ => false) && (recB K (ma K C m) "classmethod" && PySem.W.fnIn K (recA K C m "classmethod"))))
def Fx.ok (K : PySem.W.Frag) (κ : Nat → Addr) : Fx → Bool
  | .glo x => eqO (PySem.W.nsIn K mainGlobals x) (some (some (.ref (ga K x))))
  | .free x => eqO (PySem.W.nsIn K mainGlobals x) (some none)
  | .fld cs f => cs.all fun c => clsB K (κ c) && eqO (PySem.W.findIn K (.ref (κ c)) f) (some none)
  | .meth c m => clsB K (κ c) && methB K (κ c) m
  | .mkr c => mkrB K (κ c)
  | .prop c f => clsB K (κ c) && propB K (κ c) f
  | .cmet c m => cmetB K (κ c) m
  | .kst x d => (match PySem.W.nsIn K mainGlobals x with | some (some u) => kstB K κ 5 u d | _ => false)
  | .dfl p i d => kstB K κ 5 (.ref (dflAt p i K)) d
  | .ow n => owB K κ n
section
variable {K : PySem.W.Frag} {κ : Nat → Addr} {h : Heap} {mg : Str → Option Value}
theorem fx_glo (X : K.In h) (G : h.Ns mainGlobals mg) {x : Str} (c : (Fx.glo x).ok K κ = true) : mg x = some (.ref (ga K x)) := PySem.W.mg_of X G (eqO_ok c)
theorem fx_free (X : K.In h) (G : h.Ns mainGlobals mg) {x : Str} (c : (Fx.free x).ok K κ = true) : mg x = none := PySem.W.mg_none_of X G (eqO_ok c)
theorem fx_fld {cs : List Nat} {f : Str} (c : (Fx.fld cs f).ok K κ = true) : ∀ c ∈ cs, FldOk K (κ c) f := fun i hi => by
  obtain ⟨a, b⟩ := ba (List.all_eq_true.mp c i hi)
  exact ⟨clsB_ok a, eqO_ok b⟩
theorem fx_meth {c : Nat} {m : Str} (q : (Fx.meth c m).ok K κ = true) : Cls K (κ c) ∧ Meth K (κ c) m (ma K (κ c) m) ∧ PySem.W.fnIn K (ma K (κ c) m) = true := by
  obtain ⟨a, q⟩ := ba q
  obtain ⟨b1, q⟩ := ba q
  obtain ⟨b2, q⟩ := ba q
  obtain ⟨b3, b4⟩ := ba q
  exact ⟨clsB_ok a, ⟨eqO_ok b1, b2, b4⟩, b3⟩
theorem fx_mkr {c : Nat} (q : (Fx.mkr c).ok K κ = true) : Mk K (κ c) (ma K (κ c) "__init__") := by
  obtain ⟨b1, q⟩ := ba q
  obtain ⟨b2, q⟩ := ba q
  obtain ⟨b3, b4⟩ := ba q
  exact ⟨b1, eqO_ok b2, b3, b4⟩
theorem recB_ok {p : Addr} {t : String} (q : recB K p t = true) : ∃ g rest, PySem.W.recIn K p t = some (.ref g :: rest) := by
  unfold recB at q
  split at q
  · rename_i g rest e
    exact ⟨g, rest, e⟩
  · cases q
theorem fx_prop {c : Nat} {f : Str} (q : (Fx.prop c f).ok K κ = true) : Cls K (κ c) ∧ PropOf K (κ c) f (ma K (κ c) f) (recA K (κ c) f "property") := by
  obtain ⟨a, q⟩ := ba q
  obtain ⟨b1, q⟩ := ba q
  obtain ⟨b2, q⟩ := ba q
  obtain ⟨b3, b4⟩ := ba q
  obtain ⟨g, rest, e⟩ := recB_ok b4
  refine ⟨clsB_ok a, eqO_ok b1, eqO_ok b2, of_decide_eq_true b3, rest, ?_⟩
  unfold recA
  rw [e]
theorem fx_cmet {c : Nat} {m : Str} (q : (Fx.cmet c m).ok K κ = true) : ClX.CRead K (κ c) (.type "type") ∧ ClX.CMet K (κ c) (.type "type") m (ma K (κ c) m) (recA K (κ c) m "classmethod") := by
  obtain ⟨b1, q⟩ := ba q
  obtain ⟨b2, q⟩ := ba q
  obtain ⟨b3, q⟩ := ba q
  obtain ⟨b4, b5⟩ := ba q
  obtain ⟨g, rest, e⟩ := recB_ok b4
  have e2 : PySem.W.findCls K (.ref (κ c)) (.type "type") m = some (.get (.builtin "classmethod.__get__") (.ref (ma K (κ c) m)) .none (.ref (κ c))) := by
    split at b3
    · rename_i b p C' ef
      obtain ⟨z1, z⟩ := ba b3
      obtain ⟨z2, z3⟩ := ba z
      rw [ef, of_decide_eq_true z1, of_decide_eq_true z2, of_decide_eq_true z3]
    · cases b3
  refine ⟨⟨b1, eqO_ok b2⟩, e2, ⟨rest, ?_⟩, b5⟩
  unfold recA
  rw [e]
theorem fx_kst (X : K.In h) (G : h.Ns mainGlobals mg) {x : Str} {d : Dt} (c : (Fx.kst x d).ok K κ = true) : Kst K κ mg x d := by
  have c : (match PySem.W.nsIn K mainGlobals x with | some (some u) => kstB K κ 5 u d | _ => false) = true := c
  split at c
  · rename_i u e
    obtain ⟨v, dd, h1, h2, h3⟩ := kstB_ok 5 c
    exact ⟨v, u, dd, PySem.W.mg_of X G e, h1, h2, h3⟩
  · cases c
theorem fx_dfl {p : Str × Option Str} {i : Nat} {d : Dt} (c : (Fx.dfl p i d).ok K κ = true) : ∃ dd, (∀ Z H, Rp K Z H (.ref (dflAt p i K)) dd) ∧ ∀ ρ, RD κ ρ d dd := by
  obtain ⟨v, dd, h1, h2, h3⟩ := kstB_ok 5 c
  cases v with
  | ref a =>
    have e : Value.ref (dflAt p i K) = Value.ref a := h1
    cases e
    exact ⟨dd, h2, h3⟩
  | non => cases h1
  | bl b => cases h1
  | int b => obtain ⟨_, e⟩ := h1; cases e
  | str b => obtain ⟨_, e⟩ := h1; cases e
  | byt b => obtain ⟨_, e⟩ := h1; cases e
  | flt b => obtain ⟨_, e⟩ := h1; cases e
  | ty b => cases h1
end
/-! ### the hook -/
abbrev AlY : Type := Bool × List FnW
def obsY (fx : List Fx) (fn : List DefA) (kap : PySem.W.Frag → Nat → Addr) (K : PySem.W.Frag) : AlY := ((fx.all fun f => f.ok K (kap K)) && fn.all fun d => d.ok K, fn.map fun d => fnA' K (d.adr K))
def valY (fn : List DefA) : AlY := (true, fn.map DefA.val)
def SaysY (fx : List Fx) (fn : List DefA) (kap : PySem.W.Frag → Nat → Addr) (K : PySem.W.Frag) : Prop := obsY fx fn kap K = valY fn
def obsYG (n : Nat) (fx : List Fx) (fn : List DefA) (kap : PySem.W.Frag → Nat → Addr) (g : Addr → Option Obj) : AlY := obsY fx fn kap (frG g (asD g n))
def hookY (n : Nat) (fx : List Fx) (fn : List DefA) (kap : PySem.W.Frag → Nat → Addr) : PySem.W.Hook where
  α := AlY
  obs := fun s => obsYG n fx fn kap s.heap.get?
  val := fun _ => valY fn
  says := fun _ h => ∃ K : PySem.W.Frag, K.In h ∧ SaysY fx fn kap K
  of := fun _ _ e => ⟨_, frG_in, e⟩
  keeps := fun _ _ _ ⟨K, hK, c⟩ k => ⟨K, PySem.W.Frag.In.keeps hK k, c⟩
theorem obsYG_eq {n : Nat} {fx : List Fx} {fn : List DefA} {kap : PySem.W.Frag → Nat → Addr} {g : Addr → Option Obj} {s : Shared} (h : ∀ a, g a = s.heap.get? a) : obsYG n fx fn kap g = (hookY n fx fn kap).obs s := by
  have e : g = s.heap.get? := funext h
  rw [e]; rfl
section
variable {fx : List Fx} {fn : List DefA} {kap : PySem.W.Frag → Nat → Addr} {K : PySem.W.Frag}
theorem SaysY.fact (c : SaysY fx fn kap K) (i : Nat) {f : Fx} (h : fx[i]? = some f := by rfl) : f.ok K (kap K) = true :=
  List.all_eq_true.mp (ba (show ((fx.all fun f => f.ok K (kap K)) && fn.all fun d => d.ok K) = true from congrArg (fun z : AlY => z.1) c)).1 f (List.mem_of_getElem? h)
theorem SaysY.def_ (c : SaysY fx fn kap K) (i : Nat) {d : DefA} (h : fn[i]? = some d := by rfl) : ∃ fd, FunD K d.name d.qual d.params d.body d.scope (d.dvs K) [] (d.adr K) fd := by
  have c2 := (ba (show ((fx.all fun f => f.ok K (kap K)) && fn.all fun d => d.ok K) = true from congrArg (fun z : AlY => z.1) c)).2
  have e : fn.map (fun d => fnA' K (d.adr K)) = fn.map DefA.val := congrArg (fun z : AlY => z.2) c
  have e2 : (fn.map fun d => fnA' K (d.adr K))[i]? = (fn.map DefA.val)[i]? := by rw [e]
  rw [List.getElem?_map, List.getElem?_map, h] at e2
  exact DefA.funD (Option.some.inj e2) (List.all_eq_true.mp c2 d (List.mem_of_getElem? h))
end
end RX

set_option Elab.async false
set_option linter.all false
set_option maxRecDepth 100000
set_option maxHeartbeats 4000000
/-! str(o) by own methods. -/
namespace RX
open PySem PySem.Spec PyProof.Rows L2 RS
section
variable {P : Program} {w : World} {K : PySem.W.Frag} {κ : Nat → Addr} {mg : Str → Option Value} {base : Heap} {X : Cx}
def cStrL (K : PySem.W.Frag) (κ : Nat → Addr) (L : List (Nat × Mf)) : List V → Hp → VK → Prop := cOr cStrX fun xs H Q => ∃ p ∈ L, cStrO K (κ p.1) (spX κ p.2) xs H Q
theorem cr_strL {k : Nat} (K : PySem.W.Frag) {L : List (Nat × Mf)} (c : ∀ p ∈ L, Sx P w K κ mg base p.1 "__str__" k p.2) (hr : Room (k + 2) X.A) (hG : Gd X.A)
    (h : X.K = K := by rfl) (h1 : X.prog = P := by rfl) (h2 : X.w = w := by rfl) (h3 : X.mg = mg := by rfl) (h4 : X.base = base := by rfl) : CallR X (.type "str") (cStrL K κ L) := by
  subst h h1 h2 h3 h4
  refine call_or cr_strX fun pins s σ H xs us Q I r hq => ?_
  obtain ⟨p, hp, hq⟩ := hq
  exact cr_strO (c p hp) hr hG pins s σ H xs us Q I r hq
def xStrL (L : List (Nat × Mf)) : List Dt → Xs → Res Dt := fun xs S => match xs with
  | [x] => (match insX S x with
    | some (c, _) => (match findM c L with | some m => (m [x] S).bind fun y S1 => (match y with | .str z => .ok (.str z) S1 | _ => .bad) | none => .bad)
    | none => xStr [x] S)
  | _ => .bad
theorem cx_strL {L : List (Nat × Mf)} : CbX K κ (cStrL K κ L) (xStrL L) := cx_of fun ρ S T H vs xs z S' rs st rx e Q q => by
  unfold xStrL at e
  split at e
  · rename_i x
    split at e
    · rename_i c fs ei
      split at e
      · rename_i m em
        obtain ⟨y, S1, e1, e⟩ := Res.bind_eq e
        split at e
        · rename_i zz
          cases e
          obtain ⟨v, rfl, r⟩ := rx.cases1
          obtain ⟨a, dx, gs, ev, ha, _⟩ := r.ins rs st ei
          subst ev
          exact .inr ⟨_, findM_mem em, a, dx, gs, rfl, ha, sp_own rs st (.cons r .nil) e1 fun ρ' T' v' H' g s rv => ⟨zz, rv.strV, q ρ' T' v' H' g s rv⟩⟩
        · cases e
      · cases e
    · obtain ⟨ds, a, b⟩ := rx
      exact .inl (cx_str ρ S T _ ds z S' rs a e H vs st b Q fun d T' v H' ⟨ρ', g, r⟩ s p => q ρ' T' v H' g s ⟨d, r, p⟩)
  · cases e
end
end RX

set_option Elab.async false
set_option linter.all false
set_option maxRecDepth 100000
set_option maxHeartbeats 4000000
namespace RX
open PySem PySem.Spec PyProof.Rows L2 RS StX
section
variable {K : PySem.W.Frag} {κ : Nat → Addr} {X : Cx}
theorem u1 {n c : Nat} (h : n + 64 < c) : n + 1 < c := by omega
theorem px_fmt0 {e : Expr} {m : Me} {pos : Pos} (he : PEm X K κ e m) : PEm X K κ (.FormattedValue e (-1) none pos) (mFmt [] m) := by
  refine pe_m (te := tFmtX K κ [] (teM K κ m)) ⟨fun pins s σ H Q I q => ?_⟩ (em_fmt te_self)
  rcases q with q | ⟨p, hp, _⟩
  · exact (pe_fmt he).run pins s σ H Q I q
  · cases hp
theorem ps_fldK (K : PySem.W.Frag) {o value : Expr} {f : Str} {pos pos' : Pos} {ta tv : TE} (ha : PE X o ta) (hv : PE X value tv) (hs : swapsWith value (some (.Attribute o f pos')) pos.line X.env = pure false) (h : X.K = K := by rfl) : PS X (.Assign [.Attribute o f pos'] value pos) (sFld K ta tv f) := h ▸ ps_fld ha hv hs
/-! ### *xs -/
theorem pa_starX (K : PySem.W.Frag) {e : Expr} {es : List Expr} {p : Pos} {te : TE} {t : TA} (he : PE X e te) (hr : PA X es t) (h : X.K = K := by rfl) (hs : starEach (.Starred e p :: es) X.env = (true, eval e X.env) :: starEach es X.env := by rfl) : PA X (.Starred e p :: es) (tStar K te t) := h ▸ pa_star he hr hs
def aStar (e : Me) (r : Ma) : Ma := fun G S => (e G S).bind fun x S1 => match seqA S1 x with | some xs => (r G S1).bind fun ys S2 => .ok (xs ++ ys) S2 | none => .bad
theorem ar_star {te : TE} {t : TA} {me : Me} {mr : Ma} (he : EvX K κ te me) (hr : ArX K κ t mr) : ArX K κ (tStar K te t) (aStar me mr) := fun ρ G S E T zs S' rg rs h => by
  obtain ⟨x, S1, e1, h⟩ := Res.bind_eq h
  split at h
  · rename_i xs ex
    obtain ⟨ys, S2, e2, h⟩ := Res.bind_eq h
    cases h
    refine fun σ H eo Q q => he ρ G S E T x S1 rg rs e1 σ H eo _ fun d T1 v H1 ⟨ρ1, g1, r1⟩ s1 p1 => ?_
    obtain ⟨a, vs, ev, hs, ds, rd, rp⟩ := RV.seqA (K := K) g1.rst s1.st ⟨d, r1, p1⟩ ex
    refine ⟨a, vs, ev, hs.symm, hr ρ1 G S1 E T1 ys _ (rg.mono g1.pre) g1.rst e2 σ H1 (eo.step s1) _ fun es T2 ws H2 ⟨ρ2, g2, r2⟩ s2 p2 => ?_⟩
    exact q _ T2 _ H2 ⟨ρ2, g1.trans g2, (rd.mono g2.pre).append r2⟩ (s1.trans s2) ((rp.lift s2.lft).append p2)
  · cases h
/-! ### range(a, b, -1) -/
def rangeDn (lo : Int) : Nat → List Dt
  | 0 => []
  | n + 1 => .int lo :: rangeDn (lo - 1) n
def wRng3 (m : Ma) : Ma := fun G S => (m G S).bind fun xs S1 => match xs with
  | [.int i, .int j, .int c] => if c = -1 ∧ -(2 ^ 62) ≤ i ∧ i < 2 ^ 62 ∧ -(2 ^ 62) ≤ j ∧ j < 2 ^ 62 then .ok (rangeDn i (i - j).toNat) S1 else .bad
  | _ => .bad
def rangeDd (lo : Int) : Nat → List D
  | 0 => []
  | n + 1 => .int lo :: rangeDd (lo - 1) n
theorem rangeDn_rd {ρ : List Addr} : ∀ (n : Nat) (lo : Int), RDs κ ρ (rangeDn lo n) (rangeDd lo n)
  | 0, _ => .nil
  | n + 1, lo => .cons (.int lo) (rangeDn_rd n _)
theorem rangeDd_get : ∀ (n i : Nat) (lo : Int) (d : D), (rangeDd lo n)[i]? = some d → i < n ∧ d = .int (lo + (i : Nat) * (-1))
  | 0, i, lo, d, h => by simp [rangeDd] at h
  | n + 1, 0, lo, d, h => by
    simp only [rangeDd, List.getElem?_cons_zero, Option.some.injEq] at h
    exact ⟨by omega, by rw [← h]; simp⟩
  | n + 1, i + 1, lo, d, h => by
    simp only [rangeDd, List.getElem?_cons_succ] at h
    obtain ⟨h1, h2⟩ := rangeDd_get n i (lo - 1) d h
    refine ⟨by omega, ?_⟩
    rw [h2]
    congr 1
    push_cast
    omega
theorem rangeDd_len : ∀ (n : Nat) (lo : Int), (rangeDd lo n).length = n
  | 0, _ => rfl
  | n + 1, lo => by simp [rangeDd, rangeDd_len n]
theorem it_rng3 {ta : TA} {ma : Ma} (h : ArX K κ ta ma) : ItX K κ (iRng3 ta) (wRng3 ma) := fun ρ G S E T xs S' rg rs e => by
  obtain ⟨x, S1, e1, e⟩ := Res.bind_eq e
  split at e
  · rename_i i j c
    split at e
    · rename_i hj
      obtain ⟨rfl, h1, h2, h3, h4⟩ := hj
      cases e
      refine fun σ H eo R q => h ρ G S E T _ _ rg rs e1 σ H eo _ fun ds T1 vs H1 ⟨ρ1, g1, r⟩ s1 rp => ?_
      have ev : vs = [.int i, .int j, .int (-1)] := by
        cases r with
        | cons a1 r => cases r with
          | cons a2 r => cases r with
            | cons a3 r =>
              cases r
              have := a1.intD; subst this; have := a2.intD; subst this; have := a3.intD; subst this
              cases rp with
              | cons b1 rp => cases rp with
                | cons b2 rp => cases rp with
                  | cons b3 rp => cases rp; rw [b1.intV, b2.intV, b3.intV]
      refine ⟨i, j, -1, (i - j).toNat, ev, RgC.neg h1 h2 h3 h4, q (rangeDd i (i - j).toNat) T1 _ H1 ⟨ρ1, g1, rangeDn_rd _ _⟩ s1 ?_⟩
      intro H2 Z2 L zt
      refine ⟨fun k d hk => ?_, by rw [rangeDd_len]; exact Nat.le_refl _⟩
      obtain ⟨k1, k2⟩ := rangeDd_get _ _ _ _ hk
      refine ⟨k1, fun v H3 ⟨eh, ev⟩ => ?_⟩
      subst eh ev k2
      exact ⟨fun _ _ h => h, .int _⟩
    · cases e
  · cases e
end
end RX

set_option Elab.async false
set_option linter.all false
set_option maxRecDepth 100000
set_option maxHeartbeats 4000000
/-! a, b, .. = a list. -/
namespace RX
open PySem PySem.Spec PyProof.Rows L2 RS
section
variable {K : PySem.W.Frag} {κ : Nat → Addr} {X : Cx}
theorem pg_lstK (K : PySem.W.Frag) {es : List Expr} {k : Nat} {t : TGs} {n : Nat} {pos : Pos} (hc : X.calm = true) (ht : PGs X es t) (h : X.K = K := by rfl)
    (hn : (assignEach es X.env).length = n := by rfl) (hst : (assignEach es X.env).findIdx? (·.1) = none := by rfl) : PG X (.Tuple es k pos) (gLst K n t) := h ▸ pg_lst hc ht hn hst
def gTl (n : Nat) (r : List Dt → Xe → Xs → Res Xe) : Dt → Xe → Xs → Res Xe := fun x G S => match x with | .lst xs => if xs.length = n then r xs G S else .bad | _ => .bad
theorem tg_lst {G : Env'} {S : Store} {n : Nat} {t : TGs} {ds : List D} {PG : Env' → Store → Prop} (hl : ds.length = n) (h : TgsG K t ds G S PG) : TgG K (gLst K n t) (.lst ds) G S PG := fun σ H v e r Q q => by
  obtain ⟨a, xs, ev, hs, ra⟩ := r.lstV
  exact ⟨a, xs, ev, .inl (.inl hs), ra.length.trans hl, h σ H xs e ra Q q⟩
theorem tgx_lst {n : Nat} {u : TGs} {mu : List Dt → Xe → Xs → Res Xe} (h2 : TgsX K κ u mu) : TgX K κ (gLst K n u) (gTl n mu) := fun ρ x d G S E T G' S' rd rg rs h => by
  unfold gTl at h
  split at h
  · split at h
    · rename_i hl
      obtain ⟨ds, rfl, ra⟩ := rd.lstD
      exact tg_lst (ra.length ▸ hl) (h2 ρ _ _ G S E T G' S' ra rg rs h)
    · cases h
  · cases h
end
end RX


set_option Elab.async false
set_option linter.all false
set_option maxRecDepth 100000
set_option maxHeartbeats 4000000
/-! What a function computes, step by step: W r Q. -/
namespace RY
open PySem PySem.Spec PyProof.Rows L2 RS RX
def W {α : Type} (r : Res α) (Q : α → Xs → Prop) : Prop := ∃ a S, r = .ok a S ∧ Q a S
section
variable {α β : Type} {Q Q' : α → Xs → Prop} {r : Res α}
theorem W.mono (h : W r Q) (k : ∀ a S, Q a S → Q' a S) : W r Q' := let ⟨a, S, e, q⟩ := h; ⟨a, S, e, k a S q⟩
theorem w_ok {a : α} {S : Xs} (q : Q a S) : W (.ok a S) Q := ⟨a, S, rfl, q⟩
theorem w_bind {f : α → Xs → Res β} {R : β → Xs → Prop} (h : W r fun a S => W (f a S) R) : W (r.bind f) R := let ⟨a, S, e, b, S2, e2, q⟩ := h; ⟨b, S2, by rw [e]; exact e2, q⟩
theorem w_eq {a : α} {S : Xs} (e : r = .ok a S) (q : Q a S) : W r Q := ⟨a, S, e, q⟩
end
section
variable {G : Xe} {S : Xs} {Q : Dt → Xs → Prop} {B : Bool → Xs → Prop} {A : List Dt → Xs → Prop} {O : Out → Xs → Prop} {R : Xe → Xs → Prop}
theorem w_var {i : Nat} {x : Dt} (h : G[i]? = some (some x)) (q : Q x S) : W (mVar i G S) Q := ⟨x, S, by unfold mVar; rw [h], q⟩
theorem w_c {x : Dt} (q : Q x S) : W (mC x G S) Q := ⟨x, S, rfl, q⟩
theorem w_op {f : Dt → Dt → Xs → Res Dt} {a b : Me} (h : W (a G S) fun x S1 => W (b G S1) fun y S2 => W (f x y S2) Q) : W (mOp f a b G S) Q := w_bind (h.mono fun _ _ h => w_bind h)
theorem w_un {f : Dt → Xs → Res Dt} {a : Me} (h : W (a G S) fun x S1 => W (f x S1) Q) : W (mUn f a G S) Q := w_bind h
def Bq (B : Bool → Xs → Prop) (x : Dt) (S : Xs) : Prop := match x with | .bl b => B b S | _ => False
theorem bq {b : Bool} (h : B b S) : Bq B (.bl b) S := h
theorem w_b {a : Me} (h : W (a G S) (Bq B)) : W (mB a G S) B := w_bind (h.mono fun x S1 h => by
  cases x with
  | bl b => exact ⟨b, S1, rfl, h⟩
  | _ => exact h.elim)
def Iq {α : Type} (B : Bool → Xs → Prop) (x : α) (S : Xs) : Prop := True
theorem w_andV {a b : Me} (h : W (mB a G S) fun c S1 => if c = true then W (b G S1) Q else Q (.bl false) S1) : W (mAndV a b G S) Q := w_bind (h.mono fun c S1 h => by cases c <;> simp at h ⊢ <;> first | exact w_ok h | exact h)
theorem w_orV {a b : Me} (h : W (mB a G S) fun c S1 => if c = true then Q (.bl true) S1 else W (b G S1) Q) : W (mOrV a b G S) Q := w_bind (h.mono fun c S1 h => by cases c <;> simp at h ⊢ <;> first | exact w_ok h | exact h)
theorem w_notV {a : Me} (h : W (mB a G S) fun c S1 => Q (.bl (!c)) S1) : W (mNotV a G S) Q := w_bind (h.mono fun c S1 h => w_ok h)
theorem w_if {t : Mt} {a b : Me} (h : W (t G S) fun c S1 => if c = true then W (a G S1) Q else W (b G S1) Q) : W (mIf t a b G S) Q := w_bind (h.mono fun c S1 h => by cases c <;> simp at h ⊢ <;> exact h)
theorem w_and {a b : Mt} (h : W (a G S) fun c S1 => if c = true then W (b G S1) B else B false S1) : W (mAnd a b G S) B := w_bind (h.mono fun c S1 h => by cases c <;> simp at h ⊢ <;> first | exact w_ok h | exact h)
theorem w_or {a b : Mt} (h : W (a G S) fun c S1 => if c = true then B true S1 else W (b G S1) B) : W (mOr a b G S) B := w_bind (h.mono fun c S1 h => by cases c <;> simp at h ⊢ <;> first | exact w_ok h | exact h)
theorem w_not {a : Mt} (h : W (a G S) fun c S1 => B (!c) S1) : W (mNot a G S) B := w_bind (h.mono fun c S1 h => w_ok h)
theorem w_yes (h : B true S) : W (mYes G S) B := w_ok h
theorem w_chain {f g : Dt → Dt → Xs → Res Dt} {a b c : Me} (h : W (a G S) fun x S1 => W (b G S1) fun y S2 => W (f x y S2) (Bq fun d S3 => if d = true then W (c G S3) fun z S4 => W (g y z S4) Q else Q (.bl false) S3)) : W (mChain f g a b c G S) Q :=
  w_bind (h.mono fun x S1 h => w_bind (h.mono fun y S2 h => w_bind (w_bind (h.mono fun z S3 h => by
    cases z with
    | bl d => refine ⟨d, S3, rfl, ?_⟩; cases d <;> simp [Bq] at h ⊢ <;> first | exact w_ok h | exact w_bind h
    | _ => exact h.elim))))
theorem w_nil (q : A [] S) : W (aNil G S) A := w_ok q
theorem w_cons {a : Me} {r : Ma} (h : W (a G S) fun x S1 => W (r G S1) fun xs S2 => A (x :: xs) S2) : W (aCons a r G S) A := w_bind (h.mono fun x S1 h => w_bind (h.mono fun xs S2 h => w_ok h))
theorem w_star {a : Me} {r : Ma} (h : W (a G S) fun x S1 => ∃ xs, seqA S1 x = some xs ∧ W (r G S1) fun ys S2 => A (xs ++ ys) S2) : W (aStar a r G S) A := w_bind (h.mono fun x S1 ⟨xs, e, h⟩ => by
  show W (match seqA S1 x with | some xs => (r G S1).bind fun ys S2 => .ok (xs ++ ys) S2 | none => .bad) A
  rw [e]
  exact w_bind (h.mono fun xs S2 h => w_ok h))
theorem w_tup {r : Ma} (h : W (r G S) fun xs S1 => xs.length ≤ 100000 ∧ Q (.tup xs) S1) : W (mTup r G S) Q := w_bind (h.mono fun x S1 ⟨h1, h2⟩ => by rw [if_pos h1]; exact w_ok h2)
theorem w_lst {r : Ma} (h : W (r G S) fun xs S1 => xs.length ≤ 100000 ∧ Q (.lst xs) S1) : W (mLst r G S) Q := w_bind (h.mono fun x S1 ⟨h1, h2⟩ => by rw [if_pos h1]; exact w_ok h2)
theorem w_lstC {r : Ma} (h : W (r G S) fun xs S1 => xs.length ≤ 100000 ∧ Q (.loc S1.length) (S1 ++ [.lst xs])) : W (mLstC r G S) Q := w_bind (h.mono fun x S1 ⟨h1, h2⟩ => by rw [if_pos h1]; exact w_ok h2)
theorem w_cb {f : List Dt → Xs → Res Dt} {r : Ma} (h : W (r G S) fun xs S1 => W (f xs S1) Q) : W (mCb f r G S) Q := w_bind h
theorem w_call {m : Mf} {r : Ma} (h : W (r G S) fun xs S1 => W (m xs S1) Q) : W (mCall m r G S) Q := w_bind h
/-! statements -/
theorem w_next (q : O (.nx G) S) : W (sNext G S) O := w_ok q
theorem w_break (q : O (.bk G) S) : W (sBreak G S) O := w_ok q
theorem w_cont (q : O (.ct G) S) : W (sCont G S) O := w_ok q
def Sq (b : Ms) (O : Out → Xs → Prop) (o : Out) (S : Xs) : Prop := match o with | .nx G1 => W (b G1 S) O | o => O o S
theorem sq_nx {b : Ms} (h : W (b G S) O) : Sq b O (.nx G) S := h
theorem sq_rt {b : Ms} {x : Dt} (h : O (.rt x) S) : Sq b O (.rt x) S := h
theorem sq_bk {b : Ms} (h : O (.bk G) S) : Sq b O (.bk G) S := h
theorem sq_ct {b : Ms} (h : O (.ct G) S) : Sq b O (.ct G) S := h
theorem w_seq {a b : Ms} (h : W (a G S) (Sq b O)) : W (sSeq a b G S) O := w_bind (h.mono fun o S1 h => by cases o <;> first | exact h | exact w_ok h)
theorem w_drop {e : Me} (h : W (e G S) fun _ S1 => O (.nx G) S1) : W (sDrop e G S) O := w_bind (h.mono fun _ _ h => w_ok h)
theorem w_ret {e : Me} (h : W (e G S) fun x S1 => O (.rt x) S1) : W (sRet e G S) O := w_bind (h.mono fun _ _ h => w_ok h)
theorem w_retN (h : O (.rt .non) S) : W (sRetN G S) O := w_ok h
theorem w_sif {t : Mt} {a b : Ms} (h : W (t G S) fun c S1 => if c = true then W (a G S1) O else W (b G S1) O) : W (sIf t a b G S) O := w_bind (h.mono fun c S1 h => by cases c <;> simp at h ⊢ <;> exact h)
theorem w_asg {e : Me} {g : Dt → Xe → Xs → Res Xe} (h : W (e G S) fun x S1 => W (g x G S1) fun G1 S2 => O (.nx G1) S2) : W (sAsg e g G S) O := w_bind (h.mono fun _ _ h => w_bind (h.mono fun _ _ h => w_ok h))
theorem w_par {i j : Nat} {r : Ma} (h : W (r G S) fun xs S1 => ∃ x y, xs = [x, y] ∧ O (.nx ((G.set i (some x)).set j (some y))) S1) : W (sPar i j r G S) O := w_bind (h.mono fun xs S1 ⟨x, y, e, h⟩ => by subst e; exact w_ok h)
theorem w_gN {i : Nat} {x : Dt} (h : R (G.set i (some x)) S) : W (gN i x G S) R := w_ok h
theorem w_gsNil (h : R G S) : W (gsNil [] G S) R := w_ok h
theorem w_gsCons {g : Dt → Xe → Xs → Res Xe} {r : List Dt → Xe → Xs → Res Xe} {x : Dt} {ys : List Dt} (h : W (g x G S) fun G1 S1 => W (r ys G1 S1) R) : W (gsCons g r (x :: ys) G S) R := w_bind h
theorem w_gTp {n : Nat} {r : List Dt → Xe → Xs → Res Xe} {xs : List Dt} (hl : xs.length = n) (h : W (r xs G S) R) : W (gTp n r (.tup xs) G S) R := by
  show W (if xs.length = n then r xs G S else .bad) R
  rw [if_pos hl]
  exact h
theorem w_gSb {o i : Me} {x : Dt} (h : W (o G S) fun a S1 => W (i G S1) fun j S2 => ∃ n k xs q, a = .loc n ∧ j = .int k ∧ S2[n]? = some (.lst xs) ∧ L2.ixN xs.length k = some q ∧ R G (S2.set n (.lst (xs.set q x)))) : W (gSb o i x G S) R := w_bind (h.mono fun a S1 h1 => w_bind (h1.mono fun j S2 ⟨n, k, xs, q, e1, e2, e3, e4, hh⟩ => by
  subst e1 e2
  simp only [e3, e4]
  exact w_ok hh))
theorem w_for {w : Ma} {g : Dt → Xe → Xs → Res Xe} {b : Ms} (h : W (w G S) fun xs S1 => W (forX g b xs G S1) O) : W (sFor w g b G S) O := w_bind h
/-! defs -/
def Fin (Q : Dt → Xs → Prop) (n : Nat) (o : Out) (S : Xs) : Prop := match o with | .rt x => W (exitX n x S) Q | .nx _ => W (exitX n .non S) Q | _ => False
def FinK (Q : Dt → Xs → Prop) (o : Out) (S : Xs) : Prop := match o with | .rt x => Q x S | .nx _ => Q .non S | _ => False
theorem fin_rt {n : Nat} {x : Dt} (h : W (exitX n x S) Q) : Fin Q n (.rt x) S := h
theorem fin_nx {n : Nat} (h : W (exitX n .non S) Q) : Fin Q n (.nx G) S := h
theorem finK_rt {x : Dt} (h : Q x S) : FinK Q (.rt x) S := h
theorem finK_nx (h : Q .non S) : FinK Q (.nx G) S := h
theorem w_fnX {np n : Nat} {b : Ms} {xs : List Dt} (hl : xs.length = np) (h : W (b (startX n xs) S) (Fin Q S.length)) : W (fnX np n b xs S) Q := by
  unfold fnX
  rw [if_pos hl]
  exact w_bind (h.mono fun o S1 h => by cases o <;> first | exact h | exact h.elim)
theorem w_fnK {np n : Nat} {b : Ms} {xs : List Dt} (hl : xs.length = np) (h : W (b (startX n xs) S) (FinK Q)) : W (fnK np n b xs S) Q := by
  unfold fnK
  rw [if_pos hl]
  exact w_bind (h.mono fun o S1 h => by cases o <;> first | exact w_ok h | exact h.elim)
theorem w_exit {n : Nat} {x : Dt} (hl : S.length = n) (q : Q x S) : W (exitX n x S) Q := by
  unfold exitX
  rw [if_pos hl]
  exact w_ok q
theorem iteI {c : Bool} {A B : Prop} (ha : c = true → A) (hb : c = false → B) : if c = true then A else B := by
  cases c
  · simp; exact hb rfl
  · simp; exact ha rfl
theorem ite_t {c : Bool} {A B : Prop} (h : c = true) (ha : A) : if c = true then A else B := by rw [if_pos h]; exact ha
theorem ite_f {c : Bool} {A B : Prop} (h : c = false) (hb : B) : if c = true then A else B := by rw [if_neg (by simp [h])]; exact hb
/-! operators -/
theorem w_mul {i j : Int} (h : i.natAbs.log2 + j.natAbs.log2 < 1000000) (q : Q (.int (i * j)) S) : W (xMul (.int i) (.int j) S) Q := by
  show W (if i.natAbs.log2 + j.natAbs.log2 < 1000000 then .ok (.int (i * j)) S else .bad) Q
  rw [if_pos h]
  exact w_ok q
theorem log2_lt {i : Int} {k : Nat} (h0 : -(2 ^ (k + 1)) < i) (h : i < 2 ^ (k + 1)) : i.natAbs.log2 < k + 1 := by
  have h2 : i.natAbs < 2 ^ (k + 1) := by
    have e : (2 : Int) ^ (k + 1) = ((2 ^ (k + 1) : Nat) : Int) := by push_cast; rfl
    rw [e] at h h0
    omega
  by_cases hz : i.natAbs = 0
  · rw [hz]; simp
  · exact (Nat.log2_lt hz).mpr h2
theorem w_mulB {i j : Int} (h1 : -(2 ^ 200) < i) (h2 : i < 2 ^ 200) (h3 : -(2 ^ 200) < j) (h4 : j < 2 ^ 200) (q : Q (.int (i * j)) S) : W (xMul (.int i) (.int j) S) Q := by
  refine w_mul ?_ q
  have := log2_lt (k := 199) h1 h2
  have := log2_lt (k := 199) h3 h4
  omega
theorem w_mod {i j : Int} (h : 0 < j) (q : Q (.int (i % j)) S) : W (xMod (.int i) (.int j) S) Q := by
  show W (if decide (0 < j) = true then .ok (.int (i % j)) S else .bad) Q
  rw [if_pos (decide_eq_true h)]
  exact w_ok q
theorem w_div {i j : Int} (h : 0 < j) (h2 : j.natAbs.log2 < 9000) (q : Q (.int (i / j)) S) : W (xDiv (.int i) (.int j) S) Q := by
  show W (if decide (0 < j ∧ j.natAbs.log2 < 9000) = true then .ok (.int (i / j)) S else .bad) Q
  rw [if_pos (decide_eq_true ⟨h, h2⟩)]
  exact w_ok q
theorem w_ixC {n : Nat} {xs : List Dt} {i : Int} {z : Dt} (h1 : S[n]? = some (.lst xs)) (h2 : L2.atI xs i = some z) (q : Q z S) : W (xIx (.loc n) (.int i) S) Q := by
  refine w_eq ?_ q
  show (match (match S[n]? with | some (.lst xs) => some xs | _ => none) with | some xs => (match L2.atI xs i with | some z => Res.ok z S | none => .bad) | none => .bad) = _
  rw [h1]
  show (match L2.atI xs i with | some z => Res.ok z S | none => .bad) = _
  rw [h2]
theorem w_ixL {xs : List Dt} {i : Int} {z : Dt} (h2 : L2.atI xs i = some z) (q : Q z S) : W (xIx (.lst xs) (.int i) S) Q := by
  refine w_eq ?_ q
  show (match L2.atI xs i with | some z => Res.ok z S | none => .bad) = _
  rw [h2]
theorem w_ixT {xs : List Dt} {i : Int} {z : Dt} (h2 : L2.atI xs i = some z) (q : Q z S) : W (xIx (.tup xs) (.int i) S) Q := by
  refine w_eq ?_ q
  show (match L2.atI xs i with | some z => Res.ok z S | none => .bad) = _
  rw [h2]
theorem w_ixF {ns : List Int} {i : Int} {z : Dt} (h2 : L2.atI (ns.map Dt.int) i = some z) (q : Q z S) : W (xIx (.frz ns) (.int i) S) Q := by
  refine w_eq ?_ q
  show (match L2.atI (ns.map Dt.int) i with | some z => Res.ok z S | none => .bad) = _
  rw [h2]
theorem atI_nat {α : Type} {xs : List α} {i : Int} (h0 : 0 ≤ i) (h1 : i < xs.length) : L2.atI xs i = xs[i.toNat]? := by
  unfold L2.atI L2.ixN
  rw [if_pos h0, if_pos h1]
  rfl
/-! slices, fields, objects -/
theorem w_sl {a : Me} {l u : Mo} (h : W (a G S) fun x S1 => W (l G S1) fun lo S2 => W (u G S2) fun hi S3 => W (xSl x lo hi S3) Q) : W (mSl a l u G S) Q := w_bind (h.mono fun _ _ h => w_bind (h.mono fun _ _ h => w_bind h))
theorem w_oNone {Z : Option Int → Xs → Prop} (q : Z none S) : W (oNone G S) Z := w_ok q
theorem w_oSome {e : Me} {Z : Option Int → Xs → Prop} (h : W (e G S) fun x S1 => ∃ i, x = .int i ∧ Z (some i) S1) : W (oSome e G S) Z := w_bind (h.mono fun x S1 ⟨i, e, q⟩ => by subst e; exact w_ok q)
theorem cut_to {xs : List Dt} (k : Nat) : cutX xs none (some (k : Int)) = xs.take k := by
  unfold cutX
  rw [HT.sIx_none, HT.sIx_nat, List.drop_zero, Nat.sub_zero]
  rw [List.take_eq_take_min (i := k), Nat.min_comm]
theorem cut_from {xs : List Dt} (k : Nat) : cutX xs (some (k : Int)) none = xs.drop k := by
  unfold cutX
  rw [HT.sIx_none, HT.sIx_nat]
  by_cases h : k ≤ xs.length
  · rw [Nat.min_eq_left h, ← List.length_drop, List.take_length]
  · rw [Nat.min_eq_right (by omega), List.drop_eq_nil_of_le (Nat.le_refl _), List.drop_eq_nil_of_le (by omega), List.take_nil]
theorem w_fld {f : Str} {cs : List Nat} {o : Me} (h : W (o G S) fun x S1 => ∃ c fs y, insX S1 x = some (c, fs) ∧ cs.contains c = true ∧ fs.lookup f = some y ∧ Q y S1) : W (mFld f cs o G S) Q := w_bind (h.mono fun x S1 ⟨c, fs, y, e1, e2, e3, q⟩ => by
  show W (match insX S1 x with | some (c, fs) => if cs.contains c = true then (match fs.lookup f with | some y => .ok y S1 | none => .bad) else .bad | none => .bad) Q
  rw [e1]
  dsimp only
  rw [if_pos e2, e3]
  exact w_ok q)
theorem w_prop {c : Nat} {m : Mf} {o : Me} (h : W (o G S) fun x S1 => ∃ fs, insX S1 x = some (c, fs) ∧ W (m [x] S1) Q) : W (mProp c m o G S) Q := w_bind (h.mono fun x S1 ⟨fs, e, q⟩ => by
  show W (match insX S1 x with | some (c', _) => if c' = c then m [x] S1 else .bad | none => .bad) Q
  rw [e]
  dsimp only
  rw [if_pos rfl]
  exact q)
theorem w_meth {c : Nat} {f : Str} {m : Mf} {o : Me} {r : Ma} (h : W (o G S) fun x S1 => ∃ fs, insX S1 x = some (c, fs) ∧ fs.lookup f = none ∧ W (r G S1) fun xs S2 => W (m (x :: xs) S2) Q) : W (mMeth c f m o r G S) Q := w_bind (h.mono fun x S1 ⟨fs, e, e2, q⟩ => by
  show W (match insX S1 x with | some (c', fs) => if c' = c then (match fs.lookup f with | none => (r G S1).bind fun xs S2 => m (x :: xs) S2 | some _ => .bad) else .bad | none => .bad) Q
  rw [e]
  dsimp only
  rw [if_pos rfl, e2]
  exact w_bind q)
theorem w_mk {c : Nat} {m : Mf} {dds : List Dt} {r : Ma} (h : W (r G S) fun xs S1 => W (m (.loc S1.length :: (xs ++ dds)) (S1 ++ [.ins c []])) fun y S2 => y = .non ∧ W (exitX S1.length (.loc S1.length) S2) Q) : W (mMk c m dds r G S) Q := w_bind (h.mono fun xs S1 h1 => w_bind (h1.mono fun y S2 ⟨e, q⟩ => by subst e; exact q))
theorem w_mkC {c : Nat} {m : Mf} {dds : List Dt} {r : Ma} (h : W (r G S) fun xs S1 => W (m (.loc S1.length :: (xs ++ dds)) (S1 ++ [.ins c []])) fun y S2 => y = .non ∧ Q (.loc S1.length) S2) : W (mMkC c m dds r G S) Q := w_bind (h.mono fun xs S1 h1 => w_bind (h1.mono fun y S2 ⟨e, q⟩ => by subst e; exact w_ok q))
theorem w_gFl {f : Str} {cs : List Nat} {o : Me} {y : Dt} (h : W (o G S) fun x S1 => ∃ n c fs, x = .loc n ∧ S1[n]? = some (.ins c fs) ∧ cs.contains c = true ∧ fs.length < 1000 ∧ R G (S1.set n (.ins c (putX f y fs)))) : W (gFl f cs o y G S) R := w_bind (h.mono fun x S1 ⟨n, c, fs, e1, e2, e3, e4, q⟩ => by
  subst e1
  dsimp only
  rw [e2]
  dsimp only
  rw [if_pos (by rw [e3, decide_eq_true e4]; rfl)]
  exact w_ok q)
theorem w_sFl {f : Str} {cs : List Nat} {o v : Me} (h : W (v G S) fun y S0 => W (o G S0) fun x S1 => ∃ n c fs, x = .loc n ∧ S1[n]? = some (.ins c fs) ∧ cs.contains c = true ∧ fs.length < 1000 ∧ O (.nx G) (S1.set n (.ins c (putX f y fs)))) : W (sFl f cs o v G S) O := w_bind (h.mono fun y S0 h0 => w_bind (h0.mono fun x S1 ⟨n, c, fs, e1, e2, e3, e4, q⟩ => by
  subst e1
  dsimp only
  rw [e2]
  dsimp only
  rw [if_pos (by rw [e3, decide_eq_true e4]; rfl)]
  exact w_ok q))
theorem w_aug {i : Nat} {fn : Int → Int → Int} {e : Me} {a : Int} (hi : G[i]? = some (some (.int a))) (h : W (e G S) fun y S1 => ∃ b, y = .int b ∧ O (.nx (G.set i (some (.int (fn a b))))) S1) : W (sAug i fn e G S) O := by
  unfold sAug
  rw [hi]
  exact w_bind (h.mono fun y S1 ⟨b, e, q⟩ => by subst e; exact w_ok q)
theorem w_mulL {xs : List Dt} {j : Int} (h1 : -(2 ^ 63) ≤ j) (h2 : j < 2 ^ 63) (h3 : xs.length * j.toNat ≤ 1000000) (q : Q (.lst (List.replicate j.toNat xs).flatten) S) : W (xMul (.lst xs) (.int j) S) Q := by
  show W (if -(2 ^ 63) ≤ j ∧ j < 2 ^ 63 ∧ xs.length * j.toNat ≤ 1000000 then .ok (.lst (List.replicate j.toNat xs).flatten) S else .bad) Q
  rw [if_pos ⟨h1, h2, h3⟩]
  exact w_ok q
theorem w_slL {xs : List Dt} {lo hi : Option Int} (q : Q (.lst (cutX xs lo hi)) S) : W (xSl (.lst xs) lo hi S) Q := w_ok q
theorem w_slT {xs : List Dt} {lo hi : Option Int} (q : Q (.tup (cutX xs lo hi)) S) : W (xSl (.tup xs) lo hi S) Q := w_ok q
end
end RY

set_option Elab.async false
set_option linter.all false
set_option maxRecDepth 100000
set_option maxHeartbeats 4000000
/-! Loops and comprehensions. -/
namespace RY
open PySem PySem.Spec PyProof.Rows L2 RS RX
section
variable {G : Xe} {S : Xs} {Q : Dt → Xs → Prop} {O : Out → Xs → Prop} {g : Dt → Xe → Xs → Res Xe} {b : Ms}
def Fq (J : Xe → Xs → Prop) (O : Out → Xs → Prop) (o : Out) (S : Xs) : Prop := match o with | .nx G => J G S | .ct G => J G S | .bk G => O (.nx G) S | .rt x => O (.rt x) S
theorem fq_nx {J : Xe → Xs → Prop} (h : J G S) : Fq J O (.nx G) S := h
theorem fq_ct {J : Xe → Xs → Prop} (h : J G S) : Fq J O (.ct G) S := h
theorem fq_bk {J : Xe → Xs → Prop} (h : O (.nx G) S) : Fq J O (.bk G) S := h
theorem fq_rt {J : Xe → Xs → Prop} {x : Dt} (h : O (.rt x) S) : Fq J O (.rt x) S := h
theorem for_cons {x : Dt} {xs : List Dt} (h : W (g x G S) fun G1 S1 => W (b G1 S1) (Fq (fun G S => W (forX g b xs G S) O) O)) : W (forX g b (x :: xs) G S) O :=
  w_bind (h.mono fun G1 S1 h => w_bind (h.mono fun o S2 h => by cases o <;> first | exact h | exact w_ok h))
theorem for_nil (h : O (.nx G) S) : W (forX g b [] G S) O := w_ok h
theorem for_inv {I : Nat → Xe → Xs → Prop} : ∀ (xs : List Dt) (k : Nat) {G : Xe} {S : Xs}, I k G S → (∀ i x G S, xs[i]? = some x → I (k + i) G S → W (g x G S) fun G1 S1 => W (b G1 S1) (Fq (I (k + i + 1)) O)) → (∀ G S, I (k + xs.length) G S → O (.nx G) S) → W (forX g b xs G S) O
  | [], k, G, S, h0, _, hd => w_ok (hd G S (by simpa using h0))
  | x :: xs, k, G, S, h0, hs, hd => by
    refine for_cons ((hs 0 x G S rfl h0).mono fun G1 S1 h => h.mono fun o S2 h => ?_)
    have key : ∀ G S, I (k + 1) G S → W (forX g b xs G S) O := fun G S h => for_inv xs (k + 1) h (fun i x G S e hi => by
      have := hs (i + 1) x G S (by simpa using e) (by rw [show k + (i + 1) = k + 1 + i from by omega]; exact hi)
      rw [show k + (i + 1) + 1 = k + 1 + i + 1 from by omega] at this
      exact this) (fun G S h => hd G S (by rw [List.length_cons, show k + (xs.length + 1) = k + 1 + xs.length from by omega]; exact h))
    cases o with
    | nx G => exact key _ _ h
    | ct G => exact key _ _ h
    | bk G => exact h
    | rt x => exact h
theorem while_inv {I : Nat → Xe → Xs → Prop} {t : Mt} (hs : ∀ k G S, I k G S → W (t G S) fun c S1 => if c = true then W (b G S1) (Fq (fun G2 S2 => ∃ j, j < k ∧ I j G2 S2) O) else O (.nx G) S1) : ∀ (fuel k : Nat) {G : Xe} {S : Xs}, k < fuel → I k G S → W (whileX t b fuel G S) O
  | 0, k, G, S, hk, h => absurd hk (Nat.not_lt_zero _)
  | fuel + 1, k, G, S, hk, h => by
    refine w_bind ((hs k G S h).mono fun c S1 hc => ?_)
    cases c with
    | false => simp at hc ⊢; exact w_ok hc
    | true =>
      simp at hc ⊢
      refine w_bind (hc.mono fun o S2 ho => ?_)
      cases o with
      | nx G => obtain ⟨j, hj, hi⟩ := ho; exact while_inv hs fuel j (by omega) hi
      | ct G => obtain ⟨j, hj, hi⟩ := ho; exact while_inv hs fuel j (by omega) hi
      | bk G => exact w_ok ho
      | rt x => exact w_ok ho
/-! comprehensions that leave the store -/
theorem lcX_pure {tt : Mt} {e : Me} {p : Dt → Bool} {f : Dt → Dt} (xs : List Dt) (h : ∀ x ∈ xs, W (g x G S) fun G1 S1 => S1 = S ∧ W (tt G1 S) fun c S2 => c = p x ∧ S2 = S ∧ (c = true → W (e G1 S) fun y S3 => y = f x ∧ S3 = S)) : lcX g tt e G xs S = .ok ((xs.filter p).map f) S := by
  induction xs with
  | nil => rfl
  | cons x xs ih0 =>
    have ih := ih0 fun y hy => h y (List.mem_cons_of_mem _ hy)
    obtain ⟨G1, S1, e1, hS1, c, S2, e2, hc, hS2, k⟩ := h x List.mem_cons_self
    rw [hS1] at e1
    rw [hS2] at e2
    unfold lcX
    rw [e1]
    show (tt G1 S).bind _ = _
    rw [e2]
    subst hc
    show (if p x = true then _ else _) = _
    cases hp : p x with
    | true =>
      obtain ⟨y, S3, e3, hy, hS3⟩ := k hp
      rw [hS3] at e3
      rw [if_pos rfl, e3]
      show (lcX g tt e G xs S).bind _ = _
      rw [ih, List.filter_cons, if_pos hp, hy]
      rfl
    | false =>
      rw [if_neg (by simp), ih, List.filter_cons, if_neg (by simp [hp])]
theorem w_lc {w : Ma} {tt : Mt} {e : Me} {vs : List Nat} {p : Dt → Bool} {f : Dt → Dt} (h : W (w G S) fun xs S1 => xs.length ≤ 100000 ∧ (∀ x ∈ xs, W (g x (wipeX G vs) S1) fun G1 S2 => S2 = S1 ∧ W (tt G1 S1) fun c S2 => c = p x ∧ S2 = S1 ∧ (c = true → W (e G1 S1) fun y S3 => y = f x ∧ S3 = S1)) ∧ Q (.lst ((xs.filter p).map f)) S1) : W (mLc w g tt e vs G S) Q := by
  obtain ⟨xs, S1, e1, hl, hx, q⟩ := h
  refine ⟨_, S1, ?_, q⟩
  unfold mLc lcR
  rw [e1]
  show ((if xs.length ≤ 100000 then lcX g tt e (wipeX G vs) xs S1 else .bad).bind _) = _
  rw [if_pos hl, lcX_pure xs hx]
  rfl
theorem w_lcC {w : Ma} {tt : Mt} {e : Me} {vs : List Nat} {p : Dt → Bool} {f : Dt → Dt} (h : W (w G S) fun xs S1 => xs.length ≤ 100000 ∧ (∀ x ∈ xs, W (g x (wipeX G vs) S1) fun G1 S2 => S2 = S1 ∧ W (tt G1 S1) fun c S2 => c = p x ∧ S2 = S1 ∧ (c = true → W (e G1 S1) fun y S3 => y = f x ∧ S3 = S1)) ∧ Q (.loc S1.length) (S1 ++ [.lst ((xs.filter p).map f)])) : W (mLcC w g tt e vs G S) Q := by
  obtain ⟨xs, S1, e1, hl, hx, q⟩ := h
  refine ⟨_, _, ?_, q⟩
  unfold mLcC lcR
  rw [e1]
  show ((if xs.length ≤ 100000 then lcX g tt e (wipeX G vs) xs S1 else .bad).bind _) = _
  rw [if_pos hl, lcX_pure xs hx]
  rfl
/-! comprehensions with an invariant over the store (no tests) -/
theorem lcX_inv {e : Me} {I : Nat → List Dt → Xs → Prop} : ∀ (xs : List Dt) (k : Nat) (acc : List Dt) {S : Xs}, I k acc S → (∀ i x acc S, xs[i]? = some x → I (k + i) acc S → W (g x G S) fun G1 S1 => W (e G1 S1) fun y S2 => I (k + i + 1) (acc ++ [y]) S2) → W (lcX g mYes e G xs S) fun ys S' => I (k + xs.length) (acc ++ ys) S'
  | [], k, acc, S, h0, _ => w_ok (by simpa using h0)
  | x :: xs, k, acc, S, h0, hs => by
    refine w_bind ((hs 0 x acc S rfl h0).mono fun G1 S1 h => ?_)
    show W ((e G1 S1).bind _) _
    refine w_bind (h.mono fun y S2 h => ?_)
    refine w_bind ((lcX_inv xs (k + 1) (acc ++ [y]) (S := S2) h fun i x acc S e hi => ?_).mono fun ys S3 h => ?_)
    · have := hs (i + 1) x acc S (by simpa using e) (by rw [show k + (i + 1) = k + 1 + i from by omega]; exact hi)
      rw [show k + (i + 1) + 1 = k + 1 + i + 1 from by omega] at this
      exact this
    · refine w_ok ?_
      rw [List.length_cons, show k + (xs.length + 1) = k + 1 + xs.length from by omega]
      simpa using h
theorem w_lcI {w : Ma} {e : Me} {vs : List Nat} {I : Nat → List Dt → Xs → Prop} (h : W (w G S) fun xs S1 => xs.length ≤ 100000 ∧ I 0 [] S1 ∧ (∀ i x acc S, xs[i]? = some x → I i acc S → W (g x (wipeX G vs) S) fun G1 S1 => W (e G1 S1) fun y S2 => I (i + 1) (acc ++ [y]) S2) ∧ ∀ ys S2, I xs.length ys S2 → Q (.lst ys) S2) : W (mLc w g mYes e vs G S) Q := by
  obtain ⟨xs, S1, e1, hl, h0, hx, q⟩ := h
  have := lcX_inv (G := wipeX G vs) xs 0 [] h0 (fun i x acc S e hi => by
    have := hx i x acc S e (by simpa using hi)
    simpa using this)
  obtain ⟨ys, S2, e2, h2⟩ := this
  refine ⟨_, S2, ?_, q ys S2 (by simpa using h2)⟩
  unfold mLc lcR
  rw [e1]
  show ((if xs.length ≤ 100000 then lcX g mYes e (wipeX G vs) xs S1 else .bad).bind _) = _
  rw [if_pos hl, e2]
  rfl
/-! walks -/
theorem w_rng1 {m : Ma} {A : List Dt → Xs → Prop} (h : W (m G S) fun xs S1 => ∃ j : Int, xs = [.int j] ∧ -(2 ^ 62) ≤ j ∧ j < 2 ^ 62 ∧ A (rangeX 0 j.toNat) S1) : W (wRng1 m G S) A := w_bind (h.mono fun xs S1 ⟨j, e, h1, h2, q⟩ => by
  subst e
  show W (if -(2 ^ 62) ≤ j ∧ j < 2 ^ 62 then .ok (rangeX 0 j.toNat) S1 else .bad) A
  rw [if_pos ⟨h1, h2⟩]
  exact w_ok q)
theorem w_rng2 {m : Ma} {A : List Dt → Xs → Prop} (h : W (m G S) fun xs S1 => ∃ i j : Int, xs = [.int i, .int j] ∧ -(2 ^ 62) ≤ i ∧ i < 2 ^ 62 ∧ -(2 ^ 62) ≤ j ∧ j < 2 ^ 62 ∧ A (rangeX i (j - i).toNat) S1) : W (wRng2 m G S) A := w_bind (h.mono fun xs S1 ⟨i, j, e, h1, h2, h3, h4, q⟩ => by
  subst e
  show W (if -(2 ^ 62) ≤ i ∧ i < 2 ^ 62 ∧ -(2 ^ 62) ≤ j ∧ j < 2 ^ 62 then .ok (rangeX i (j - i).toNat) S1 else .bad) A
  rw [if_pos ⟨h1, h2, h3, h4⟩]
  exact w_ok q)
theorem w_rng3 {m : Ma} {A : List Dt → Xs → Prop} (h : W (m G S) fun xs S1 => ∃ i j : Int, xs = [.int i, .int j, .int (-1)] ∧ -(2 ^ 62) ≤ i ∧ i < 2 ^ 62 ∧ -(2 ^ 62) ≤ j ∧ j < 2 ^ 62 ∧ A (rangeDn i (i - j).toNat) S1) : W (wRng3 m G S) A := w_bind (h.mono fun xs S1 ⟨i, j, e, h1, h2, h3, h4, q⟩ => by
  subst e
  show W (if (-1 : Int) = -1 ∧ -(2 ^ 62) ≤ i ∧ i < 2 ^ 62 ∧ -(2 ^ 62) ≤ j ∧ j < 2 ^ 62 then .ok (rangeDn i (i - j).toNat) S1 else .bad) A
  rw [if_pos ⟨rfl, h1, h2, h3, h4⟩]
  exact w_ok q)
theorem w_any {m : Me} {A : List Dt → Xs → Prop} (h : W (m G S) fun x S1 => ∃ xs, seqV x = some xs ∧ (∀ z, x ≠ .str z) ∧ A xs S1) : W (wAny m G S) A := w_bind (h.mono fun x S1 ⟨xs, e, hn, q⟩ => by
  cases x with
  | str z => exact absurd rfl (hn z)
  | _ => exact ⟨xs, S1, by simp only [e], q⟩)
theorem w_anyS {m : Me} {A : List Dt → Xs → Prop} (h : W (m G S) fun x S1 => ∃ z, x = .str z ∧ A (signs z) S1) : W (wAny m G S) A := w_bind (h.mono fun x S1 ⟨z, e, q⟩ => by subst e; exact w_ok q)
theorem range_len (lo : Int) : ∀ n, (rangeX lo n).length = n := fun n => by rw [rangeX_eq]; simp
theorem range_get {lo : Int} {n i : Nat} {x : Dt} (h : (rangeX lo n)[i]? = some x) : i < n ∧ x = .int (lo + i) := by
  rw [rangeX_eq, List.getElem?_map] at h
  cases e : (List.range n)[i]? with
  | none => rw [e] at h; cases h
  | some k =>
    rw [e] at h
    obtain ⟨h1, h2⟩ := List.getElem?_eq_some_iff.mp e
    rw [List.getElem_range] at h2
    subst h2
    cases h
    exact ⟨by simpa using h1, rfl⟩
theorem range_mem {lo : Int} {n : Nat} {x : Dt} (h : x ∈ rangeX lo n) : ∃ i : Nat, i < n ∧ x = .int (lo + i) := by
  obtain ⟨i, e⟩ := List.mem_iff_getElem?.mp h
  exact ⟨i, range_get e⟩
/-- the ints from lo on -/
def iseq (lo : Int) (n : Nat) : List Int := (List.range n).map fun (k : Nat) => lo + (k : Int)
theorem range_iseq (lo : Int) (n : Nat) : rangeX lo n = (iseq lo n).map .int := by
  rw [rangeX_eq]; unfold iseq; rw [List.map_map]; rfl
theorem mem_iseq {lo : Int} {n : Nat} {v : Int} : v ∈ iseq lo n ↔ lo ≤ v ∧ v < lo + n := by
  unfold iseq
  rw [List.mem_map]
  constructor
  · rintro ⟨k, hk, rfl⟩
    rw [List.mem_range] at hk
    omega
  · rintro ⟨h1, h2⟩
    exact ⟨(v - lo).toNat, by rw [List.mem_range]; omega, by omega⟩
theorem iseq_len (lo : Int) (n : Nat) : (iseq lo n).length = n := by simp [iseq]
theorem filter_int {p : Int → Bool} {q : Dt → Bool} (h : ∀ i, q (.int i) = p i) : ∀ is : List Int, (is.map Dt.int).filter q = (is.filter p).map Dt.int
  | [] => rfl
  | i :: r => by
    rw [List.map_cons, List.filter_cons, List.filter_cons, h i, filter_int h r]
    split <;> rfl
end
end RY

set_option Elab.async false
set_option linter.all false
set_option maxRecDepth 100000
set_option maxHeartbeats 4000000
/-! Data without cells: == and repr. -/
namespace RY
open PySem PySem.Spec PyProof.Rows L2 RS RX
mutual
def emb : PyData → Dt
  | .none => .non
  | .bool b => .bl b
  | .int i => .int i
  | .str x => .str x
  | .list xs => .lst (embs xs)
  | .tuple xs => .tup (embs xs)
  | .dict _ => .non
def embs : List PyData → List Dt
  | [] => []
  | x :: xs => emb x :: embs xs
end
theorem embs_map : ∀ xs : List PyData, embs xs = xs.map emb
  | [] => rfl
  | x :: xs => by rw [embs, embs_map xs]; rfl
mutual
theorem toP_emb (S : Xs) : ∀ (p : PyData) (k : Nat), p.hasDict = false → p.depth < k → toP S k (emb p) = some p
  | .none, k + 1, _, _ => rfl
  | .bool b, k + 1, _, _ => rfl
  | .int b, k + 1, _, _ => rfl
  | .str b, k + 1, _, _ => rfl
  | .list xs, k + 1, h, hd => by
    show (mapO (toP S k) (embs xs)).map PyData.list = _
    rw [toPs_emb S xs k (by simpa [PyData.hasDict] using h) (by simp only [PyData.depth] at hd; omega)]
    rfl
  | .tuple xs, k + 1, h, hd => by
    show (mapO (toP S k) (embs xs)).map PyData.tuple = _
    rw [toPs_emb S xs k (by simpa [PyData.hasDict] using h) (by simp only [PyData.depth] at hd; omega)]
    rfl
  | .dict _, _, h, _ => by simp [PyData.hasDict] at h
  | .none, 0, _, h => absurd h (Nat.not_lt_zero _)
  | .bool _, 0, _, h => absurd h (Nat.not_lt_zero _)
  | .int _, 0, _, h => absurd h (Nat.not_lt_zero _)
  | .str _, 0, _, h => absurd h (Nat.not_lt_zero _)
  | .list _, 0, _, h => absurd h (Nat.not_lt_zero _)
  | .tuple _, 0, _, h => absurd h (Nat.not_lt_zero _)
theorem toPs_emb (S : Xs) : ∀ (xs : List PyData) (k : Nat), PyData.hasDictAll xs = false → PyData.depthAll xs < k ∨ xs = [] → mapO (toP S k) (embs xs) = some xs
  | [], k, _, _ => rfl
  | x :: xs, k, h, hd => by
    simp only [PyData.hasDictAll, Bool.or_eq_false_iff] at h
    rcases hd with hd | hd
    · simp only [PyData.depthAll] at hd
      show mapO (toP S k) (emb x :: embs xs) = _
      unfold mapO
      rw [toP_emb S x k h.1 (by omega)]
      dsimp only
      rw [toPs_emb S xs k h.2 (.inl (by omega))]
    · cases hd
end
/-- small enough for == and repr -/
structure Ok (p : PyData) : Prop where
  d : p.hasDict = false
  l : p.canLay0 = true
  k : p.depth < 20
section
variable {S : Xs} {Q : Dt → Xs → Prop} {p q : PyData}
theorem shaped_ok (h : Ok p) : SeqAt.shaped p = true := by
  unfold SeqAt.shaped
  rw [h.l, Bool.true_and]
  exact decide_eq_true (by have := h.k; omega)
theorem eqB_emb (hp : Ok p) (hq : Ok q) : xEqB (emb p) (emb q) S = some (PyData.eqv p q) := by
  have key : xEqD (emb p) (emb q) S = some (PyData.eqv p q) := by
    unfold xEqD
    rw [toP_emb S p 20 hp.d hp.k, toP_emb S q 20 hq.d hq.k]
    dsimp only
    rw [shaped_ok hp, shaped_ok hq]
    rfl
  cases p <;> cases q <;> first | exact key | skip
  all_goals
    rename_i i j
    show some (decide (i = j)) = some (i == j)
    rw [Bool.beq_eq_decide_eq]
theorem w_eqP (hp : Ok p) (hq : Ok q) (h : Q (.bl (PyData.eqv p q)) S) : W (xEq (emb p) (emb q) S) Q := by
  refine w_eq ?_ h
  unfold xEq
  rw [eqB_emb hp hq]
theorem w_neP (hp : Ok p) (hq : Ok q) (h : Q (.bl (!PyData.eqv p q)) S) : W (xNe (emb p) (emb q) S) Q := by
  refine w_eq ?_ h
  unfold xNe
  rw [eqB_emb hp hq]
mutual
theorem eqv_refl : ∀ p : PyData, p.hasDict = false → PyData.eqv p p = true
  | .none, _ => rfl
  | .bool b, _ => by simp [PyData.eqv]
  | .int b, _ => by simp [PyData.eqv]
  | .str b, _ => by simp [PyData.eqv]
  | .list xs, h => by rw [PyData.eqv]; exact eqvs_refl xs (by simpa [PyData.hasDict] using h)
  | .tuple xs, h => by rw [PyData.eqv]; exact eqvs_refl xs (by simpa [PyData.hasDict] using h)
  | .dict _, h => by simp [PyData.hasDict] at h
theorem eqvs_refl : ∀ xs : List PyData, PyData.hasDictAll xs = false → PyData.eqvAll xs xs = true
  | [], _ => rfl
  | x :: xs, h => by
    simp only [PyData.hasDictAll, Bool.or_eq_false_iff] at h
    rw [PyData.eqvAll, eqv_refl x h.1, eqvs_refl xs h.2]
    rfl
end
/-- repr of small data -/
structure OkR (p : PyData) : Prop extends Ok p where
  s : p.showable = true
  z : p.shown.length ≤ sizeLine
theorem w_repr (h : OkR p) (q : Q (.str p.shown) S) : W (xRepr [emb p] S) Q := by
  refine w_eq ?_ q
  unfold xRepr
  dsimp only
  rw [toP_emb S p 20 h.d h.k]
  dsimp only
  rw [if_pos ⟨h.s, h.d, h.z, by have := h.k; omega⟩]
theorem w_neSS {x : Str} (q : Q (.bl false) S) : W (xNe (.str x) (.str x) S) Q := by
  refine w_eq ?_ q
  show (match some (decide (x = x)) with | some b => Res.ok (Dt.bl (!b)) S | none => .bad) = _
  rw [decide_eq_true rfl]
  rfl
end
/-! ints -/
theorem small_int {i : Int} (h1 : -(10 ^ 12) < i) (h2 : i < 10 ^ 12) : OkR (.int i) := by
  have hn : i.natAbs < 10 ^ 12 := by omega
  refine ⟨⟨rfl, rfl, Nat.succ_pos _⟩, ?_, Nat.le_trans (PyData.shown_int_le hn) (by decide)⟩
  show decide (i.natAbs.log2 < 1920) = true
  refine decide_eq_true ?_
  have := log2_lt (i := i) (k := 40) (by omega) (by omega)
  omega
theorem ok_none : OkR .none := ⟨⟨rfl, rfl, by decide⟩, rfl, by decide⟩
theorem ok_bool (b : Bool) : OkR (.bool b) := ⟨⟨rfl, rfl, Nat.succ_pos _⟩, rfl, by cases b <;> decide⟩
/-- a measure of data for repr: ints below 10^12, so much of weight, depth -/
structure Wt (p : PyData) (n k : Nat) : Prop where
  d : p.hasDict = false
  l : p.canLay0 = true
  k : p.depth ≤ k
  s : p.showable = true
  z : p.intsShort 13 = true
  w : p.weight ≤ n
theorem Wt.ok {p : PyData} {n k : Nat} (h : Wt p n k) (hk : k < 20) (hn : n ≤ 2 ^ 20) : OkR p := ⟨⟨h.d, h.l, by have := h.k; omega⟩, h.s, PyData.shown_fits (by decide) (by decide) (PyData.leavesShort_of_canLay0 13 p h.l h.z) (Nat.le_trans h.w hn)⟩
theorem wt_int {i : Int} (h1 : -(10 ^ 12) < i) (h2 : i < 10 ^ 12) : Wt (.int i) 41 0 := by
  have ok := small_int h1 h2
  refine ⟨rfl, rfl, Nat.le_refl _, ok.s, decide_eq_true (PyData.shown_int_le (by omega)), ?_⟩
  show (if (i == 0) = true then 0 else i.natAbs.log2 + 1) ≤ 41
  have := log2_lt (i := i) (k := 39) (by omega) (by omega)
  split <;> omega
theorem wt_none : Wt .none 0 0 := ⟨rfl, rfl, Nat.le_refl _, rfl, rfl, Nat.le_refl _⟩
theorem wt_bool (b : Bool) : Wt (.bool b) 0 0 := ⟨rfl, rfl, Nat.le_refl _, rfl, rfl, Nat.le_refl _⟩
structure Wts (xs : List PyData) (n k : Nat) : Prop where
  d : PyData.hasDictAll xs = false
  l : PyData.canLayAll0 xs = true
  k : PyData.depthAll xs ≤ k
  s : PyData.showableAll xs = true
  z : PyData.intsShortAll 13 xs = true
  w : PyData.weightAll xs ≤ n
theorem wts_nil : Wts [] 0 0 := ⟨rfl, rfl, Nat.le_refl _, rfl, rfl, Nat.le_refl _⟩
theorem wts_cons {x : PyData} {xs : List PyData} {n m k j : Nat} (h : Wt x n k) (t : Wts xs m j) : Wts (x :: xs) (n + 1 + m) (max k j) := by
  refine ⟨by simp [PyData.hasDictAll, h.d, t.d], by simp [PyData.canLayAll0, h.l, t.l], ?_, by simp [PyData.showableAll, h.s, t.s], by simp [PyData.intsShortAll, h.z, t.z], ?_⟩
  · simp only [PyData.depthAll]; have := h.k; have := t.k; omega
  · simp only [PyData.weightAll]; have := h.w; have := t.w; omega
theorem wt_list {xs : List PyData} {n k : Nat} (h : Wts xs n k) : Wt (.list xs) n (k + 1) := ⟨by simp [PyData.hasDict, h.d], by simp [PyData.canLay0, h.l], by simp only [PyData.depth]; have := h.k; omega, by simp [PyData.showable, h.s], by simp [PyData.intsShort, h.z], by simp only [PyData.weight]; exact h.w⟩
theorem wt_tuple {xs : List PyData} {n k : Nat} (h : Wts xs n k) : Wt (.tuple xs) n (k + 1) := ⟨by simp [PyData.hasDict, h.d], by simp [PyData.canLay0, h.l], by simp only [PyData.depth]; have := h.k; omega, by simp [PyData.showable, h.s], by simp [PyData.intsShort, h.z], by simp only [PyData.weight]; exact h.w⟩
theorem wts_all {n k : Nat} : ∀ (xs : List PyData), (∀ x ∈ xs, Wt x n k) → Wts xs (xs.length * (n + 1)) k
  | [], _ => ⟨rfl, rfl, Nat.zero_le _, rfl, rfl, by simp [PyData.weightAll]⟩
  | x :: xs, h => by
    have t := wts_cons (h x List.mem_cons_self) (wts_all xs fun y hy => h y (List.mem_cons_of_mem _ hy))
    refine ⟨t.d, t.l, by have := t.k; omega, t.s, t.z, Nat.le_trans t.w ?_⟩
    rw [List.length_cons, Nat.succ_mul]
    omega
theorem wts_ints (is : List Int) (h : ∀ i ∈ is, -(10 ^ 12) < i ∧ i < 10 ^ 12) : Wts (is.map .int) (is.length * 42) 0 := by
  have := wts_all (n := 41) (k := 0) (is.map PyData.int) fun x hx => by
    obtain ⟨i, hi, rfl⟩ := List.mem_map.mp hx
    exact wt_int (h i hi).1 (h i hi).2
  simpa using this
theorem embs_ints (is : List Int) : embs (is.map .int) = is.map .int := by rw [embs_map, List.map_map]; rfl
theorem eqvs_ints : ∀ (is js : List Int), PyData.eqvAll (is.map .int) (js.map .int) = decide (is = js)
  | [], [] => rfl
  | [], j :: js => by simp [PyData.eqvAll]
  | i :: is, [] => by simp [PyData.eqvAll]
  | i :: is, j :: js => by
    rw [List.map_cons, List.map_cons, PyData.eqvAll, eqvs_ints is js]
    show (i == j && decide (is = js)) = _
    rw [Bool.beq_eq_decide_eq]
    simp
theorem embs_bools (is : List Bool) : embs (is.map .bool) = is.map .bl := by rw [embs_map, List.map_map]; rfl
theorem eqvs_bools : ∀ (is js : List Bool), PyData.eqvAll (is.map .bool) (js.map .bool) = decide (is = js)
  | [], [] => rfl
  | [], j :: js => by simp [PyData.eqvAll]
  | i :: is, [] => by simp [PyData.eqvAll]
  | i :: is, j :: js => by
    rw [List.map_cons, List.map_cons, PyData.eqvAll, eqvs_bools is js]
    show (i == j && decide (is = js)) = _
    cases i <;> cases j <;> simp
theorem wts_bools (is : List Bool) : Wts (is.map .bool) (is.length * 1) 0 := by
  have := wts_all (n := 0) (k := 0) (is.map PyData.bool) fun x hx => by
    obtain ⟨i, hi, rfl⟩ := List.mem_map.mp hx
    exact wt_bool i
  simpa using this
section
variable {S : Xs} {Q : Dt → Xs → Prop}
theorem ok_wt {p : PyData} {n k : Nat} (h : Wt p n k) (hk : k < 20) : Ok p := ⟨h.d, h.l, by have := h.k; omega⟩
theorem ok_ints (xs : List Int) : PyData.hasDictAll (xs.map .int) = false ∧ PyData.canLayAll0 (xs.map .int) = true ∧ PyData.depthAll (xs.map .int) = 0 := by
  induction xs with
  | nil => exact ⟨rfl, rfl, rfl⟩
  | cons x xs ih => exact ⟨by simp [PyData.hasDictAll, PyData.hasDict, ih.1], by simp [PyData.canLayAll0, PyData.canLay0, ih.2.1], by simp [PyData.depthAll, PyData.depth, ih.2.2]⟩
theorem ok_li (is : List Int) : Ok (.list (is.map .int)) := ⟨by simpa [PyData.hasDict] using (ok_ints is).1, by simpa [PyData.canLay0] using (ok_ints is).2.1, by simp [PyData.depth, (ok_ints is).2.2]⟩
theorem ok_ti (is : List Int) : Ok (.tuple (is.map .int)) := ⟨by simpa [PyData.hasDict] using (ok_ints is).1, by simpa [PyData.canLay0] using (ok_ints is).2.1, by simp [PyData.depth, (ok_ints is).2.2]⟩
theorem w_eqLI {is js : List Int} (q : Q (.bl (decide (is = js))) S) : W (xEq (.lst (is.map .int)) (.lst (js.map .int)) S) Q := by
  have := w_eqP (S := S) (Q := Q) (ok_li is) (ok_li js) (by rw [PyData.eqv, eqvs_ints]; exact q)
  simpa [emb, embs_ints] using this
theorem w_neLI {is js : List Int} (q : Q (.bl (!decide (is = js))) S) : W (xNe (.lst (is.map .int)) (.lst (js.map .int)) S) Q := by
  have := w_neP (S := S) (Q := Q) (ok_li is) (ok_li js) (by rw [PyData.eqv, eqvs_ints]; exact q)
  simpa [emb, embs_ints] using this
theorem w_eqTI {is js : List Int} (q : Q (.bl (decide (is = js))) S) : W (xEq (.tup (is.map .int)) (.tup (js.map .int)) S) Q := by
  have := w_eqP (S := S) (Q := Q) (ok_ti is) (ok_ti js) (by rw [PyData.eqv, eqvs_ints]; exact q)
  simpa [emb, embs_ints] using this
theorem w_neTI {is js : List Int} (q : Q (.bl (!decide (is = js))) S) : W (xNe (.tup (is.map .int)) (.tup (js.map .int)) S) Q := by
  have := w_neP (S := S) (Q := Q) (ok_ti is) (ok_ti js) (by rw [PyData.eqv, eqvs_ints]; exact q)
  simpa [emb, embs_ints] using this
theorem w_eqLB {is js : List Bool} (q : Q (.bl (decide (is = js))) S) : W (xEq (.lst (is.map .bl)) (.lst (js.map .bl)) S) Q := by
  have := w_eqP (S := S) (Q := Q) (ok_wt (wt_list (wts_bools is)) (by decide)) (ok_wt (wt_list (wts_bools js)) (by decide)) (by rw [PyData.eqv, eqvs_bools]; exact q)
  simpa [emb, embs_bools] using this
end
end RY

set_option Elab.async false
set_option linter.all false
set_option maxRecDepth 100000
set_option maxHeartbeats 4000000
/-! Ends of defs that made cells; dicts keyed by ints. -/
namespace RY
open PySem PySem.Spec PyProof.Rows L2 RS RX
/-- no cell of S tells of a cell beyond S -/
def Cln (S : Xs) : Prop := S.all (clnC S.length) = true
mutual
theorem fz_emb (S : Xs) (b : Nat) : ∀ (p : PyData) (k : Nat), p.hasDict = false → p.depth < k → fz S b k (emb p) = some (emb p)
  | .none, k + 1, _, _ => rfl
  | .bool _, k + 1, _, _ => rfl
  | .int _, k + 1, _, _ => rfl
  | .str _, k + 1, _, _ => rfl
  | .list xs, k + 1, h, hd => by
    show (mapO (fz S b k) (embs xs)).map Dt.lst = _
    rw [fzs_emb S b xs k (by simpa [PyData.hasDict] using h) (by simp only [PyData.depth] at hd; omega)]
    rfl
  | .tuple xs, k + 1, h, hd => by
    show (mapO (fz S b k) (embs xs)).map Dt.tup = _
    rw [fzs_emb S b xs k (by simpa [PyData.hasDict] using h) (by simp only [PyData.depth] at hd; omega)]
    rfl
  | .dict _, _, h, _ => by simp [PyData.hasDict] at h
  | .none, 0, _, h => absurd h (Nat.not_lt_zero _)
  | .bool _, 0, _, h => absurd h (Nat.not_lt_zero _)
  | .int _, 0, _, h => absurd h (Nat.not_lt_zero _)
  | .str _, 0, _, h => absurd h (Nat.not_lt_zero _)
  | .list _, 0, _, h => absurd h (Nat.not_lt_zero _)
  | .tuple _, 0, _, h => absurd h (Nat.not_lt_zero _)
theorem fzs_emb (S : Xs) (b : Nat) : ∀ (xs : List PyData) (k : Nat), PyData.hasDictAll xs = false → PyData.depthAll xs < k ∨ xs = [] → mapO (fz S b k) (embs xs) = some (embs xs)
  | [], k, _, _ => rfl
  | x :: xs, k, h, hd => by
    simp only [PyData.hasDictAll, Bool.or_eq_false_iff] at h
    rcases hd with hd | hd
    · simp only [PyData.depthAll] at hd
      show mapO (fz S b k) (emb x :: embs xs) = some (emb x :: embs xs)
      unfold mapO
      rw [fz_emb S b x k h.1 (by omega)]
      dsimp only
      rw [fzs_emb S b xs k h.2 (.inl (by omega))]
    · cases hd
end
theorem w_exitD {Q : Dt → Xs → Prop} {S T : Xs} {p : PyData} (hd : p.hasDict = false) (hk : p.depth < 64) (hc : Cln S) (q : Q (emb p) S) : W (exitX S.length (emb p) (S ++ T)) Q := by
  unfold exitX
  by_cases h : (S ++ T).length = S.length
  · rw [if_pos h]
    have : T = [] := by rw [List.length_append] at h; exact List.length_eq_zero_iff.mp (by omega)
    subst this
    rw [List.append_nil]
    exact w_ok q
  · rw [if_neg h, fz_emb _ _ p 64 hd hk]
    dsimp only
    rw [List.take_left, if_pos (show S.all (clnC S.length) = true from hc)]
    exact w_ok q
/-! ### dicts keyed by ints -/
def dInts (kvs : List (Key × Dt)) (is : List Int) : List (Key × Dt) := is.foldl (fun acc i => putKX acc (.inl i) (.bl true)) kvs
theorem val_put {τ α : Type} [DecidableEq τ] (kvs : List (τ × α)) (k j : τ) (v : α) : valKX (putKX kvs k v) j = if j = k then some v else valKX kvs j := by
  unfold putKX
  by_cases ha : (kvs.any fun kv => decide (kv.1 = k)) = true
  · rw [if_pos ha]
    induction kvs with
    | nil => cases ha
    | cons p r ih =>
      obtain ⟨a, b⟩ := p
      rw [List.map_cons]
      by_cases e : a = k
      · subst e
        by_cases e2 : j = a
        · subst e2; simp [valKX]
        · have h1 : valKX ((a, v) :: r.map fun kv => if kv.1 = a then (kv.1, v) else kv) j = valKX (r.map fun kv => if kv.1 = a then (kv.1, v) else kv) j := by simp [valKX, Ne.symm e2]
          have h2 : valKX ((a, b) :: r) j = valKX r j := by simp [valKX, Ne.symm e2]
          simp only [if_true]
          rw [h1, h2, if_neg e2]
          clear ih ha h1 h2
          induction r with
          | nil => rfl
          | cons q r ih =>
            obtain ⟨c, d⟩ := q
            rw [List.map_cons]
            by_cases e3 : c = a
            · subst e3
              have h1 : valKX ((c, v) :: r.map fun kv => if kv.1 = c then (kv.1, v) else kv) j = valKX (r.map fun kv => if kv.1 = c then (kv.1, v) else kv) j := by simp [valKX, Ne.symm e2]
              have h2 : valKX ((c, d) :: r) j = valKX r j := by simp [valKX, Ne.symm e2]
              simp only [if_true]
              rw [h1, h2, ih]
            · rw [if_neg e3]
              by_cases e4 : c = j
              · simp [valKX, e4]
              · have h1 : valKX ((c, d) :: r.map fun kv => if kv.1 = a then (kv.1, v) else kv) j = valKX (r.map fun kv => if kv.1 = a then (kv.1, v) else kv) j := by simp [valKX, e4]
                have h2 : valKX ((c, d) :: r) j = valKX r j := by simp [valKX, e4]
                rw [h1, h2, ih]
      · rw [if_neg e]
        have ha2 : (r.any fun kv => decide (kv.1 = k)) = true := by simpa [e] using ha
        by_cases e4 : a = j
        · subst e4
          rw [if_neg e]
          simp [valKX]
        · have h1 : valKX ((a, b) :: r.map fun kv => if kv.1 = k then (kv.1, v) else kv) j = valKX (r.map fun kv => if kv.1 = k then (kv.1, v) else kv) j := by simp [valKX, e4]
          have h2 : valKX ((a, b) :: r) j = valKX r j := by simp [valKX, e4]
          rw [h1, h2]
          exact ih ha2
  · rw [if_neg ha]
    have hn : ∀ p ∈ kvs, p.1 ≠ k := fun p hp e => ha (List.any_eq_true.mpr ⟨p, hp, decide_eq_true e⟩)
    clear ha
    induction kvs with
    | nil =>
      by_cases e : j = k
      · subst e; simp [valKX]
      · simp [valKX, e, Ne.symm e]
    | cons p r ih =>
      obtain ⟨a, b⟩ := p
      by_cases e4 : a = j
      · subst e4
        have : a ≠ k := hn (a, b) List.mem_cons_self
        rw [if_neg this]
        simp [valKX]
      · have h1 : valKX ((a, b) :: (r ++ [(k, v)])) j = valKX (r ++ [(k, v)]) j := by simp [valKX, e4]
        have h2 : valKX ((a, b) :: r) j = valKX r j := by simp [valKX, e4]
        rw [List.cons_append, h1, h2]
        exact ih fun p hp => hn p (List.mem_cons_of_mem _ hp)
theorem dInts_val : ∀ (is : List Int) (kvs : List (Key × Dt)) (j : Int), valKX (dInts kvs is) (.inl j) = if j ∈ is then some (.bl true) else valKX kvs (.inl j)
  | [], kvs, j => by simp [dInts]
  | i :: is, kvs, j => by
    show valKX (dInts (putKX kvs (.inl i) (.bl true)) is) (.inl j) = _
    rw [dInts_val is, val_put]
    by_cases h1 : j ∈ is
    · simp [h1]
    · by_cases h2 : j = i
      · simp [h2]
      · simp [h1, h2]
theorem len_put {τ α : Type} [DecidableEq τ] (kvs : List (τ × α)) (k : τ) (v : α) : (putKX kvs k v).length ≤ kvs.length + 1 := by
  unfold putKX
  split <;> simp
section
variable {G : Xe} {Q : Dt → Xs → Prop} {g : Dt → Xe → Xs → Res Xe}
theorem dcX_ints {k v : Me} {n : Nat} (hk : ∀ (i : Int) S, W (g (.int i) G S) fun G1 S1 => S1 = S ∧ W (k G1 S) fun y S2 => y = .int i ∧ S2 = S ∧ W (v G1 S) fun z S3 => z = .bl true ∧ S3 = S) :
    ∀ (is : List Int) (kvs : List (Key × Dt)) (S : Xs), S[n]? = some (.dK kvs) → kvs.length + is.length ≤ 100000 → dcX g mYes k v n G (is.map .int) S = .ok () (S.set n (.dK (dInts kvs is)))
  | [], kvs, S, hS, _ => by
    show Res.ok () S = _
    congr 1
    refine List.ext_getElem? fun j => ?_
    by_cases e : n = j
    · subst e
      rw [hS, List.getElem?_set_self (List.getElem?_eq_some_iff.mp hS).1]
      rfl
    · rw [List.getElem?_set_ne e]
  | i :: is, kvs, S, hS, hl => by
    have hb : n < S.length := (List.getElem?_eq_some_iff.mp hS).1
    obtain ⟨G1, S1, e1, h1, y, S2, e2, hy, h2, z, S3, e3, hz, h3⟩ := hk i S
    subst h1 hy hz
    rw [h2] at e2
    rw [h3] at e3
    show (g (.int i) G S1).bind _ = _
    rw [e1]
    show ((k G1 S1).bind _) = _
    rw [e2]
    show ((v G1 S1).bind _) = _
    rw [e3]
    show (match S1[n]? with
      | some (.dK kvs) => (match keyD (.int i) with | some j => if kvs.length < 100000 then dcX g mYes k v n G (is.map .int) (S1.set n (.dK (putKX kvs j (.bl true)))) else .bad | none => .bad)
      | _ => .bad) = _
    rw [hS]
    show (if kvs.length < 100000 then _ else _) = _
    rw [List.length_cons] at hl
    rw [if_pos (by omega), dcX_ints hk is (putKX kvs (.inl i) (.bl true)) _ (by rw [List.getElem?_set_self hb]) (by have := len_put kvs (.inl i : Key) (Dt.bl true); omega), List.set_set]
    rfl
theorem w_dcI {w : Ma} {k v : Me} {vs : List Nat} {S : Xs} (h : W (w G S) fun xs S1 => ∃ is : List Int, xs = is.map .int ∧ is.length ≤ 100000 ∧ (∀ (i : Int) S, W (g (.int i) (wipeX G vs) S) fun G1 S1 => S1 = S ∧ W (k G1 S) fun y S2 => y = .int i ∧ S2 = S ∧ W (v G1 S) fun z S3 => z = .bl true ∧ S3 = S) ∧ Q (.loc S1.length) (S1 ++ [.dK (dInts [] is)])) : W (mDc w g mYes k v vs G S) Q := by
  obtain ⟨xs, S1, e1, is, rfl, hl, hk, q⟩ := h
  refine ⟨_, _, ?_, q⟩
  unfold mDc
  rw [e1]
  show (if (is.map Dt.int).length ≤ 100000 then (dcX g mYes k v S1.length (wipeX G vs) (is.map .int) (S1 ++ [.dK []])).bind _ else .bad) = _
  rw [if_pos (by simpa using hl), dcX_ints hk is [] _ (by simp) (by simpa using hl)]
  show Res.ok (Dt.loc S1.length) ((S1 ++ [Xc.dK []]).set S1.length (.dK (dInts [] is))) = _
  congr 1
  rw [List.set_append_right _ _ (Nat.le_refl _)]
  simp
theorem w_din {y d : Me} {S : Xs} (h : W (y G S) fun k S1 => W (d G S1) fun x S2 => ∃ o, dgX S2 x k = some o ∧ Q (.bl o.isSome) S2) : W (mDIn y d G S) Q := w_bind (h.mono fun k S1 h1 => w_bind (h1.mono fun x S2 ⟨o, e, q⟩ => by
  show W (match dgX S2 x k with | some o => .ok (.bl o.isSome) S2 | none => .bad) Q
  rw [e]
  exact w_ok q))
theorem dgX_ints {S : Xs} {n : Nat} {is : List Int} {i : Int} (h : S[n]? = some (.dK (dInts [] is))) : dgX S (.loc n) (.int i) = some (if i ∈ is then some (.bl true) else none) := by
  unfold dgX
  dsimp only
  rw [h]
  show some (valKX (dInts [] is) (.inl i)) = _
  rw [dInts_val]
  rfl
end
theorem cln_mono {b b' : Nat} (h : b ≤ b') : ∀ (k : Nat) (x : Dt), cln b k x = true → cln b' k x = true := by
  intro k
  induction k with
  | zero => intro x h; cases h
  | succ k ih =>
    intro x hx
    cases x with
    | loc n => exact decide_eq_true (Nat.lt_of_lt_of_le (of_decide_eq_true hx) h)
    | lst xs => exact List.all_eq_true.mpr fun y hy => ih y (List.all_eq_true.mp hx y hy)
    | tup xs => exact List.all_eq_true.mpr fun y hy => ih y (List.all_eq_true.mp hx y hy)
    | obj c fs => exact List.all_eq_true.mpr fun y hy => ih y.2 (List.all_eq_true.mp hx y hy)
    | _ => rfl
theorem clnC_mono {b b' : Nat} (h : b ≤ b') (c : Xc) (hc : clnC b c = true) : clnC b' c = true := by
  cases c with
  | lst xs => exact List.all_eq_true.mpr fun y hy => cln_mono h 64 y (List.all_eq_true.mp hc y hy)
  | ins k fs => exact List.all_eq_true.mpr fun y hy => cln_mono h 64 y.2 (List.all_eq_true.mp hc y hy)
  | dK fs => exact List.all_eq_true.mpr fun y hy => cln_mono h 64 y.2 (List.all_eq_true.mp hc y hy)
  | dT fs => exact List.all_eq_true.mpr fun y hy => cln_mono h 64 y.2 (List.all_eq_true.mp hc y hy)
theorem cln_push {S : Xs} {c : Xc} (h : Cln S) (hc : clnC (S.length + 1) c = true) : Cln (S ++ [c]) := by
  unfold Cln
  rw [List.length_append, List.all_append, Bool.and_eq_true]
  refine ⟨List.all_eq_true.mpr fun x hx => clnC_mono (by simp) x (List.all_eq_true.mp h x hx), ?_⟩
  simp only [List.all_cons, List.all_nil, Bool.and_true]
  exact hc
theorem set_last {S : Xs} {c d : Xc} : (S ++ [c]).set S.length d = S ++ [d] := by
  rw [List.set_append_right _ _ (Nat.le_refl _)]
  simp
theorem putX_new {f : Str} {y : Dt} {ns : List Str} : ∀ {fs : List (Str × Dt)}, fs.map (·.1) = ns → ns.contains f = false → putX f y fs = fs ++ [(f, y)] := by
  intro fs h hn
  subst h
  induction fs with
  | nil => rfl
  | cons p r ih =>
    obtain ⟨g, e⟩ := p
    rw [List.map_cons, List.contains_cons, Bool.or_eq_false_iff] at hn
    unfold putX
    rw [if_neg (fun z => by simp [z] at hn), ih hn.2]
    rfl
theorem get_last {S : Xs} {c : Xc} : (S ++ [c])[S.length]? = some c := by simp
theorem fz_ti (S : Xs) (b : Nat) (is : List Int) {k : Nat} (h : 1 < k) : fz S b k (.tup (is.map .int)) = some (.tup (is.map .int)) := by
  have := fz_emb S b (.tuple (is.map .int)) k (ok_ti is).d (by simp only [PyData.depth, (ok_ints is).2.2]; omega)
  simpa [emb, embs_ints] using this
theorem fz_li (S : Xs) (b : Nat) (is : List Int) {k : Nat} (h : 1 < k) : fz S b k (.lst (is.map .int)) = some (.lst (is.map .int)) := by
  have := fz_emb S b (.list (is.map .int)) k (ok_li is).d (by simp only [PyData.depth, (ok_ints is).2.2]; omega)
  simpa [emb, embs_ints] using this
theorem w_exitO {Q : Dt → Xs → Prop} {S : Xs} {c : Nat} {fs : List (Str × Dt)} (hf : ∀ p ∈ fs, fz (S ++ [.ins c fs]) S.length 63 p.2 = some p.2) (hc : Cln S) (q : Q (.obj c fs) S) : W (exitX S.length (.loc S.length) (S ++ [.ins c fs])) Q := by
  have hm : ∀ (T : Xs) (gs : List (Str × Dt)), (∀ p ∈ gs, fz T S.length 63 p.2 = some p.2) → mapO (sndO (fz T S.length 63)) gs = some gs := by
    intro T gs
    induction gs with
    | nil => intro _; rfl
    | cons p r ih =>
      intro h
      unfold mapO
      have : sndO (fz T S.length 63) p = some p := by
        unfold sndO
        rw [h p List.mem_cons_self]
      rw [this]
      dsimp only
      rw [ih fun x hx => h x (List.mem_cons_of_mem _ hx)]
  have ez : fz (S ++ [.ins c fs]) S.length 64 (.loc S.length) = some (.obj c fs) := by
    have e : fz (S ++ [.ins c fs]) S.length 64 (.loc S.length) = if S.length < S.length then some (.loc S.length) else match (S ++ [Xc.ins c fs])[S.length]? with
      | some (.lst xs) => (mapO (fz (S ++ [.ins c fs]) S.length 63) xs).map .lst
      | some (.ins c' fs') => (mapO (sndO (fz (S ++ [.ins c fs]) S.length 63)) fs').map (.obj c')
      | _ => none := rfl
    rw [e, if_neg (Nat.lt_irrefl _), get_last]
    dsimp only
    rw [hm _ fs hf]
    rfl
  unfold exitX
  rw [if_neg (by simp), ez]
  dsimp only
  rw [List.take_left, if_pos (show S.all (clnC S.length) = true from hc)]
  exact w_ok q
end RY

set_option Elab.async false
set_option linter.all false
set_option maxRecDepth 100000
set_option maxHeartbeats 4000000
/-! Calendars: the mathematics. -/
namespace RY
/-- bs tells itself again by its first d -/
def Per (bs : List Bool) (d : Nat) : Prop := ∀ i, i < bs.length → bs[i]? = bs[i % d]?
theorem rep_get {α : Type} (xs : List α) : ∀ (k i : Nat), 0 < xs.length → i < k * xs.length → (List.replicate k xs).flatten[i]? = xs[i % xs.length]?
  | 0, i, _, h => by simp at h
  | k + 1, i, hp, h => by
    rw [List.replicate_succ, List.flatten_cons]
    by_cases hi : i < xs.length
    · rw [List.getElem?_append_left hi, Nat.mod_eq_of_lt hi]
    · rw [List.getElem?_append_right (by omega), rep_get xs k (i - xs.length) hp (by rw [Nat.add_one_mul] at h; omega)]
      congr 1
      exact (Nat.mod_eq_sub_mod (by omega)).symm
theorem rep_len {α : Type} (xs : List α) (k : Nat) : (List.replicate k xs).flatten.length = k * xs.length := by
  induction k with
  | zero => simp
  | succ k ih => rw [List.replicate_succ, List.flatten_cons, List.length_append, ih, Nat.succ_mul]; omega
theorem per_iff {bs : List Bool} {d : Nat} (h0 : 0 < d) (h1 : d ≤ bs.length) (h2 : bs.length % d = 0) : bs = (List.replicate (bs.length / d) (bs.take d)).flatten ↔ Per bs d := by
  have hl : (bs.take d).length = d := by rw [List.length_take]; omega
  have hm : bs.length / d * d = bs.length := by have := Nat.div_add_mod bs.length d; rw [h2] at this; rw [Nat.mul_comm]; omega
  constructor
  · intro e i hi
    have : bs[i]? = (List.replicate (bs.length / d) (bs.take d)).flatten[i]? := by rw [← e]
    rw [this, rep_get _ _ _ (by omega) (by rw [hl, hm]; exact hi), hl, List.getElem?_take_of_lt (Nat.mod_lt _ h0)]
  · intro h
    refine List.ext_getElem? fun i => ?_
    by_cases hi : i < bs.length
    · rw [rep_get _ _ _ (by omega) (by rw [hl, hm]; exact hi), hl, List.getElem?_take_of_lt (Nat.mod_lt _ h0)]
      exact h i hi
    · rw [List.getElem?_eq_none (by omega), List.getElem?_eq_none (by rw [rep_len, hl, hm]; omega)]
/-- d is the least period of bs among the divisors of its length -/
structure LP (bs : List Bool) (d : Nat) : Prop where
  pos : 0 < d
  le : d ≤ bs.length
  dvd : bs.length % d = 0
  per : Per bs d
  least : ∀ e, 0 < e → e < d → bs.length % e = 0 → ¬ Per bs e
theorem per_self (bs : List Bool) : Per bs bs.length := fun i hi => by rw [Nat.mod_eq_of_lt hi]
end RY

set_option Elab.async false
set_option linter.all false
set_option maxRecDepth 100000
set_option maxHeartbeats 4000000
/-! Calendars: least form, heads of filters, counts. -/
namespace RY
open PySem RX
/-- the bits of rests below p -/
def bitsOf (p : Int) (rs : List Int) : List Bool := (iseq 0 p.toNat).map fun r => decide (r ∈ rs)
theorem bits_len (p : Int) (rs : List Int) : (bitsOf p rs).length = p.toNat := by simp [bitsOf, iseq_len]
theorem bits_get {p : Int} {rs : List Int} {i : Nat} (h : i < p.toNat) : (bitsOf p rs)[i]? = some (decide ((i : Int) ∈ rs)) := by
  unfold bitsOf iseq
  rw [List.map_map, List.getElem?_map, List.getElem?_range h]
  simp
/-- what least_form hands back: few, start, period, rests -/
structure LF (few : List Int) (st p : Int) (rs : List Int) (few' : List Int) (st' : Int) (d : Nat) (rs' : List Int) : Prop where
  lp : LP (bitsOf p rs) d
  s1 : 1 ≤ st'
  s2 : st' ≤ st
  eq : ∀ m, st' ≤ m → m < st → decide (m ∈ few) = decide (m % (d : Int) ∈ rs)
  ne : st' = 1 ∨ decide (st' - 1 ∈ few) ≠ decide ((st' - 1) % (d : Int) ∈ rs)
  few : few' = (iseq 1 (st' - 1).toNat).filter fun m => decide (m ∈ few)
  rests : rs' = (iseq 0 d).filter fun m => decide (m ∈ rs)
/-- whether n is in the set that is told -/
def hasR (few : List Int) (st p : Int) (rs : List Int) (n : Int) : Bool := if n < 1 then false else if n < st then decide (n ∈ few) else decide (n % p ∈ rs)
section
variable {few rs few' rs' : List Int} {st p st' : Int} {d : Nat}
theorem LF.dp (L : LF few st p rs few' st' d rs') : (d : Int) ≤ p := by have := L.lp.le; rw [bits_len] at this; have := L.lp.pos; omega
theorem LF.dvd (L : LF few st p rs few' st' d rs') : (d : Int) ∣ p := by
  have := L.lp.dvd
  rw [bits_len] at this
  have hp := L.dp
  have h0 := L.lp.pos
  have : (p.toNat : Int) % (d : Int) = 0 := by rw [← Int.natCast_emod]; omega
  rw [Int.toNat_of_nonneg (by omega)] at this
  exact Int.dvd_of_emod_eq_zero this
theorem LF.per (L : LF few st p rs few' st' d rs') {r : Int} (h0 : 0 ≤ r) (h1 : r < p) : decide (r ∈ rs) = decide (r % (d : Int) ∈ rs) := by
  have hp := L.lp.per r.toNat (by rw [bits_len]; omega)
  have hd := L.lp.pos
  have hdp := L.dp
  have hm := Nat.mod_lt r.toNat hd
  rw [bits_get (by omega), bits_get (by omega)] at hp
  have := Option.some.inj hp
  rw [Int.natCast_emod, Int.toNat_of_nonneg h0] at this
  exact this
theorem LF.memR (L : LF few st p rs few' st' d rs') {n : Int} : decide (n % (d : Int) ∈ rs') = decide (n % (d : Int) ∈ rs) := by
  have h1 : 0 ≤ n % (d : Int) := Int.emod_nonneg _ (by have := L.lp.pos; omega)
  have h2 : n % (d : Int) < d := Int.emod_lt_of_pos _ (by have := L.lp.pos; omega)
  rw [L.rests]
  refine decide_eq_decide.mpr ?_
  rw [List.mem_filter, mem_iseq]
  simp
  intro _
  omega
theorem LF.modp (L : LF few st p rs few' st' d rs') (n : Int) : decide (n % p ∈ rs) = decide (n % (d : Int) ∈ rs) := by
  have hp := L.dp
  have hd := L.lp.pos
  rw [L.per (Int.emod_nonneg n (by omega)) (Int.emod_lt_of_pos n (by omega)), Int.emod_emod_of_dvd n L.dvd]
theorem LF.has (L : LF few st p rs few' st' d rs') {n : Int} (h1 : 1 ≤ n) : hasR few st p rs n = if n < st' then decide (n ∈ few') else decide (n % (d : Int) ∈ rs') := by
  unfold hasR
  rw [if_neg (by omega)]
  have hs := L.s2
  by_cases h : n < st'
  · rw [if_pos h, if_pos (by omega), L.few]
    refine decide_eq_decide.mpr ?_
    rw [List.mem_filter, mem_iseq]
    simp
    intro _
    omega
  · rw [if_neg h, L.memR]
    by_cases h2 : n < st
    · rw [if_pos h2]; exact L.eq n (by omega) h2
    · rw [if_neg h2, L.modp]
end
/-! heads -/
theorem iseq_cons (lo : Int) (n : Nat) : iseq lo (n + 1) = lo :: iseq (lo + 1) n := by
  unfold iseq
  rw [List.range_succ_eq_map, List.map_cons, List.map_map]
  congr 1
  · simp
  · refine List.map_congr_left fun k _ => ?_
    show lo + ((k + 1 : Nat) : Int) = lo + 1 + (k : Int)
    push_cast
    omega
theorem iseq_append (lo : Int) (n m : Nat) : iseq lo (n + m) = iseq lo n ++ iseq (lo + n) m := by
  unfold iseq
  rw [List.range_add, List.map_append, List.map_map]
  congr 1
  refine List.map_congr_left fun k _ => ?_
  show lo + ((n + k : Nat) : Int) = lo + (n : Int) + (k : Int)
  push_cast
  omega
theorem head_filter {q : Int → Bool} : ∀ (n : Nat) (lo a : Int), lo ≤ a → a < lo + n → q a = true → (∀ m, lo ≤ m → m < a → q m = false) → ((iseq lo n).filter q).head? = some a
  | 0, lo, a, h1, h2, _, _ => by omega
  | n + 1, lo, a, h1, h2, h3, h4 => by
    rw [iseq_cons, List.filter_cons]
    by_cases e : lo = a
    · subst e
      rw [if_pos h3]
      rfl
    · rw [if_neg (by simp [h4 lo (Int.le_refl _) (by omega)])]
      exact head_filter n (lo + 1) a (by omega) (by push_cast at h2; omega) h3 fun m h5 h6 => h4 m (by omega) h6
theorem filter_none {q : Int → Bool} {lo : Int} {n : Nat} (h : ∀ m, lo ≤ m → m < lo + n → q m = false) : (iseq lo n).filter q = [] := by
  rw [List.filter_eq_nil_iff]
  intro m hm
  rw [mem_iseq] at hm
  simp [h m hm.1 hm.2]
theorem head_mem {q : Int → Bool} {lo : Int} {n : Nat} {a : Int} (h : ((iseq lo n).filter q).head? = some a) : lo ≤ a ∧ a < lo + n ∧ q a = true ∧ ∀ m, lo ≤ m → m < a → q m = false := by
  induction n generalizing lo with
  | zero => simp [iseq] at h
  | succ n ih =>
    rw [iseq_cons, List.filter_cons] at h
    by_cases e : q lo = true
    · rw [if_pos e] at h
      cases h
      exact ⟨by omega, by push_cast; omega, e, fun m h1 h2 => by omega⟩
    · rw [if_neg e] at h
      obtain ⟨h1, h2, h3, h4⟩ := ih h
      refine ⟨by omega, by push_cast; omega, h3, fun m h5 h6 => ?_⟩
      by_cases e2 : m = lo
      · subst e2; simpa using e
      · exact h4 m (by omega) h6
/-! the least one -/
def lof (o : Option Int) : Dt := match o with | some i => .int i | none => .non
section
variable {few rs few' rs' : List Int} {st p st' : Int} {d : Nat}
theorem LF.least_few (L : LF few st p rs few' st' d rs') (hp : 1 ≤ p) {a : Int} {t : List Int} (e : few' = a :: t) : ((iseq 1 (st + 2 * p - 1).toNat).filter (hasR few st p rs)).head? = some a := by
  have hf : few'.head? = some a := by rw [e]; rfl
  rw [L.few] at hf
  obtain ⟨h1, h2, h3, h4⟩ := head_mem hf
  have s1 := L.s1
  have s2 := L.s2
  refine head_filter _ _ _ h1 (by omega) ?_ fun m h5 h6 => ?_
  · unfold hasR; rw [if_neg (by omega), if_pos (by omega)]; exact h3
  · unfold hasR; rw [if_neg (by omega), if_pos (by omega)]; exact h4 m h5 h6
theorem LF.least_none (L : LF few st p rs few' st' d rs') (e : few' = []) (e2 : rs' = []) : ((iseq 1 (st + 2 * p - 1).toNat).filter (hasR few st p rs)).head? = none := by
  rw [filter_none]
  · rfl
  · intro m h1 h2
    rw [L.has h1, e, e2]
    split <;> rfl
theorem LF.least_rest (L : LF few st p rs few' st' d rs') (e : few' = []) {m : Int} (hm : m ∈ rs'.map fun r => (r - st') % (d : Int)) (hl : ∀ y ∈ rs'.map fun r => (r - st') % (d : Int), m ≤ y) : ((iseq 1 (st + 2 * p - 1).toNat).filter (hasR few st p rs)).head? = some (st' + m) := by
  have s1 := L.s1
  have s2 := L.s2
  have hd := L.lp.pos
  have hdp := L.dp
  obtain ⟨r, hr, rfl⟩ := List.mem_map.mp hm
  have hr2 := hr
  rw [L.rests, List.mem_filter, mem_iseq] at hr2
  have m0 : 0 ≤ (r - st') % (d : Int) := Int.emod_nonneg _ (by omega)
  have m1 : (r - st') % (d : Int) < d := Int.emod_lt_of_pos _ (by omega)
  have em : (st' + (r - st') % (d : Int)) % (d : Int) = r := by
    rw [Int.add_emod, Int.emod_emod, ← Int.add_emod]
    rw [show st' + (r - st') = r from by omega]
    exact Int.emod_eq_of_lt (by omega) (by omega)
  refine head_filter _ _ _ (by omega) (by omega) ?_ fun n h5 h6 => ?_
  · rw [L.has (by omega), if_neg (by omega), em]
    exact decide_eq_true hr
  · rw [L.has h5]
    by_cases h : n < st'
    · rw [if_pos h, e]; rfl
    · rw [if_neg h]
      refine decide_eq_false fun hn => ?_
      have := hl _ (List.mem_map.mpr ⟨_, hn, rfl⟩)
      have e3 : (n % (d : Int) - st') % (d : Int) = n - st' := by
        rw [Int.sub_emod, Int.emod_emod, ← Int.sub_emod]
        exact Int.emod_eq_of_lt (by omega) (by omega)
      omega
/-! size -/
theorem LF.rests_nil (L : LF few st p rs few' st' d rs') (br : ∀ v ∈ rs, 0 ≤ v ∧ v ≤ p - 1) : rs' = [] ↔ rs = [] := by
  constructor
  · intro e
    cases rs with
    | nil => rfl
    | cons r t =>
      have hr := br r List.mem_cons_self
      have h := L.per (r := r) hr.1 (by omega)
      rw [← L.memR, e] at h
      simp at h
  · intro e
    rw [L.rests, e]
    simp
theorem LF.size (L : LF few st p rs few' st' d rs') (e : rs = []) : few'.length = ((iseq 1 (st - 1).toNat).filter (hasR few st p rs)).length := by
  have s1 := L.s1
  have s2 := L.s2
  have e1 : (st - 1).toNat = (st' - 1).toNat + (st - st').toNat := by omega
  rw [e1, iseq_append, List.filter_append, List.length_append, filter_none (lo := 1 + ((st' - 1).toNat : Int))]
  · rw [L.few, List.length_nil, Nat.add_zero]
    congr 1
    refine List.filter_congr fun m hm => ?_
    rw [mem_iseq] at hm
    unfold hasR
    rw [if_neg (by omega), if_pos (by omega)]
  · intro m h1 h2
    unfold hasR
    rw [if_neg (by omega), if_pos (by omega), L.eq m (by omega) (by omega), e]
    rfl
/-! share -/
theorem count_per {q : Int → Bool} {d : Nat} (hq : ∀ n : Int, q (n + d) = q n) : ∀ k : Nat, ((iseq 0 (k * d)).filter q).length = k * ((iseq 0 d).filter q).length
  | 0 => by simp [iseq]
  | k + 1 => by
    rw [Nat.add_one_mul, Nat.add_comm, iseq_append, List.filter_append, List.length_append, Nat.add_one_mul, Nat.add_comm (k * _)]
    congr 1
    have : (iseq (0 + (d : Int)) (k * d)) = (iseq 0 (k * d)).map (· + (d : Int)) := by
      unfold iseq
      rw [List.map_map]
      refine List.map_congr_left fun i _ => ?_
      show 0 + (d : Int) + (i : Int) = 0 + (i : Int) + d
      omega
    rw [this, List.filter_map, List.length_map, ← count_per hq k]
    congr 1
    refine List.filter_congr fun m _ => ?_
    exact hq m
theorem LF.count (L : LF few st p rs few' st' d rs') : ((iseq 0 p.toNat).filter fun m => decide (m ∈ rs)).length = p.toNat / d * rs'.length := by
  have hp := L.dp
  have hd := L.lp.pos
  have hdv := L.lp.dvd
  rw [bits_len] at hdv
  have e : p.toNat = p.toNat / d * d := by have := Nat.div_add_mod p.toNat d; rw [hdv] at this; rw [Nat.mul_comm]; omega
  have e1 : ((iseq 0 p.toNat).filter fun m => decide (m ∈ rs)) = (iseq 0 p.toNat).filter fun m => decide (m % (d : Int) ∈ rs) := by
    refine List.filter_congr fun m hm => ?_
    rw [mem_iseq] at hm
    exact L.per hm.1 (by omega)
  have e2 : rs' = (iseq 0 d).filter fun m => decide (m % (d : Int) ∈ rs) := by
    rw [L.rests]
    refine List.filter_congr fun m hm => ?_
    rw [mem_iseq] at hm
    rw [Int.emod_eq_of_lt hm.1 (by omega)]
  rw [e1, e2]
  have := count_per (q := fun m => decide (m % (d : Int) ∈ rs)) (d := d) (fun n => by simp) (p.toNat / d)
  rw [← e] at this
  exact this
theorem LF.share (L : LF few st p rs few' st' d rs') {many g g' : Nat} (hm : many = ((iseq 0 p.toNat).filter fun m => decide (m ∈ rs)).length) (hg : g = Nat.gcd d rs'.length) (hg' : g' = Nat.gcd p.toNat many) : rs'.length / g = many / g' ∧ d / g = p.toNat / g' := by
  have hp := L.dp
  have hd := L.lp.pos
  have hdv := L.lp.dvd
  rw [bits_len] at hdv
  have e : p.toNat = p.toNat / d * d := by have := Nat.div_add_mod p.toNat d; rw [hdv] at this; rw [Nat.mul_comm]; omega
  rw [L.count] at hm
  have hk : 0 < p.toNat / d := Nat.div_pos (by omega) hd
  generalize p.toNat / d = k at *
  have e3 : g' = k * g := by rw [hg', hm, e, Nat.gcd_mul_left, hg]
  rw [e3, hm, e]
  exact ⟨(Nat.mul_div_mul_left _ _ hk).symm, (Nat.mul_div_mul_left _ _ hk).symm⟩
end
end RY

set_option Elab.async false
set_option linter.all false
set_option maxRecDepth 100000
set_option maxHeartbeats 4000000
/-! Texts as lists of codes; joins; ints as texts. -/
namespace RY
open PySem PySem.Spec PyProof.Rows L2 RS RX
abbrev cd (x : Str) : List Nat := x.cps.toList
theorem cd_inj {x y : Str} (h : cd x = cd y) : x = y := by
  obtain ⟨⟨a⟩⟩ := x
  obtain ⟨⟨b⟩⟩ := y
  have : a = b := h
  rw [this]
theorem cd_app (a b : Str) : cd (a ++ b) = cd a ++ cd b := by
  show (a ++ b).cps.toList = _
  rw [Str.cps_append, Array.toList_append]
theorem cd_len (x : Str) : (cd x).length = x.length := by
  obtain ⟨⟨a⟩⟩ := x
  rfl
def jn (s : List Nat) : List (List Nat) → List Nat
  | [] => []
  | [t] => t
  | t :: u :: r => t ++ s ++ jn s (u :: r)
theorem cd_join (s : Str) : ∀ ts : List Str, cd (Txt.join s ts) = jn (cd s) (ts.map cd) := by
  intro ts
  show cd (Builtin.Str.glued s ts) = _
  rw [StrLaws.glued_eq_join]
  induction ts with
  | nil => rfl
  | cons t r ih =>
    cases r with
    | nil => rfl
    | cons u r =>
      show cd (t ++ s ++ Str.join s (u :: r)) = cd t ++ cd s ++ jn (cd s) ((u :: r).map cd)
      rw [cd_app, cd_app, ih]
theorem jn_app (s : List Nat) : ∀ (a : List (List Nat)) {b : List (List Nat)}, a ≠ [] → b ≠ [] → jn s (a ++ b) = jn s a ++ s ++ jn s b
  | [], _, h, _ => absurd rfl h
  | [t], b, _, hb => by
    cases b with
    | nil => exact absurd rfl hb
    | cons u r => rfl
  | t :: u :: r, b, _, hb => by
    have ih := jn_app s (u :: r) (b := b) (by simp) hb
    show t ++ s ++ jn s ((u :: r) ++ b) = t ++ s ++ jn s (u :: r) ++ s ++ jn s b
    rw [ih]
    simp [List.append_assoc]
theorem pre_eq {c : Nat} : ∀ {a b x y : List Nat}, c ∉ a → c ∉ b → a ++ c :: x = b ++ c :: y → a = b ∧ x = y
  | [], [], x, y, _, _, h => by simp at h; exact ⟨rfl, h⟩
  | [], d :: b, x, y, _, hb, h => by
    simp only [List.nil_append, List.cons_append, List.cons.injEq] at h
    exact absurd (by rw [h.1]; exact List.mem_cons_self) hb
  | d :: a, [], x, y, ha, _, h => by
    simp only [List.nil_append, List.cons_append, List.cons.injEq] at h
    exact absurd (by rw [← h.1]; exact List.mem_cons_self) ha
  | d :: a, e :: b, x, y, ha, hb, h => by
    simp only [List.cons_append, List.cons.injEq] at h
    obtain ⟨h1, h2⟩ := pre_eq (fun z => ha (List.mem_cons_of_mem _ z)) (fun z => hb (List.mem_cons_of_mem _ z)) h.2
    exact ⟨by rw [h.1, h1], h2⟩
theorem jn_mem {c : Nat} : ∀ {ts : List (List Nat)}, 2 ≤ ts.length → c ∈ jn [c] ts
  | [], h => by simp at h
  | [_], h => by simp at h
  | t :: u :: r, _ => by
    show c ∈ t ++ [c] ++ _
    simp
theorem jn_inj {c : Nat} : ∀ {ts us : List (List Nat)}, ts ≠ [] → us ≠ [] → (∀ t ∈ ts, c ∉ t) → (∀ t ∈ us, c ∉ t) → jn [c] ts = jn [c] us → ts = us
  | [], _, h, _, _, _, _ => absurd rfl h
  | _, [], _, h, _, _, _ => absurd rfl h
  | [t], [u], _, _, _, _, h => by have : t = u := h; rw [this]
  | [t], u :: v :: r, _, _, ht, _, h => by
    have h1 : t = jn [c] (u :: v :: r) := h
    exact absurd (by rw [h1]; exact jn_mem (by simp)) (ht t List.mem_cons_self)
  | t :: w :: q, [u], _, _, _, hu, h => by
    have h1 : jn [c] (t :: w :: q) = u := h
    exact absurd (by rw [← h1]; exact jn_mem (by simp)) (hu u List.mem_cons_self)
  | t :: w :: q, u :: v :: r, _, _, ht, hu, h => by
    have h1 : t ++ c :: jn [c] (w :: q) = u ++ c :: jn [c] (v :: r) := by
      have : t ++ [c] ++ jn [c] (w :: q) = u ++ [c] ++ jn [c] (v :: r) := h
      simpa using this
    obtain ⟨h2, h3⟩ := pre_eq (ht t List.mem_cons_self) (hu u List.mem_cons_self) h1
    have h4 := jn_inj (by simp) (by simp) (fun x hx => ht x (List.mem_cons_of_mem _ hx)) (fun x hx => hu x (List.mem_cons_of_mem _ hx)) h3
    rw [h2, h4]
/-! ints as texts -/
def dg (i : Int) : List Nat := cd (Str.ofString (toString i))
theorem dg_free {k : Nat} (hk : k ≠ 45 ∧ (k < 48 ∨ 57 < k)) (i : Int) : k ∉ dg i := int_text_free' k hk i
theorem dg_inj {i j : Int} (h0 : 0 ≤ i) (h1 : i < 10 ^ 10) (h2 : 0 ≤ j) (h3 : j < 10 ^ 10) (h : dg i = dg j) : i = j := by
  have e : Str.ofString (toString i) = Str.ofString (toString j) := cd_inj h
  have a := PySem.W.KIN.num_reads h0 h1
  rw [e, PySem.W.KIN.num_reads h2 h3] at a
  exact (Option.some.inj a).symm
theorem dg_digits {i : Int} (h0 : 0 ≤ i) : ∀ c ∈ dg i, 48 ≤ c ∧ c ≤ 57 := by
  obtain ⟨m, rfl⟩ := Int.eq_ofNat_of_zero_le h0
  intro c hc
  unfold dg cd at hc
  rw [PySem.W.KIN.signs_num] at hc
  obtain ⟨ch, hch, e⟩ := List.mem_map.mp hc
  have r := PyProof.Rows.digit_range (Nat.isDigit_of_mem_toDigits (by decide) (by decide) hch)
  rw [← e]
  exact r
theorem dg_ne {i : Int} (h0 : 0 ≤ i) : dg i ≠ [] := by
  obtain ⟨m, rfl⟩ := Int.eq_ofNat_of_zero_le h0
  unfold dg cd
  rw [PySem.W.KIN.signs_num]
  intro h
  have := List.map_eq_nil_iff.mp h
  exact absurd this (by
    intro e
    have := Nat.length_toDigits_pos (b := 10) (n := m)
    rw [e] at this
    simp at this)
end RY

set_option Elab.async false
set_option linter.all false
set_option maxRecDepth 100000
set_option maxHeartbeats 4000000
/-! Steps of texts and of own methods. -/
namespace RY
open PySem PySem.Spec PyProof.Rows L2 RS RX
section
variable {G : Xe} {S : Xs} {Q : Dt → Xs → Prop}
theorem w_bm {t : String} {f : Dt → List Dt → Xs → Res Dt} {o : Me} {r : Ma} (h : W (o G S) fun x S1 => tyOf S1 x = t ∧ W (r G S1) fun xs S2 => W (f x xs S2) Q) : W (mBm t f o r G S) Q := w_bind (h.mono fun x S1 ⟨e, q⟩ => by
  rw [if_pos e]
  exact w_bind q)
theorem w_join {a : Str} {y : Dt} {ys : List Dt} {zs : List Str} (h1 : seqA S y = some ys) (h2 : strsD ys = some zs) (h3 : (zs.map (·.length)).sum + zs.length * a.length ≤ 16777216) (q : Q (.str (Txt.join a zs)) S) : W (xJoin (.str a) [y] S) Q := by
  unfold xJoin
  dsimp only
  rw [h1]
  dsimp only
  rw [h2]
  dsimp only
  rw [if_pos h3]
  exact w_ok q
theorem strsD_map (zs : List Str) : strsD (zs.map .str) = some zs := by
  induction zs with
  | nil => rfl
  | cons z r ih => simp [strsD, ih]
theorem w_fmt {L : List (Nat × Mf)} {e : Me} (h : W (e G S) fun x S1 => W (xFmt L x S1) Q) : W (mFmt L e G S) Q := w_bind h
theorem w_fmtS {L : List (Nat × Mf)} {y : Str} (h : y.length ≤ 1000000) (q : Q (.str y) S) : W (xFmt L (.str y) S) Q := by
  unfold xFmt
  dsimp only
  rw [if_pos h]
  exact w_ok q
theorem w_fmtI {L : List (Nat × Mf)} {i : Int} (h : i.natAbs.log2 < 1920) (q : Q (.str (toString i)) S) : W (xFmt L (.int i) S) Q := by
  unfold xFmt
  dsimp only
  rw [if_pos h]
  exact w_ok q
theorem w_jsN {acc : Str} (q : Q (.str acc) S) : W (mJs [] acc G S) Q := w_ok q
theorem w_jsC {m : Me} {ms : List Me} {acc : Str} (h : W (m G S) fun x S1 => ∃ y, x = .str y ∧ (acc ++ y).length ≤ 1000000 ∧ W (mJs ms (acc ++ y) G S1) Q) : W (mJs (m :: ms) acc G S) Q := w_bind (h.mono fun x S1 ⟨y, e, hl, q⟩ => by
  subst e
  dsimp only
  rw [if_pos hl]
  exact q)
theorem w_strI {i : Int} (h : i.natAbs.log2 < 1920) (q : Q (.str (toString i)) S) : W (xStr [.int i] S) Q := by
  unfold xStr
  dsimp only
  rw [if_pos h]
  exact w_ok q
theorem w_strO {L : List (Nat × Mf)} {x : Dt} {c : Nat} {fs : List (Str × Dt)} {m : Mf} (h1 : insX S x = some (c, fs)) (h2 : findM c L = some m) (h : W (m [x] S) fun y S1 => ∃ z, y = .str z ∧ Q (.str z) S1) : W (xStrL L [x] S) Q := by
  unfold xStrL
  dsimp only
  rw [h1]
  dsimp only
  rw [h2]
  exact w_bind (h.mono fun y S1 ⟨z, e, q⟩ => by subst e; exact w_ok q)
theorem w_strN {L : List (Nat × Mf)} {x : Dt} (h1 : insX S x = none) (h : W (xStr [x] S) Q) : W (xStrL L [x] S) Q := by
  unfold xStrL
  dsimp only
  rw [h1]
  exact h
theorem w_own {n : Nat} {L : List (Nat × Mf)} {f : Dt → Dt → Xs → Res Dt} {x y : Dt} {c : Nat} {fs : List (Str × Dt)} {m : Mf} {t : String ⊕ Nat} (h1 : insX S x = some (c, fs)) (h2 : findM c L = some m) (h3 : tyN n S y = some t) (h : W (m [x, y] S) Q) : W (xOwn n L f x y S) Q := by
  unfold xOwn
  rw [h1]
  dsimp only
  rw [h2]
  dsimp only
  rw [h3]
  exact h
theorem w_ownN {n : Nat} {L : List (Nat × Mf)} {f : Dt → Dt → Xs → Res Dt} {x y : Dt} (h1 : insX S x = none) (h : W (f x y S) Q) : W (xOwn n L f x y S) Q := by
  unfold xOwn
  rw [h1]
  exact h
theorem w_ownNe {n : Nat} {L : List (Nat × Mf)} {f : Dt → Dt → Xs → Res Dt} {x y : Dt} {c : Nat} {fs : List (Str × Dt)} {m : Mf} {t : String ⊕ Nat} (h1 : insX S x = some (c, fs)) (h2 : findM c L = some m) (h3 : tyN n S y = some t) (h : W (m [x, y] S) fun z S1 => ∃ b, z = .bl b ∧ Q (.bl (!b)) S1) : W (xOwnNe n L f x y S) Q := by
  unfold xOwnNe
  rw [h1]
  dsimp only
  rw [h2]
  dsimp only
  rw [h3]
  exact w_bind (h.mono fun y S1 ⟨z, e, q⟩ => by subst e; exact w_ok q)
theorem w_ownNeN {n : Nat} {L : List (Nat × Mf)} {f : Dt → Dt → Xs → Res Dt} {x y : Dt} (h1 : insX S x = none) (h : W (f x y S) Q) : W (xOwnNe n L f x y S) Q := by
  unfold xOwnNe
  rw [h1]
  exact h
theorem w_ownB {L : List (Nat × Mf)} {f : Dt → Dt → Xs → Res Dt} {x y : Dt} {c : Nat} {fs gs : List (Str × Dt)} {m : Mf} (h1 : insX S x = some (c, fs)) (h2 : findM c L = some m) (h3 : insX S y = some (c, gs)) (h : W (m [x, y] S) Q) : W (xOwnB L f x y S) Q := by
  unfold xOwnB
  rw [h1]
  dsimp only
  rw [h2]
  dsimp only
  rw [h3]
  dsimp only
  rw [if_pos rfl]
  exact h
theorem w_ownU {L : List (Nat × Mf)} {f : Dt → Xs → Res Dt} {x : Dt} {c : Nat} {fs : List (Str × Dt)} {m : Mf} (h1 : insX S x = some (c, fs)) (h2 : findM c L = some m) (h : W (m [x] S) Q) : W (xOwnU L f x S) Q := by
  unfold xOwnU
  rw [h1]
  dsimp only
  rw [h2]
  exact h
theorem w_ownIn {neg : Bool} {L : List (Nat × Mf)} {f : Dt → Dt → Xs → Res Dt} {x y : Dt} {c : Nat} {fs : List (Str × Dt)} {m : Mf} (h1 : insX S y = some (c, fs)) (h2 : findM c L = some m) (h : W (m [y, x] S) fun z S1 => ∃ b, z = .bl b ∧ Q (.bl (neg != b)) S1) : W (xOwnIn neg L f x y S) Q := by
  unfold xOwnIn
  rw [h1]
  dsimp only
  rw [h2]
  exact w_bind (h.mono fun y S1 ⟨z, e, q⟩ => by subst e; exact w_ok q)
theorem w_ownInN {neg : Bool} {L : List (Nat × Mf)} {f : Dt → Dt → Xs → Res Dt} {x y : Dt} (h1 : insX S y = none) (h : W (f x y S) Q) : W (xOwnIn neg L f x y S) Q := by
  unfold xOwnIn
  rw [h1]
  exact h
theorem w_neBB {a b : Bool} (q : Q (.bl (a != b)) S) : W (xNe (.bl a) (.bl b) S) Q := by
  refine w_eq (a := .bl (a != b)) (S := S) ?_ q
  cases a <;> cases b <;> rfl
theorem w_eqBB {a b : Bool} (q : Q (.bl (a == b)) S) : W (xEq (.bl a) (.bl b) S) Q := by
  refine w_eq (a := .bl (a == b)) (S := S) ?_ q
  cases a <;> cases b <;> rfl
theorem w_isNone {o : Option Int} {neg : Bool} (q : Q (.bl (neg != o.isNone)) S) : W (xIs neg (match o with | some i => Dt.int i | none => Dt.non) .non S) Q := by
  cases o <;> exact w_eq rfl q
theorem w_gTpL {R : Xe → Xs → Prop} {n : Nat} {r : List Dt → Xe → Xs → Res Xe} {xs : List Dt} (hl : xs.length = n) (h : W (r xs G S) R) : W (gTl n r (.lst xs) G S) R := by
  show W (if xs.length = n then r xs G S else .bad) R
  rw [if_pos hl]
  exact h
theorem w_eqSS {x y : Str} (q : Q (.bl (decide (x = y))) S) : W (xEq (.str x) (.str y) S) Q := w_eq rfl q
theorem w_neST {x y : Str} (q : Q (.bl (!decide (x = y))) S) : W (xNe (.str x) (.str y) S) Q := w_eq rfl q
/-- the text of an int -/
abbrev istr (i : Int) : Str := Str.ofString (toString i)
theorem cd_istr (i : Int) : cd (istr i) = dg i := rfl
theorem istr_len {i : Int} (h0 : 0 ≤ i) (h1 : i < 10 ^ 10) : (istr i).length ≤ 13 := PyData.shown_int_le (i := i) (by omega)
theorem w_append {n : Nat} {xs : List Dt} {y : Dt} (h : S[n]? = some (.lst xs)) (hl : xs.length < 1000000) (q : Q .non (S.set n (.lst (xs ++ [y])))) : W (xAppend (.loc n) [y] S) Q := by
  refine w_eq ?_ q
  unfold xAppend xCell
  dsimp only
  rw [h]
  dsimp only
  rw [if_pos hl]
theorem tyOf_loc {n : Nat} {xs : List Dt} (h : S[n]? = some (.lst xs)) : tyOf S (.loc n) = "list" := by
  show (match (match S[n]? with | some (.lst xs) => some xs | _ => none) with | some _ => "list" | none => "") = _
  rw [h]
theorem w_slC {n : Nat} {xs : List Dt} {lo hi : Option Int} (h : S[n]? = some (.lst xs)) (q : Q (.lst (cutX xs lo hi)) S) : W (xSl (.loc n) lo hi S) Q := by
  refine w_eq ?_ q
  show (match (match S[n]? with | some (.lst xs) => some xs | _ => none) with | some xs => Res.ok (Dt.lst (cutX xs lo hi)) S | none => .bad) = _
  rw [h]
theorem okr_lb {bs : List Bool} (h : bs.length ≤ 1000) : OkR (.list (bs.map .bool)) := Wt.ok (wt_list (wts_bools bs)) (by decide) (by omega)
theorem w_reprLB {bs : List Bool} (h : bs.length ≤ 1000) (q : Q (.str (PyData.list (bs.map .bool)).shown) S) : W (xRepr [.lst (bs.map .bl)] S) Q := by
  have := w_repr (S := S) (Q := Q) (okr_lb h) q
  simpa [emb, embs_bools] using this
theorem w_reprC {n : Nat} {ps : List PyData} (hp : OkR (.list ps)) (h : S[n]? = some (.lst (embs ps))) (q : Q (.str (PyData.list ps).shown) S) : W (xRepr [.loc n] S) Q := by
  have e : toP S 20 (.loc n) = some (.list ps) := by
    have h0 := toP_emb S (.list ps) 20 hp.d hp.k
    show (match S[n]? with | some (.lst xs) => (mapO (toP S 19) xs).map PyData.list | _ => none) = _
    rw [h]
    exact h0
  refine w_eq ?_ q
  unfold xRepr
  dsimp only
  rw [e]
  dsimp only
  rw [if_pos ⟨hp.s, hp.d, hp.z, by have := hp.k; omega⟩]
theorem w_reprCB {n : Nat} {bs : List Bool} (hl : bs.length ≤ 1000) (h : S[n]? = some (.lst (bs.map .bl))) (q : Q (.str (PyData.list (bs.map .bool)).shown) S) : W (xRepr [.loc n] S) Q := w_reprC (okr_lb hl) (by rw [embs_bools]; exact h) q
theorem cln_set {b : Nat} {c : Xc} (h : Cln S) (hc : clnC S.length c = true) : Cln (S.set b c) := by
  unfold Cln at *
  rw [List.length_set]
  rw [List.all_eq_true] at *
  intro x hx
  rcases List.mem_or_eq_of_mem_set hx with h1 | h1
  · exact h x h1
  · rw [h1]; exact hc
theorem get_set {b : Nat} {c d : Xc} (h : S[b]? = some c) : (S.set b d)[b]? = some d := by
  have := (List.getElem?_eq_some_iff.mp h).1
  rw [List.getElem?_set_self this]
theorem get_push {b : Nat} {c d : Xc} (h : S[b]? = some c) : (S ++ [d])[b]? = some c := by
  have := (List.getElem?_eq_some_iff.mp h).1
  rw [List.getElem?_append_left this]
  exact h
end
end RY

set_option Elab.async false
set_option linter.all false
set_option maxRecDepth 100000
set_option maxHeartbeats 4000000
/-! Calendars: general lemmas. -/
namespace RY
open PySem RX
def isLT (x : Dt) (is : List Int) : Prop := x = .lst (is.map .int) ∨ x = .tup (is.map .int)
theorem isLT.seq {x : Dt} {is : List Int} (h : isLT x is) : seqV x = some (is.map .int) ∧ ∀ z, x ≠ .str z := by
  rcases h with rfl | rfl <;> exact ⟨rfl, fun z h => by cases h⟩
theorem bls_map (p : Int → Bool) (is : List Int) : bls (is.map fun i => Dt.bl (p i)) = some (is.map p) := by
  induction is with
  | nil => rfl
  | cons i r ih => simp [bls, ih]
theorem bls_atI {bs : List Bool} {i : Nat} {b : Bool} (h : bs[i]? = some b) : L2.atI (bs.map Dt.bl) (i : Int) = some (.bl b) := by
  have hi := (List.getElem?_eq_some_iff.mp h).1
  rw [atI_nat (by omega) (by simpa using hi), Int.toNat_natCast, List.getElem?_map, h]
  rfl
theorem isS {P : Prop} [Decidable P] {x : Dt} : (if P then some x else none).isSome = decide P := by by_cases h : P <;> simp [h]
theorem eqBB {a b : Bool} {S : Xs} {Q : Dt → Xs → Prop} (q : Q (.bl (a == b)) S) : W (xEq (.bl a) (.bl b) S) Q := by
  have := w_eqP (S := S) (Q := Q) (ok_bool a).toOk (ok_bool b).toOk q
  exact this
def calFs (few : List Int) (st d : Int) (rs : List Int) : List (Str × Dt) := [("few", .tup (few.map .int)), ("start", .int st), ("period", .int d), ("rests", .tup (rs.map .int))]
def Bx (N : Nat) (c : Xc) : Prop := ∃ w s k : Int, c = .lst [.int w, .int s, .int k] ∧ 0 ≤ s ∧ s ≤ 2 ^ 31 ∧ 0 ≤ k ∧ k ≤ N
theorem Bx.mono {N M : Nat} {c : Xc} (h : Bx N c) (hm : N ≤ M) : Bx M c := let ⟨w, s, k, e, h1, h2, h3, h4⟩ := h; ⟨w, s, k, e, h1, h2, h3, by omega⟩
theorem Bx.cln {N b : Nat} {c : Xc} (h : Bx N c) : clnC b c = true := by obtain ⟨w, s, k, rfl, _⟩ := h; rfl
theorem ns_at {ns : List Int} {k : Int} (h0 : 0 ≤ k) (h1 : k < ns.length) : ∃ v, L2.atI (ns.map Dt.int) k = some (.int v) := by
  rw [atI_nat h0 (by simpa using h1), List.getElem?_map, List.getElem?_eq_getElem (by omega)]
  exact ⟨_, rfl⟩
structure Raw (far wide : Int) (few : List Int) (st p : Int) (rs : List Int) : Prop where
  s1 : 1 ≤ st
  s2 : st ≤ far
  p1 : 1 ≤ p
  p2 : p ≤ wide
  bf : ∀ v ∈ few, 1 ≤ v ∧ v ≤ st - 1
  br : ∀ v ∈ rs, 0 ≤ v ∧ v ≤ p - 1
  lf : few.length ≤ 5
  lr : rs.length ≤ 3 ∨ (rs.length : Int) ≤ wide
theorem mapO_ints (is : List Int) : mapO toVf (is.map .int) = some (is.map L2.V.int) := by
  induction is with
  | nil => rfl
  | cons i r ih => rw [List.map_cons, mapO, ih]; rfl
theorem inV_ints (i : Int) (is : List Int) : L2.inV (.int i) (is.map L2.V.int) = decide (i ∈ is) := by
  induction is with
  | nil => rfl
  | cons j r ih =>
    unfold L2.inV at ih ⊢
    rw [List.map_cons, List.any_cons, ih]
    have e : L2.eqV (.int j) (.int i) = decide (i = j) := by
      by_cases h : i = j
      · subst h; simp [L2.eqV]
      · simp [L2.eqV, h, Ne.symm h]
    rw [e]
    simp
theorem inB_seq {i : Int} {x : Dt} {is : List Int} {S : Xs} (hx : isLT x is) : inB (.int i) x S = some (decide (i ∈ is)) := by
  rcases hx with rfl | rfl
  all_goals
    show (match toVf (.int i), mapO toVf (is.map .int) with | some v, some us => some (L2.inV v us) | _, _ => none) = _
    rw [mapO_ints]
    show some (L2.inV (.int i) (is.map L2.V.int)) = _
    rw [inV_ints]
theorem w_in {i : Int} {x : Dt} {is : List Int} {S : Xs} {Q : Dt → Xs → Prop} (hx : isLT x is) (q : Q (.bl (decide (i ∈ is))) S) : W (xIn (.int i) x S) Q := by
  refine w_eq ?_ q
  unfold xIn
  rw [inB_seq hx]
theorem w_notIn {i : Int} {x : Dt} {is : List Int} {S : Xs} {Q : Dt → Xs → Prop} (hx : isLT x is) (q : Q (.bl (!decide (i ∈ is))) S) : W (xNotIn (.int i) x S) Q := by
  refine w_eq ?_ q
  unfold xNotIn
  rw [inB_seq hx]
theorem intsD_map (is : List Int) : intsD (is.map .int) = some is := by
  induction is with
  | nil => rfl
  | cons i r ih => rw [List.map_cons, intsD, ih]
theorem w_minL {is : List Int} {S : Xs} {Q : Dt → Xs → Prop} (h : is ≠ []) (q : ∀ m, m ∈ is → (∀ y ∈ is, m ≤ y) → Q (.int m) S) : W (xMin [.lst (is.map .int)] S) Q := by
  cases is with
  | nil => exact absurd rfl h
  | cons i r =>
    have := minF r i
    refine w_eq (a := .int (r.foldl (fun a b => if b < a then b else a) i)) (S := S) ?_ (q _ this.1 this.2)
    show (match intsD ((i :: r).map .int) with | some ns => (match minI ns with | some m => Res.ok (Dt.int m) S | none => .bad) | none => .bad) = _
    rw [intsD_map]
    rfl
theorem dn_get : ∀ (n i : Nat) (lo : Int) (x : Dt), (rangeDn lo n)[i]? = some x → i < n ∧ x = .int (lo - i)
  | 0, i, lo, x, h => by simp [rangeDn] at h
  | n + 1, 0, lo, x, h => by
    simp only [rangeDn, List.getElem?_cons_zero, Option.some.injEq] at h
    exact ⟨by omega, by rw [← h]; simp⟩
  | n + 1, i + 1, lo, x, h => by
    simp only [rangeDn, List.getElem?_cons_succ] at h
    obtain ⟨h1, h2⟩ := dn_get n i (lo - 1) x h
    refine ⟨by omega, ?_⟩
    rw [h2]
    congr 1
    push_cast
    omega
theorem dn_len : ∀ (n : Nat) (lo : Int), (rangeDn lo n).length = n
  | 0, _ => rfl
  | n + 1, lo => by simp [rangeDn, dn_len n]
section
variable {S : Xs} {Q : Dt → Xs → Prop}
def lofP (o : Option Int) : PyData := match o with | some i => .int i | none => .none
end
section
variable {S : Xs} {Q : Dt → Xs → Prop}
theorem lof_emb (o : Option Int) : lof o = emb (lofP o) := by cases o <;> rfl
end
section
variable {S : Xs} {Q : Dt → Xs → Prop}
theorem repr_lof {o : Option Int} (h : ∀ i, o = some i → -(10 ^ 12) < i ∧ i < 10 ^ 12) (q : Q (.str (lofP o).shown) S) : W (xRepr [lof o] S) Q := by
  rw [lof_emb]
  cases o with
  | none => exact w_repr ok_none q
  | some i => exact w_repr (small_int (h i rfl).1 (h i rfl).2) q
end
section
variable {S : Xs} {Q : Dt → Xs → Prop}
theorem repr_t2 {a b : Nat} (ha : a < 10 ^ 12) (hb : b < 10 ^ 12) (q : Q (.str (PyData.tuple [.int a, .int b]).shown) S) : W (xRepr [.tup [.int (a : Nat), .int (b : Nat)]] S) Q := by
  have := w_repr (S := S) (Q := Q) (Wt.ok (wt_tuple (wts_cons (wt_int (i := a) (by omega) (by omega)) (wts_cons (wt_int (i := b) (by omega) (by omega)) wts_nil))) (by decide) (by decide)) q
  simpa [emb, embs] using this
end
section
variable {S : Xs} {Q : Dt → Xs → Prop}
theorem ne_t2 {a b c d : Int} (q : Q (.bl (!(decide (a = c) && decide (b = d)))) S) : W (xNe (.tup [.int a, .int b]) (.tup [.int c, .int d]) S) Q := by
  have := w_neTI (S := S) (Q := Q) (is := [a, b]) (js := [c, d]) (by
    have e : decide ([a, b] = [c, d]) = (decide (a = c) && decide (b = d)) := by simp
    rw [e]; exact q)
  simpa using this
end
section
variable {S : Xs} {Q : Dt → Xs → Prop}
theorem eq_t2 {a b c d : Int} (q : Q (.bl (decide (a = c) && decide (b = d))) S) : W (xEq (.tup [.int a, .int b]) (.tup [.int c, .int d]) S) Q := by
  have := w_eqTI (S := S) (Q := Q) (is := [a, b]) (js := [c, d]) (by
    have e : decide ([a, b] = [c, d]) = (decide (a = c) && decide (b = d)) := by simp
    rw [e]; exact q)
  simpa using this
end
theorem cln_nil : Cln [] := rfl
theorem lf_one {few' rs' : List Int} {st' : Int} {d : Nat} (L : LF [] 1 1 [] few' st' d rs') : few' = [] ∧ st' = 1 ∧ d = 1 ∧ rs' = [] := by
  have h1 := L.dp
  have h2 := L.lp.pos
  have h3 := L.s1
  have h4 := L.s2
  have e1 : st' = 1 := by omega
  have e2 : d = 1 := by omega
  refine ⟨?_, e1, e2, ?_⟩
  · rw [L.few, e1]; rfl
  · rw [L.rests]; simp
end RY

set_option Elab.async false
set_option linter.all false
set_option maxRecDepth 100000
set_option maxHeartbeats 4000000
/-! Calendars: the least form is one alone; texts. -/
namespace RY
open PySem RX
/-- periods from somewhere on -/
def EP (A : Int → Bool) (e : Nat) : Prop := ∃ N : Int, ∀ n, N ≤ n → A (n + e) = A n
theorem ep_mul {A : Int → Bool} {e : Nat} {N : Int} (h : ∀ n, N ≤ n → A (n + e) = A n) : ∀ (q : Nat) (n : Int), N ≤ n → A (n + (e * q : Nat)) = A n
  | 0, n, _ => by simp
  | q + 1, n, hn => by
    rw [show n + ((e * (q + 1) : Nat) : Int) = (n + (e * q : Nat)) + e from by rw [Nat.mul_succ]; push_cast; omega, h _ (by have : (0 : Int) ≤ (e * q : Nat) := Int.natCast_nonneg _; omega), ep_mul h q n hn]
theorem ep_mod {A : Int → Bool} {m n : Nat} (hm : EP A m) (hn : EP A n) : EP A (n % m) := by
  obtain ⟨N, h⟩ := hm
  obtain ⟨M, k⟩ := hn
  refine ⟨max N M, fun x hx => ?_⟩
  have e : x + (n : Int) = (x + (n % m : Nat)) + (m * (n / m) : Nat) := by
    have := Nat.mod_add_div n m
    omega
  rw [← k x (by omega), e, ep_mul h _ _ (by omega)]
theorem ep_zero (A : Int → Bool) : EP A 0 := ⟨0, fun n _ => by simp⟩
theorem ep_gcd {A : Int → Bool} (m n : Nat) : EP A m → EP A n → EP A (Nat.gcd m n) := by
  induction m, n using Nat.gcd.induction with
  | H0 n => intro _ h; rw [Nat.gcd_zero_left]; exact h
  | H1 m n h ih => intro h1 h2; rw [Nat.gcd_rec]; exact ih (ep_mod h1 h2) h1
/-- the least form of a set -/
structure Can (A : Int → Bool) (few : List Int) (st : Int) (d : Nat) (rs : List Int) : Prop where
  d1 : 1 ≤ d
  s1 : 1 ≤ st
  fq : few = (iseq 1 (st - 1).toNat).filter A
  rest : ∀ n, st ≤ n → A n = decide (n % (d : Int) ∈ rs)
  rq : rs = (iseq 0 d).filter fun m => decide (m ∈ rs)
  min : ∀ e : Nat, 1 ≤ e → EP A e → d ≤ e
  ne : st = 1 ∨ A (st - 1) ≠ decide ((st - 1) % (d : Int) ∈ rs)
section
variable {few rs few' rs' : List Int} {st p st' : Int} {d : Nat}
theorem LF.can (L : LF few st p rs few' st' d rs') : Can (hasR few st p rs) few' st' d rs' := by
  have hd := L.lp.pos
  have hdp := L.dp
  have s1 := L.s1
  have s2 := L.s2
  refine ⟨hd, s1, ?_, fun n hn => ?_, ?_, fun e he hE => ?_, ?_⟩
  · rw [L.few]
    refine List.filter_congr fun m hm => ?_
    rw [mem_iseq] at hm
    unfold hasR
    rw [if_neg (by omega), if_pos (by omega)]
  · rw [L.has (by omega), if_neg (by omega)]
  · have h : ∀ m ∈ iseq 0 d, decide (m ∈ rs') = decide (m ∈ rs) := fun m hm => by
      have hm := mem_iseq.mp hm
      have := L.memR (n := m)
      rwa [Int.emod_eq_of_lt (by omega) (by omega)] at this
    rw [List.filter_congr h]
    exact L.rests
  · have hP : EP (hasR few st p rs) p.toNat := ⟨st, fun n hn => by
      unfold hasR
      rw [if_neg (by omega), if_neg (by omega), if_neg (by omega), if_neg (by omega), Int.toNat_of_nonneg (by omega), Int.add_emod_right]⟩
    obtain ⟨N, hg⟩ := ep_gcd _ _ hE hP
    generalize hgg : Nat.gcd e p.toNat = g at hg
    have g1 : g ∣ e := by rw [← hgg]; exact Nat.gcd_dvd_left _ _
    have g2 : g ∣ p.toNat := by rw [← hgg]; exact Nat.gcd_dvd_right _ _
    have g3 : g ≤ e := Nat.le_of_dvd (by omega) g1
    have g4 : 0 < g := by rw [← hgg]; exact Nat.gcd_pos_of_pos_left _ (by omega)
    suffices h : Per (bitsOf p rs) g by
      by_cases hlt : g < d
      · exact absurd h (L.lp.least g g4 hlt (by rw [bits_len]; exact Nat.mod_eq_zero_of_dvd g2))
      · omega
    intro i hi
    rw [bits_len] at hi
    have hgp : g ≤ p.toNat := Nat.le_of_dvd (by omega) g2
    have him := Nat.mod_lt i g4
    rw [bits_get hi, bits_get (by omega)]
    have hK : ∀ j : Nat, j < p.toNat → ∀ K : Nat, st ≤ K → hasR few st p rs ((j : Int) + p * K) = decide ((j : Int) ∈ rs) := fun j hj K hK => by
      have : (K : Int) ≤ p * K := by
        have := Int.mul_le_mul_of_nonneg_right (show (1 : Int) ≤ p by omega) (show (0 : Int) ≤ K by omega)
        omega
      unfold hasR
      rw [if_neg (by omega), if_neg (by omega), Int.add_mul_emod_self_left, Int.emod_eq_of_lt (by omega) (by omega)]
    have hK1 := hK i hi (st.toNat + N.toNat) (by omega)
    have hK2 := hK (i % g) (by omega) (st.toNat + N.toNat) (by omega)
    congr 1
    rw [← hK1, ← hK2]
    have : (((st.toNat + N.toNat : Nat)) : Int) ≤ p * ((st.toNat + N.toNat : Nat)) := by
      have := Int.mul_le_mul_of_nonneg_right (show (1 : Int) ≤ p by omega) (show (0 : Int) ≤ ((st.toNat + N.toNat : Nat)) by omega)
      omega
    have := ep_mul hg (i / g) (((i % g : Nat) : Int) + p * ((st.toNat + N.toNat : Nat))) (by omega)
    rw [← this]
    congr 1
    have := Nat.mod_add_div i g
    omega
  · rcases L.ne with h | h
    · exact .inl h
    · by_cases e : st' = 1
      · exact .inl e
      refine .inr ?_
      rw [L.memR]
      unfold hasR
      rw [if_neg (by omega), if_pos (by omega)]
      exact h
end
section
variable {A B : Int → Bool} {few rs few2 rs2 : List Int} {st st2 : Int} {d d2 : Nat}
theorem Can.ep (C : Can A few st d rs) : EP A d := ⟨st, fun n hn => by rw [C.rest n hn, C.rest _ (by omega), Int.add_emod_right]⟩
theorem Can.has (C : Can A few st d rs) {n : Int} (h : 1 ≤ n) : A n = hasR few st d rs n := by
  unfold hasR
  rw [if_neg (by omega)]
  by_cases hn : n < st
  · rw [if_pos hn, C.fq]
    by_cases hA : A n = true
    · rw [hA]; exact (decide_eq_true (List.mem_filter.mpr ⟨mem_iseq.mpr ⟨h, by omega⟩, hA⟩)).symm
    · rw [Bool.not_eq_true] at hA
      rw [hA]; exact (decide_eq_false fun hm => by have := (List.mem_filter.mp hm).2; rw [hA] at this; cases this).symm
  · rw [if_neg hn]; exact C.rest n (by omega)
theorem ep_congr {A B : Int → Bool} (h : ∀ n, 1 ≤ n → A n = B n) {e : Nat} (he : EP A e) : EP B e := by
  obtain ⟨N, k⟩ := he
  exact ⟨max N 1, fun n hn => by rw [← h n (by omega), ← h (n + e) (by omega), k n (by omega)]⟩
theorem Can.uniq (C : Can A few st d rs) (D : Can B few2 st2 d2 rs2) (h : ∀ n, 1 ≤ n → A n = B n) : few = few2 ∧ st = st2 ∧ d = d2 ∧ rs = rs2 := by
  have c1 := C.d1
  have c2 := D.d1
  have e1 := C.min d2 D.d1 (ep_congr (fun n hn => (h n hn).symm) D.ep)
  have e2 := D.min d C.d1 (ep_congr h C.ep)
  have ed : d = d2 := by omega
  subst ed
  have er : rs = rs2 := by
    rw [C.rq, D.rq]
    refine List.filter_congr fun m hm => ?_
    have hm := mem_iseq.mp hm
    have a := C.rest (m + d * (st.toNat + st2.toNat : Nat)) (by
      have := Int.mul_le_mul_of_nonneg_right (show (1 : Int) ≤ d by omega) (show (0 : Int) ≤ (st.toNat + st2.toNat : Nat) by omega)
      omega)
    have b := D.rest (m + d * (st.toNat + st2.toNat : Nat)) (by
      have := Int.mul_le_mul_of_nonneg_right (show (1 : Int) ≤ d by omega) (show (0 : Int) ≤ (st.toNat + st2.toNat : Nat) by omega)
      omega)
    rw [Int.add_mul_emod_self_left, Int.emod_eq_of_lt (by omega) (by omega)] at a b
    rw [← a, ← b]
    refine h _ ?_
    have := C.s1
    have := Int.mul_le_mul_of_nonneg_right (show (1 : Int) ≤ d by omega) (show (0 : Int) ≤ (st.toNat + st2.toNat : Nat) by omega)
    omega
  subst er
  have s1 := C.s1
  have s2 := D.s1
  have es : st = st2 := by
    rcases Int.lt_trichotomy st st2 with hl | hl | hl
    · rcases D.ne with e | e
      · omega
      · exact absurd (by rw [← h _ (by omega), C.rest _ (by omega)]) e
    · exact hl
    · rcases C.ne with e | e
      · omega
      · exact absurd (by rw [h _ (by omega), D.rest _ (by omega)]) e
  subst es
  refine ⟨?_, rfl, rfl, rfl⟩
  rw [C.fq, D.fq]
  refine List.filter_congr fun m hm => ?_
  have hm := mem_iseq.mp hm
  exact h m (by omega)
theorem Can.few_mem (C : Can A few st d rs) {n : Int} (h : n ∈ few) : 1 ≤ n ∧ n < st := by
  rw [C.fq] at h
  have := mem_iseq.mp (List.mem_filter.mp h).1
  have := C.s1
  omega
theorem Can.rs_mem (C : Can A few st d rs) {n : Int} (h : n ∈ rs) : 0 ≤ n ∧ n < d := by
  rw [C.rq] at h
  have := mem_iseq.mp (List.mem_filter.mp h).1
  omega
theorem Can.len (C : Can A few st d rs) : few.length ≤ (st - 1).toNat ∧ rs.length ≤ d := by
  constructor
  · rw [C.fq]; exact Nat.le_trans (List.length_filter_le _ _) (by rw [iseq_len]; exact Nat.le_refl _)
  · rw [C.rq]; exact Nat.le_trans (List.length_filter_le _ _) (by rw [iseq_len]; exact Nat.le_refl _)
end
theorem Can.congr {A B : Int → Bool} {few rs : List Int} {st : Int} {d : Nat} (C : Can A few st d rs) (h : ∀ n, 1 ≤ n → A n = B n) : Can B few st d rs := by
  have s1 := C.s1
  refine ⟨C.d1, s1, ?_, fun n hn => ?_, C.rq, fun e he hE => C.min e he (ep_congr (fun n hn => (h n hn).symm) hE), ?_⟩
  · rw [C.fq]
    refine List.filter_congr fun m hm => h m (by have := mem_iseq.mp hm; omega)
  · rw [← h n (by omega)]; exact C.rest n hn
  · rcases C.ne with e | e
    · exact .inl e
    · by_cases e1 : st = 1
      · exact .inl e1
      · exact .inr (by rw [← h _ (by omega)]; exact e)
def Sub (A B : Int → Bool) : Prop := ∀ n, 1 ≤ n → A n = true → B n = true
def Same (A B : Int → Bool) : Prop := ∀ n, 1 ≤ n → A n = B n
theorem same_iff {A B : Int → Bool} : Same A B ↔ Sub A B ∧ Sub B A := by
  constructor
  · intro h
    exact ⟨fun n hn e => by rw [← h n hn]; exact e, fun n hn e => by rw [h n hn]; exact e⟩
  · rintro ⟨h1, h2⟩ n hn
    cases a : A n with
    | true => exact (h1 n hn a).symm
    | false => cases b : B n with
      | true => rw [h2 n hn b] at a; cases a
      | false => rfl
theorem lt_b {u v b : Bool} {P R : Prop} (hu : u = true ↔ P) (hv : v = true ↔ R) (hb : b = true ↔ P ∧ ¬ R) : b = (u && !v) := by
  rw [Bool.eq_iff_iff, hb, ← hu, ← hv]
  simp
theorem eq_b {u v b : Bool} {A B : Int → Bool} (hu : u = true ↔ Sub A B) (hv : v = true ↔ Sub B A) (hb : b = true ↔ Same A B) : b = (u && v) := by
  rw [Bool.eq_iff_iff, hb, same_iff, ← hu, ← hv]
  simp
theorem le_b {u b : Bool} {P : Prop} (hu : u = true ↔ P) (hb : b = true ↔ P) : b = u := Bool.eq_iff_iff.mpr (hb.trans hu.symm)
theorem mul_bd {d e K : Nat} {d1 d2 : Int} (c : (d : Int) ≤ d1) (c2 : (e : Int) ≤ d2) (b : d1 * d2 ≤ (K : Int)) : d * e ≤ K := by
  have h1 : (d : Int) * e ≤ d1 * e := Int.mul_le_mul_of_nonneg_right c (by omega)
  have h2 : d1 * (e : Int) ≤ d1 * d2 := Int.mul_le_mul_of_nonneg_left c2 (by omega)
  have : ((d * e : Nat) : Int) = (d : Int) * e := by push_cast; rfl
  omega
theorem lcm_le {a b : Nat} (ha : 1 ≤ a) (hb : 1 ≤ b) : Nat.lcm a b ≤ a * b := Nat.div_le_self _ _
theorem mul_bi {d e : Nat} {d1 d2 D : Int} (h1 : 1 ≤ d) (h2 : 1 ≤ e) (c : (d : Int) ≤ d1) (c2 : (e : Int) ≤ d2) (b : d1 * d2 ≤ D) : ((d * e : Nat) : Int) ≤ D := by
  have a1 : (d : Int) * e ≤ d1 * e := Int.mul_le_mul_of_nonneg_right c (by omega)
  have a2 : d1 * (e : Int) ≤ d1 * d2 := Int.mul_le_mul_of_nonneg_left c2 (by omega)
  have : ((d * e : Nat) : Int) = (d : Int) * e := by push_cast; rfl
  omega
/-- from s on by steps of p -/
theorem low_rep {s n : Int} {p : Nat} (hp : 0 < p) (hn : s ≤ n) : ∃ (m : Int) (q : Nat), s ≤ m ∧ m < s + p ∧ n = m + (p * q : Nat) := by
  have h1 : 0 ≤ (n - s) % (p : Int) := Int.emod_nonneg _ (by omega)
  have h2 : (n - s) % (p : Int) < p := Int.emod_lt_of_pos _ (by omega)
  have h3 : 0 ≤ (n - s) / (p : Int) := Int.ediv_nonneg (by omega) (by omega)
  refine ⟨s + (n - s) % (p : Int), ((n - s) / (p : Int)).toNat, by omega, by omega, ?_⟩
  have := Int.emod_add_mul_ediv (n - s) p
  push_cast
  rw [Int.toNat_of_nonneg h3]
  omega
theorem Can.step {A : Int → Bool} {few rs : List Int} {st : Int} {d p : Nat} (C : Can A few st d rs) (hd : d ∣ p) {n : Int} (hn : st ≤ n) (q : Nat) : A (n + (p * q : Nat)) = A n := by
  rw [C.rest n hn, C.rest _ (by have : (0 : Int) ≤ (p * q : Nat) := Int.natCast_nonneg _; omega)]
  obtain ⟨k, rfl⟩ := hd
  rw [show ((d * k * q : Nat) : Int) = (d : Int) * ((k * q : Nat) : Int) from by push_cast; rw [Int.mul_assoc], Int.add_mul_emod_self_left]
theorem within_iff {A B : Int → Bool} {few rs few2 rs2 : List Int} {st st2 s : Int} {d d2 : Nat} (C : Can A few st d rs) (D : Can B few2 st2 d2 rs2) (h1 : st ≤ s) (h2 : st2 ≤ s) : (!(iseq 1 (s + (Nat.lcm d d2 : Nat) - 1).toNat).any fun i => A i && !B i) = true ↔ ∀ n, 1 ≤ n → A n = true → B n = true := by
  have c1 := C.d1
  have c2 := D.d1
  have s1 := C.s1
  have hl0 : 0 < Nat.lcm d d2 := Nat.lcm_pos (by omega) (by omega)
  rw [Bool.not_eq_true', List.any_eq_false]
  constructor
  · intro h n hn hA
    by_cases hs : n < s
    · have := h n (mem_iseq.mpr ⟨hn, by omega⟩)
      rw [hA] at this
      simpa using this
    · obtain ⟨m, q, m1, m2, rfl⟩ := low_rep (p := Nat.lcm d d2) hl0 (show s ≤ n by omega)
      rw [C.step (Nat.dvd_lcm_left _ _) (by omega)] at hA
      rw [D.step (Nat.dvd_lcm_right _ _) (by omega)]
      have := h m (mem_iseq.mpr ⟨by omega, by omega⟩)
      rw [hA] at this
      simpa using this
  · intro h n hn
    have hn := mem_iseq.mp hn
    cases hA : A n with
    | false => simp
    | true => rw [h n (by omega) hA]; simp
theorem hasR1 {few rs : List Int} {st p n : Int} (h : 1 ≤ n) : hasR few st p rs n = if n < st then decide (n ∈ few) else decide (n % p ∈ rs) := by
  unfold hasR
  rw [if_neg (by omega)]
/-- arguments of a calendar that are right -/
structure Arg (B : Int) (few : List Int) (st p : Int) (rs : List Int) : Prop where
  s1 : 1 ≤ st
  s2 : st ≤ B
  p1 : 1 ≤ p
  p2 : p ≤ B
  bf : ∀ v ∈ few, 1 ≤ v ∧ v ≤ st - 1
  br : ∀ v ∈ rs, 0 ≤ v ∧ v ≤ p - 1
  lf : few.length ≤ 10000
  lr : rs.length ≤ 10000
theorem Raw.arg {far wide B : Int} {few rs : List Int} {st p : Int} (R : Raw far wide few st p rs) (h1 : far ≤ B) (h2 : wide ≤ B) (h3 : B ≤ 10000) : Arg B few st p rs := by
  obtain ⟨s1, s2, p1, p2, bf, br, lf, lr⟩ := R
  exact ⟨s1, by omega, p1, by omega, bf, br, by omega, by omega⟩
theorem hasR_step {few rs : List Int} {st p : Int} (hs : 1 ≤ st) {m : Nat} (hm : p ∣ (m : Int)) {n : Int} (hn : st ≤ n) (q : Nat) : hasR few st p rs (n + (m * q : Nat)) = hasR few st p rs n := by
  have h0 : (0 : Int) ≤ (m * q : Nat) := Int.natCast_nonneg _
  unfold hasR
  rw [if_neg (by omega), if_neg (by omega), if_neg (by omega), if_neg (by omega)]
  obtain ⟨k, hk⟩ := hm
  rw [show ((m * q : Nat) : Int) = p * (k * q) from by push_cast; rw [hk, Int.mul_assoc], Int.add_mul_emod_self_left]
theorem sub_filter {A B : Int → Bool} {s : Int} {m : Nat} (hs : 1 ≤ s) (hm : 0 < m) (hA : ∀ n q, s ≤ n → A (n + (m * q : Nat)) = A n) (hB : ∀ n q, s ≤ n → B (n + (m * q : Nat)) = B n) : (iseq 1 (s + m - 1).toNat).filter (fun i => A i && !B i) = [] ↔ Sub A B := by
  rw [List.filter_eq_nil_iff]
  constructor
  · intro h n hn hAn
    by_cases hsn : n < s
    · have := h n (mem_iseq.mpr ⟨hn, by omega⟩)
      rw [hAn] at this
      simpa using this
    · obtain ⟨k, q, m1, m2, rfl⟩ := low_rep (p := m) hm (show s ≤ n by omega)
      rw [hA _ _ (by omega)] at hAn
      rw [hB _ _ (by omega)]
      have := h k (mem_iseq.mpr ⟨by omega, by omega⟩)
      rw [hAn] at this
      simpa using this
  · intro h n hn
    have hn := mem_iseq.mp hn
    cases hAn : A n with
    | false => simp
    | true => rw [h n (by omega) hAn]; simp
theorem Can.lf {A : Int → Bool} {few rs : List Int} {st : Int} {d : Nat} (C : Can A few st d rs) : LF few st d rs few st d rs := by
  have d1 := C.d1
  have s1 := C.s1
  refine ⟨⟨d1, by rw [bits_len]; simp, by rw [bits_len]; simp, ?_, fun e e1 e2 e3 hp => ?_⟩, s1, by omega, fun m h1 h2 => by omega, ?_, ?_, ?_⟩
  · have := per_self (bitsOf d rs)
    rw [bits_len] at this
    simpa using this
  · rw [bits_len] at e3
    have e3 : d % e = 0 := by simpa using e3
    have := C.min e e1 ⟨st, fun n hn => by
      rw [C.rest n hn, C.rest _ (by omega)]
      have bit : ∀ x : Int, decide (x % (d : Int) ∈ rs) = decide (x % (e : Int) ∈ rs) := fun x => by
        have x1 : 0 ≤ x % (d : Int) := Int.emod_nonneg _ (by omega)
        have x2 : x % (d : Int) < d := Int.emod_lt_of_pos _ (by omega)
        have h := hp (x % (d : Int)).toNat (by rw [bits_len]; omega)
        have hm := Nat.mod_lt (x % (d : Int)).toNat e1
        rw [bits_get (by omega), bits_get (by omega)] at h
        have h := Option.some.inj h
        rw [Int.natCast_emod, Int.toNat_of_nonneg x1] at h
        rw [h, Int.emod_emod_of_dvd x (Int.natCast_dvd_natCast.mpr (Nat.dvd_of_mod_eq_zero e3))]
      rw [bit, bit, Int.add_emod_right]⟩
    omega
  · rcases C.ne with h | h
    · exact .inl h
    · by_cases e : st = 1
      · exact .inl e
      · refine .inr ?_
        have := C.has (n := st - 1) (by omega)
        rw [hasR1 (by omega), if_pos (by omega)] at this
        rw [← this]
        exact h
  · have h : ∀ m ∈ iseq 1 (st - 1).toNat, decide (m ∈ few) = A m := fun m hm => by
      have hm := mem_iseq.mp hm
      have := C.has (n := m) (by omega)
      rw [hasR1 (by omega), if_pos (by omega)] at this
      exact this.symm
    rw [List.filter_congr h]
    exact C.fq
  · exact C.rq
theorem cnt_not (q : Int → Bool) : ∀ l : List Int, l.length = (l.filter q).length + (l.filter fun m => !q m).length
  | [] => rfl
  | x :: r => by
    have ih := cnt_not q r
    simp only [List.filter_cons, List.length_cons]
    cases h : q x <;> simp <;> omega
theorem Can.compl {A : Int → Bool} {few rs few2 rs2 : List Int} {st st2 : Int} {d d2 : Nat} (C : Can A few st d rs) (D : Can (fun n => !A n) few2 st2 d2 rs2) : d2 = d ∧ rs2.length = d - rs.length ∧ rs.length ≤ d := by
  have c1 := C.d1
  have c2 := D.d1
  have s1 := C.s1
  have e1 := C.min d2 c2 (by obtain ⟨N, h⟩ := D.ep; exact ⟨N, fun n hn => by have := h n hn; simpa using this⟩)
  have e2 := D.min d c1 (by obtain ⟨N, h⟩ := C.ep; exact ⟨N, fun n hn => by show (!A _) = (!A n); rw [h n hn]⟩)
  have ed : d2 = d := by omega
  subst ed
  have hc : ∀ m ∈ iseq 0 d2, decide (m ∈ rs2) = !decide (m ∈ rs) := fun m hm => by
    have hm := mem_iseq.mp hm
    have hK := Int.mul_le_mul_of_nonneg_right (show (1 : Int) ≤ d2 by omega) (show (0 : Int) ≤ (st.toNat + st2.toNat : Nat) by omega)
    have a := C.rest (m + d2 * (st.toNat + st2.toNat : Nat)) (by omega)
    have b := D.rest (m + d2 * (st.toNat + st2.toNat : Nat)) (by omega)
    rw [Int.add_mul_emod_self_left, Int.emod_eq_of_lt (by omega) (by omega)] at a b
    rw [← b, ← a]
  have l1 : rs.length = ((iseq 0 d2).filter fun m => decide (m ∈ rs)).length := congrArg List.length C.rq
  have l2 : rs2.length = ((iseq 0 d2).filter fun m => !decide (m ∈ rs)).length := by
    rw [← List.filter_congr hc]
    exact congrArg List.length D.rq
  have l3 := cnt_not (fun m => decide (m ∈ rs)) (iseq 0 d2)
  rw [iseq_len] at l3
  refine ⟨rfl, ?_, ?_⟩ <;> omega
/-! how many -/
def Fnt (A : Int → Bool) (k : Nat) : Prop := ∃ N : Nat, ∀ m, N ≤ m → ((iseq 1 m).filter A).length = k
def Ift (A : Int → Bool) : Prop := ∀ N : Int, ∃ n, N ≤ n ∧ 1 ≤ n ∧ A n = true
def SzO (A : Int → Bool) : Option Int → Prop
  | some k => 0 ≤ k ∧ k ≤ 100000 ∧ Fnt A k.toNat
  | none => Ift A
theorem fin_inf {A : Int → Bool} {k : Nat} (h : Fnt A k) (h2 : Ift A) : False := by
  obtain ⟨N, hN⟩ := h
  obtain ⟨n, n1, n2, hn⟩ := h2 (N + 1)
  have a := hN N (Nat.le_refl _)
  have b := hN n.toNat (by omega)
  have e : n.toNat = N + (n.toNat - N) := by omega
  rw [e, iseq_append, List.filter_append, List.length_append, a] at b
  have : n ∈ (iseq (1 + (N : Int)) (n.toNat - N)).filter A := List.mem_filter.mpr ⟨mem_iseq.mpr ⟨by omega, by omega⟩, hn⟩
  have := List.length_pos_of_mem this
  omega
theorem fin_uniq {A : Int → Bool} {k l : Nat} (h : Fnt A k) (h2 : Fnt A l) : k = l := by
  obtain ⟨N, hN⟩ := h
  obtain ⟨M, hM⟩ := h2
  rw [← hN (N + M) (by omega), ← hM (N + M) (by omega)]
theorem cnt_or {A B : Int → Bool} : ∀ l : List Int, (l.filter fun n => A n || B n).length = (l.filter fun n => A n && !B n).length + (l.filter B).length
  | [] => rfl
  | x :: r => by
    have ih := cnt_or (A := A) (B := B) r
    simp only [List.filter_cons]
    cases hA : A x <;> cases hB : B x <;> simp [ih] <;> omega
theorem szO_or {A B : Int → Bool} {o p q : Option Int} (h : SzO (fun n => A n || B n) o) (h1 : SzO (fun n => A n && !B n) p) (h2 : SzO B q) : o = (match p, q with | some i, some j => some (i + j) | _, _ => none) := by
  cases p with
  | none =>
    cases o with
    | none => cases q <;> rfl
    | some k => exact (fin_inf h.2.2 fun N => by
        obtain ⟨n, n1, n2, hn⟩ := h1 N
        refine ⟨n, n1, n2, ?_⟩
        simp at hn ⊢
        exact .inl hn.1).elim
  | some i =>
    cases q with
    | none =>
      cases o with
      | none => rfl
      | some k => exact (fin_inf h.2.2 fun N => by
          obtain ⟨n, n1, n2, hn⟩ := h2 N
          refine ⟨n, n1, n2, ?_⟩
          simp at hn ⊢
          exact .inr hn).elim
    | some j =>
      obtain ⟨i1, i2, N, hN⟩ := h1
      obtain ⟨j1, j2, M, hM⟩ := h2
      have hF : Fnt (fun n => A n || B n) (i.toNat + j.toNat) := ⟨N + M, fun m hm => by rw [cnt_or, hN m (by omega), hM m (by omega)]⟩
      cases o with
      | none => exact (fin_inf hF h).elim
      | some k =>
        obtain ⟨k1, k2, hk⟩ := h
        have := fin_uniq hF hk
        show some k = some (i + j)
        congr 1
        omega
theorem Can.szO {A : Int → Bool} {few rs : List Int} {st : Int} {d : Nat} (C : Can A few st d rs) (b : st ≤ 50000) : SzO A (if rs = [] then some (((iseq 1 (st - 1).toNat).filter (hasR few st d rs)).length : Int) else none) := by
  have s1 := C.s1
  have d1 := C.d1
  split
  · rename_i e
    have hl := List.length_filter_le (hasR few st d rs) (iseq 1 (st - 1).toNat)
    rw [iseq_len] at hl
    refine ⟨by omega, by omega, (st - 1).toNat, fun m hm => ?_⟩
    have em : m = (st - 1).toNat + (m - (st - 1).toNat) := by omega
    rw [em, iseq_append, List.filter_append, List.length_append, filter_none (lo := 1 + ((st - 1).toNat : Int))]
    · rw [List.length_nil, Nat.add_zero, Int.toNat_natCast]
      congr 1
      refine List.filter_congr fun n hn => ?_
      have hn := mem_iseq.mp hn
      exact C.has (by omega)
    · intro n h1 h2
      rw [C.rest n (by omega), e]
      rfl
  · rename_i e
    intro N
    cases rs with
    | nil => exact absurd rfl e
    | cons r t =>
      have hr := C.rs_mem List.mem_cons_self
      have hK := Int.mul_le_mul_of_nonneg_right (show (1 : Int) ≤ d by omega) (show (0 : Int) ≤ (st.toNat + N.toNat : Nat) by omega)
      refine ⟨r + d * (st.toNat + N.toNat : Nat), by omega, by omega, ?_⟩
      rw [C.rest _ (by omega), Int.add_mul_emod_self_left, Int.emod_eq_of_lt (by omega) (by omega)]
      exact decide_eq_true List.mem_cons_self
theorem szO_uniq {A : Int → Bool} {o p : Option Int} (h : SzO A o) (h2 : SzO A p) : o = p := by
  cases o <;> cases p
  · rfl
  · exact (fin_inf h2.2.2 h).elim
  · exact (fin_inf h.2.2 h2).elim
  · obtain ⟨a1, a2, ha⟩ := h
    obtain ⟨b1, b2, hb⟩ := h2
    have := fin_uniq ha hb
    congr 1
    omega
theorem and_same {A B : Int → Bool} : Same (fun n => A n && B n) A ↔ Sub A B := by
  constructor
  · intro h n hn hA
    have h := h n hn
    dsimp only at h
    rw [hA] at h
    simpa using h
  · intro h n hn
    dsimp only
    cases hA : A n with
    | false => rfl
    | true => rw [h n hn hA]; rfl
theorem or_same {A B : Int → Bool} : Same (fun n => A n || B n) A ↔ Sub B A := by
  constructor
  · intro h n hn hB
    have h := h n hn
    dsimp only at h
    rw [hB] at h
    simpa using h
  · intro h n hn
    dsimp only
    cases hB : B n with
    | false => simp
    | true => rw [h n hn hB]; rfl
theorem compl_sub {A B : Int → Bool} : Sub (fun n => !B n) (fun n => !A n) ↔ Sub A B := by
  constructor
  · intro h n hn hA
    have h := h n hn
    dsimp only at h
    rw [hA] at h
    cases hB : B n with
    | true => rfl
    | false => rw [hB] at h; simp at h
  · intro h n hn hB
    dsimp only at hB ⊢
    cases hA : A n with
    | false => rfl
    | true => rw [h n hn hA] at hB; cases hB
theorem lt_iff {A B : Int → Bool} : (Sub A B ∧ ¬ Sub B A) ↔ (Sub A B ∧ ¬ Same A B) := by
  rw [same_iff]
  exact ⟨fun h => ⟨h.1, fun k => h.2 k.2⟩, fun h => ⟨h.1, fun k => h.2 ⟨h.1, k⟩⟩⟩
def szAdd : Option Int → Option Int → Option Int | some i, some j => some (i + j) | _, _ => none
theorem szO_add {A B : Int → Bool} {o p q : Option Int} (h : SzO (fun n => A n || B n) o) (h1 : SzO (fun n => A n && !B n) p) (h2 : SzO B q) : o = szAdd p q := by
  rw [szO_or h h1 h2]
  cases p <;> cases q <;> rfl
theorem szO_bd {A : Int → Bool} {o : Option Int} (h : SzO A o) : ∀ i, o = some i → -(10 ^ 12) < i ∧ i < 10 ^ 12 := by
  intro i e
  subst e
  have h1 := h.1
  have h2 := h.2.1
  omega
/-- the least one -/
def LstO (A : Int → Bool) (N : Int) : Option Int → Prop
  | some i => 1 ≤ i ∧ i < N ∧ A i = true
  | none => Same A (hasR [] 1 1 [])
theorem LstO.mono {A : Int → Bool} {N M : Int} (h : N ≤ M) : ∀ {o : Option Int}, LstO A N o → LstO A M o
  | some i, ⟨h1, h2, h3⟩ => ⟨h1, by omega, h3⟩
  | none, h => h
theorem Can.lst {A : Int → Bool} {few rs : List Int} {st : Int} {d : Nat} (C : Can A few st d rs) {o : Option Int} (ho : o = ((iseq 1 (st + 2 * (d : Int) - 1).toNat).filter (hasR few st d rs)).head?) : LstO A (st + 2 * d) o := by
  have s1 := C.s1
  have d1 := C.d1
  cases o with
  | some i =>
    have := head_mem ho.symm
    refine ⟨this.1, by omega, ?_⟩
    rw [C.has this.1]
    exact this.2.2.1
  | none =>
    have h := List.head?_eq_none_iff.mp ho.symm
    rw [List.filter_eq_nil_iff] at h
    intro n hn
    rw [hasR1 hn, if_neg (by omega)]
    show A n = false
    by_cases hs : n < st
    · have := h n (mem_iseq.mpr ⟨hn, by omega⟩)
      rw [← C.has hn] at this
      simpa using this
    · obtain ⟨m, q, m1, m2, rfl⟩ := low_rep (p := d) (by omega) (show st ≤ n by omega)
      rw [C.step (Nat.dvd_refl _) m1]
      have := h m (mem_iseq.mpr ⟨by omega, by omega⟩)
      rw [← C.has (by omega)] at this
      simpa using this
theorem Can.no_shorter {A : Int → Bool} {few rs : List Int} {st : Int} {d e : Nat} (C : Can A few st d rs) (he : 0 < e) (hed : e < d) (hd : d % e = 0) : rs ≠ (iseq 0 d).filter fun r => decide (r % (e : Int) ∈ rs.map (· % (e : Int))) := by
  intro h
  have d1 := C.d1
  have bit : ∀ r : Int, 0 ≤ r → r < d → decide (r ∈ rs) = decide (r % (e : Int) ∈ rs.map (· % (e : Int))) := fun r h0 h1 => by
    refine decide_eq_decide.mpr ?_
    constructor
    · intro hr; exact List.mem_map.mpr ⟨r, hr, rfl⟩
    · intro hr
      rw [h]
      exact List.mem_filter.mpr ⟨mem_iseq.mpr ⟨h0, by omega⟩, decide_eq_true hr⟩
  have := C.min e he ⟨st, fun n hn => by
    rw [C.rest n hn, C.rest _ (by omega)]
    have m1 : ∀ x : Int, 0 ≤ x % (d : Int) := fun x => Int.emod_nonneg _ (by omega)
    have m2 : ∀ x : Int, x % (d : Int) < d := fun x => Int.emod_lt_of_pos _ (by omega)
    have dv : (e : Int) ∣ (d : Int) := Int.natCast_dvd_natCast.mpr (Nat.dvd_of_mod_eq_zero hd)
    rw [bit _ (m1 _) (m2 _), bit _ (m1 _) (m2 _), Int.emod_emod_of_dvd _ dv, Int.emod_emod_of_dvd _ dv, Int.add_emod_right]⟩
  omega
theorem xor_same {A B : Int → Bool} : Same (fun n => A n != B n) (hasR [] 1 1 []) ↔ Same A B := by
  constructor
  · intro h n hn
    have h := h n hn
    rw [hasR1 hn, if_neg (by omega)] at h
    have h : (A n != B n) = false := h
    simpa using h
  · intro h n hn
    rw [hasR1 hn, if_neg (by omega)]
    show (A n != B n) = false
    rw [h n hn]
    simp
theorem told_same {few rs : List Int} {st p l k : Int} (hs : 1 ≤ st) (h : st ≤ l) (hp : 1 ≤ p) (hk : 1 ≤ k) {n : Int} (hn : 1 ≤ n) : hasR ((iseq 1 (l - 1).toNat).filter (hasR few st p rs)) l (p * k) ((iseq 0 (p * k).toNat).filter fun r => decide (r % p ∈ rs)) n = hasR few st p rs n := by
  rw [hasR1 hn]
  by_cases hl : n < l
  · rw [if_pos hl]
    cases hA : hasR few st p rs n with
    | true => exact decide_eq_true (List.mem_filter.mpr ⟨mem_iseq.mpr ⟨hn, by omega⟩, hA⟩)
    | false => exact decide_eq_false fun h2 => by have := (List.mem_filter.mp h2).2; rw [hA] at this; cases this
  · rw [if_neg hl, hasR1 hn, if_neg (by omega)]
    have hpk : 0 < p * k := Int.mul_pos (by omega) (by omega)
    have m1 : 0 ≤ n % (p * k) := Int.emod_nonneg _ (by omega)
    have m2 : n % (p * k) < p * k := Int.emod_lt_of_pos _ (by omega)
    refine decide_eq_decide.mpr ?_
    rw [List.mem_filter, mem_iseq, Int.emod_emod_of_dvd n (Int.dvd_mul_right p k)]
    simp
    intro _
    omega
/-! two calendars joined -/
def Sg (s : Str) (f : Bool → Bool → Bool) : Prop := (s = "&" ∧ f = fun a b => a && b) ∨ (s = "|" ∧ f = fun a b => a || b) ∨ (s = "-" ∧ f = fun a b => a && !b) ∨ (s = "^" ∧ f = fun a b => a != b)
def fnd (F : Int → Bool) (s : Int) (m : Nat) : List Int := (iseq 1 (s + m - 1).toNat).filter F
theorem join_has {F : Int → Bool} {s : Int} {m : Nat} (hs : 1 ≤ s) (hm : 0 < m) (hF : ∀ n q, s ≤ n → F (n + (m * q : Nat)) = F n) {n : Int} (hn : 1 ≤ n) : hasR ((fnd F s m).filter fun i => decide (i < s)) s m (((fnd F s m).filter fun i => decide (i ≥ s)).map (· % (m : Int))) n = F n := by
  rw [hasR1 hn]
  unfold fnd
  by_cases h : n < s
  · rw [if_pos h]
    cases hf : F n with
    | true => exact decide_eq_true (List.mem_filter.mpr ⟨List.mem_filter.mpr ⟨mem_iseq.mpr ⟨hn, by omega⟩, hf⟩, decide_eq_true h⟩)
    | false => exact decide_eq_false fun h2 => by have := (List.mem_filter.mp (List.mem_filter.mp h2).1).2; rw [hf] at this; cases this
  · rw [if_neg h]
    obtain ⟨k, q, k1, k2, rfl⟩ := low_rep (p := m) hm (show s ≤ n by omega)
    rw [hF _ _ k1]
    have e1 : (k + (m * q : Nat)) % (m : Int) = k % (m : Int) := by push_cast; rw [Int.add_mul_emod_self_left]
    rw [e1]
    cases hf : F k with
    | true => exact decide_eq_true (List.mem_map.mpr ⟨k, List.mem_filter.mpr ⟨List.mem_filter.mpr ⟨mem_iseq.mpr ⟨by omega, by omega⟩, hf⟩, decide_eq_true k1⟩, rfl⟩)
    | false =>
      refine decide_eq_false fun h2 => ?_
      obtain ⟨v, hv, ev⟩ := List.mem_map.mp h2
      obtain ⟨hv1, hv2⟩ := List.mem_filter.mp hv
      have hv2 := of_decide_eq_true hv2
      obtain ⟨hv3, hv4⟩ := List.mem_filter.mp hv1
      have hv3 := mem_iseq.mp hv3
      have : v = k := by
        have a1 : (v - s) % (m : Int) = (k - s) % (m : Int) := by rw [Int.sub_emod, ev, ← Int.sub_emod]
        rw [Int.emod_eq_of_lt (by omega) (by omega), Int.emod_eq_of_lt (by omega) (by omega)] at a1
        omega
      rw [this, hf] at hv4
      cases hv4
/-! texts -/
def strD : Dt → Dt | .int i => .str (istr i) | _ => .non
def fewT (few : List Int) : Str := if few = [] then "-" else Txt.join " " (few.map istr)
theorem jn_len (s : List Nat) {k : Nat} : ∀ ts : List (List Nat), (∀ t ∈ ts, t.length ≤ k) → (jn s ts).length ≤ ts.length * (k + s.length)
  | [], _ => by simp [jn]
  | [t], h => by
    have := h t List.mem_cons_self
    show t.length ≤ _
    simp only [List.length_cons, List.length_nil]
    omega
  | t :: u :: r, h => by
    have h1 := h t List.mem_cons_self
    have ih := jn_len s (u :: r) fun x hx => h x (List.mem_cons_of_mem _ hx)
    show (t ++ s ++ jn s (u :: r)).length ≤ _
    simp only [List.length_append]
    rw [List.length_cons (a := t), Nat.succ_mul]
    omega
theorem join_len {is : List Int} (h : ∀ v ∈ is, 0 ≤ v ∧ v < 10 ^ 10) : (Txt.join " " (is.map istr)).length ≤ 14 * is.length := by
  rw [← cd_len, cd_join, List.map_map]
  refine Nat.le_trans (jn_len _ (k := 13) _ ?_) ?_
  · intro t ht
    obtain ⟨v, hv, rfl⟩ := List.mem_map.mp ht
    show (cd (istr v)).length ≤ 13
    rw [cd_len]
    exact istr_len (h v hv).1 (h v hv).2
  · rw [List.length_map]
    show is.length * (13 + 1) ≤ _
    omega
theorem sum_istr {is : List Int} (h : ∀ v ∈ is, 0 ≤ v ∧ v < 10 ^ 10) : (((is.map istr)).map (·.length)).sum + (is.map istr).length * (" " : Str).length ≤ 14 * is.length := by
  induction is with
  | nil => simp
  | cons v r ih =>
    have h1 := istr_len (h v List.mem_cons_self).1 (h v List.mem_cons_self).2
    have := ih fun x hx => h x (List.mem_cons_of_mem _ hx)
    have e : (" " : Str).length = 1 := rfl
    rw [e] at this ⊢
    simp only [List.map_cons, List.sum_cons, List.length_cons, List.length_map] at this ⊢
    omega
theorem fewT_len {few : List Int} (h : ∀ v ∈ few, 0 ≤ v ∧ v < 10 ^ 10) : (fewT few).length ≤ 14 * few.length + 1 := by
  unfold fewT
  split
  · exact Nat.le_add_left _ _
  · exact Nat.le_succ_of_le (join_len h)
theorem app_len (a b : Str) : (a ++ b).length = a.length + b.length := by
  rw [← cd_len, cd_app, List.length_append, cd_len, cd_len]
def calT (few : List Int) (st : Int) (d : Int) (rs : List Int) : Str := if rs = [] then fewT few else ((((((Str.empty ++ fewT few) ++ " from ") ++ istr st) ++ " of ") ++ istr d) ++ ": ") ++ Txt.join " " (rs.map istr)
def tkF (few : List Int) : List (List Nat) := if few = [] then [[45]] else few.map dg
def tkR (st d : Int) (rs : List Int) : List (List Nat) := if rs = [] then [] else [102, 114, 111, 109] :: dg st :: [111, 102] :: (dg d ++ [58]) :: rs.map dg
theorem tkF_ne (few : List Int) : tkF few ≠ [] := by
  unfold tkF
  split
  · simp
  · rename_i h
    simpa using h
theorem cd_fewT (few : List Int) : cd (fewT few) = jn [32] (tkF few) := by
  unfold fewT tkF
  split
  · rfl
  · rw [cd_join, List.map_map]
    rfl
theorem cd_calT (few : List Int) (st d : Int) (rs : List Int) : cd (calT few st d rs) = jn [32] (tkF few ++ tkR st d rs) := by
  unfold calT tkR
  split
  · rw [List.append_nil]; exact cd_fewT few
  · rename_i h
    rw [jn_app _ _ (tkF_ne few) (by simp)]
    simp only [cd_app]
    rw [cd_fewT, cd_join, List.map_map]
    have e : ∀ (x : Int) (l : List Int), jn [32] ((x :: l).map dg) = jn (cd " ") ((x :: l).map (cd ∘ istr)) := fun _ _ => rfl
    cases rs with
    | nil => exact absurd rfl h
    | cons r t =>
      show _ = jn [32] (tkF few) ++ [32] ++ ([102, 114, 111, 109] ++ [32] ++ (dg st ++ [32] ++ ([111, 102] ++ [32] ++ (dg d ++ [58] ++ [32] ++ jn [32] ((r :: t).map dg)))))
      rw [e]
      show [] ++ _ ++ [32, 102, 114, 111, 109, 32] ++ dg st ++ [32, 111, 102, 32] ++ dg d ++ [58, 32] ++ _ = _
      simp [List.append_assoc]
theorem map_dg_inj : ∀ {a b : List Int}, (∀ v ∈ a, 0 ≤ v ∧ v < 10 ^ 10) → (∀ v ∈ b, 0 ≤ v ∧ v < 10 ^ 10) → a.map dg = b.map dg → a = b
  | [], [], _, _, _ => rfl
  | [], _ :: _, _, _, h => by simp at h
  | _ :: _, [], _, _, h => by simp at h
  | x :: a, y :: b, ha, hb, h => by
    simp only [List.map_cons, List.cons.injEq] at h
    have hx := ha x List.mem_cons_self
    have hy := hb y List.mem_cons_self
    rw [dg_inj hx.1 hx.2 hy.1 hy.2 h.1, map_dg_inj (fun v hv => ha v (List.mem_cons_of_mem _ hv)) (fun v hv => hb v (List.mem_cons_of_mem _ hv)) h.2]
theorem tkF_inj {a b : List Int} (ha : ∀ v ∈ a, 0 ≤ v ∧ v < 10 ^ 10) (hb : ∀ v ∈ b, 0 ≤ v ∧ v < 10 ^ 10) (h : tkF a = tkF b) : a = b := by
  have hm : ∀ v : Int, 0 ≤ v → dg v ≠ [45] := fun v hv e => by
    have := dg_digits hv 45 (by rw [e]; exact List.mem_cons_self)
    omega
  unfold tkF at h
  by_cases ea : a = [] <;> by_cases eb : b = []
  · rw [ea, eb]
  · rw [if_pos ea, if_neg eb] at h
    cases b with
    | nil => exact absurd rfl eb
    | cons y t => simp only [List.map_cons, List.cons.injEq] at h; exact absurd h.1.symm (hm y (hb y List.mem_cons_self).1)
  · rw [if_neg ea, if_pos eb] at h
    cases a with
    | nil => exact absurd rfl ea
    | cons y t => simp only [List.map_cons, List.cons.injEq] at h; exact absurd h.1 (hm y (ha y List.mem_cons_self).1)
  · rw [if_neg ea, if_neg eb] at h
    exact map_dg_inj ha hb h
theorem preL_eq {α : Type} {c : α} : ∀ {a b x y : List α}, c ∉ a → c ∉ b → a ++ c :: x = b ++ c :: y → a = b ∧ x = y
  | [], [], x, y, _, _, h => by simp at h; exact ⟨rfl, h⟩
  | [], d :: b, x, y, _, hb, h => by
    simp only [List.nil_append, List.cons_append, List.cons.injEq] at h
    exact absurd (by rw [h.1]; exact List.mem_cons_self) hb
  | d :: a, [], x, y, ha, _, h => by
    simp only [List.nil_append, List.cons_append, List.cons.injEq] at h
    exact absurd (by rw [← h.1]; exact List.mem_cons_self) ha
  | d :: a, e :: b, x, y, ha, hb, h => by
    simp only [List.cons_append, List.cons.injEq] at h
    obtain ⟨h1, h2⟩ := preL_eq (fun z => ha (List.mem_cons_of_mem _ z)) (fun z => hb (List.mem_cons_of_mem _ z)) h.2
    exact ⟨by rw [h.1, h1], h2⟩
theorem tkF_free {a : List Int} (ha : ∀ v ∈ a, 0 ≤ v ∧ v < 10 ^ 10) : [102, 114, 111, 109] ∉ tkF a := by
  unfold tkF
  split
  · decide
  · intro h
    obtain ⟨v, hv, e⟩ := List.mem_map.mp h
    have := dg_digits (ha v hv).1 102 (by rw [e]; exact List.mem_cons_self)
    omega
theorem tkF_sp {a : List Int} : ∀ t ∈ tkF a, 32 ∉ t := by
  unfold tkF
  split
  · decide
  · intro t ht
    obtain ⟨v, hv, rfl⟩ := List.mem_map.mp ht
    exact dg_free (by decide) v
theorem tkR_sp {st d : Int} {rs : List Int} : ∀ t ∈ tkR st d rs, 32 ∉ t := by
  unfold tkR
  split
  · intro t ht; cases ht
  · intro t ht
    have hf : ∀ v : Int, 32 ∉ dg v := fun v => dg_free (by decide) v
    rcases List.mem_cons.mp ht with rfl | ht
    · decide
    rcases List.mem_cons.mp ht with rfl | ht
    · exact hf _
    rcases List.mem_cons.mp ht with rfl | ht
    · decide
    rcases List.mem_cons.mp ht with rfl | ht
    · intro h
      rcases List.mem_append.mp h with h | h
      · exact hf _ h
      · revert h; decide
    obtain ⟨v, hv, rfl⟩ := List.mem_map.mp ht
    exact hf v
theorem calT_inj {few few2 rs rs2 : List Int} {st st2 d d2 : Int} (hf : ∀ v ∈ few, 0 ≤ v ∧ v < 10 ^ 10) (hf2 : ∀ v ∈ few2, 0 ≤ v ∧ v < 10 ^ 10) (hr : ∀ v ∈ rs, 0 ≤ v ∧ v < 10 ^ 10) (hr2 : ∀ v ∈ rs2, 0 ≤ v ∧ v < 10 ^ 10) (hs : 0 ≤ st ∧ st < 10 ^ 10) (hs2 : 0 ≤ st2 ∧ st2 < 10 ^ 10) (hd : 0 ≤ d ∧ d < 10 ^ 10) (hd2 : 0 ≤ d2 ∧ d2 < 10 ^ 10)
    (h : calT few st d rs = calT few2 st2 d2 rs2) : few = few2 ∧ rs = rs2 ∧ (rs = [] ∨ (st = st2 ∧ d = d2)) := by
  have h1 : jn [32] (tkF few ++ tkR st d rs) = jn [32] (tkF few2 ++ tkR st2 d2 rs2) := by rw [← cd_calT, ← cd_calT, h]
  have sp : ∀ (a : List Int) (s d : Int) (r : List Int), ∀ t ∈ tkF a ++ tkR s d r, 32 ∉ t := fun a s d r t ht => by
    rcases List.mem_append.mp ht with h | h
    · exact tkF_sp t h
    · exact tkR_sp t h
  have h2 := jn_inj (by simp [tkF_ne]) (by simp [tkF_ne]) (sp _ _ _ _) (sp _ _ _ _) h1
  have fr := tkF_free hf
  have fr2 := tkF_free hf2
  unfold tkR at h2
  by_cases e : rs = [] <;> by_cases e2 : rs2 = []
  · rw [if_pos e, if_pos e2, List.append_nil, List.append_nil] at h2
    exact ⟨tkF_inj hf hf2 h2, by rw [e, e2], .inl e⟩
  · rw [if_pos e, if_neg e2, List.append_nil] at h2
    exact absurd (by rw [h2]; simp) fr
  · rw [if_neg e, if_pos e2, List.append_nil] at h2
    exact absurd (by rw [← h2]; simp) fr2
  · rw [if_neg e, if_neg e2] at h2
    obtain ⟨h3, h4⟩ := preL_eq fr fr2 h2
    simp only [List.cons.injEq] at h4
    obtain ⟨h5, _, h6, h7⟩ := h4
    have h8 : dg d = dg d2 := (List.append_inj' h6 rfl).1
    exact ⟨tkF_inj hf hf2 h3, map_dg_inj hr hr2 h7, .inr ⟨dg_inj hs.1 hs.2 hs2.1 hs2.2 h5, dg_inj hd.1 hd.2 hd2.1 hd2.2 h8⟩⟩
section
variable {A B : Int → Bool} {few rs few2 rs2 : List Int} {st st2 : Int} {d d2 : Nat}
theorem Can.text (C : Can A few st d rs) (D : Can B few2 st2 d2 rs2) (b1 : st ≤ 10 ^ 9) (b2 : st2 ≤ 10 ^ 9) (b3 : d ≤ 10 ^ 9) (b4 : d2 ≤ 10 ^ 9) : calT few st d rs = calT few2 st2 d2 rs2 ↔ ∀ n, 1 ≤ n → A n = B n := by
  constructor
  · intro h n hn
    have s1 := C.s1
    have s2 := D.s1
    obtain ⟨e1, e2, e3⟩ := calT_inj (fun v hv => by have := C.few_mem hv; omega) (fun v hv => by have := D.few_mem hv; omega) (fun v hv => by have := C.rs_mem hv; omega) (fun v hv => by have := D.rs_mem hv; omega) (by omega) (by omega) (by omega) (by omega) h
    rw [C.has hn, D.has hn]
    subst e1 e2
    rcases e3 with e3 | ⟨e3, e4⟩
    · subst e3
      unfold hasR
      have hC : n ∈ few → n < st := fun hm => (C.few_mem hm).2
      have hD : n ∈ few → n < st2 := fun hm => (D.few_mem hm).2
      have h1 : ¬ n < 1 := by omega
      simp only [h1, if_false]
      by_cases hm : n ∈ few
      · simp [hC hm, hD hm]
      · simp [hm]
    · rw [e3, e4]
  · intro h
    obtain ⟨rfl, rfl, rfl, rfl⟩ := C.uniq D h
    rfl
end
end RY

set_option Elab.async false
set_option linter.all false
set_option maxRecDepth 100000
set_option maxHeartbeats 4000000
namespace K36
open PySem PySem.Spec PyProof.Rows L2 RS RX
def b_L_box : Ms :=
  (sSeq (sAsg (mOp xAdd (mOp xMul (mC (.int 5737)) (mVar 1)) (mC (.int 101))) (gN 2))
  (sSeq (sIf (mB (mOp xLt (mVar 1) (mCb xLen (aCons (mVar 0) aNil)))) (sAsg (mCb xAbs (aCons (mCb xIntX (aCons (mOp xIx (mVar 0) (mVar 1)) aNil)) aNil)) (gN 2)) (sIf (mB (mOp xGt (mCb xLen (aCons (mVar 0) aNil)) (mC (.int 0)))) (sAsg (mOp xAdd (mVar 2) (mOp xMul (mOp xMod (mCb xIntX (aCons (mOp xIx (mVar 0) (mOp xMod (mCb xIntX (aCons (mVar 1) aNil)) (mCb xLen (aCons (mVar 0) aNil)))) aNil)) (mC (.int 2147483629))) (mC (.int 83207)))) (gN 2)) sNext))
  (sSeq (sAsg (mOp xAdd (mOp xMod (mCb xIntX (aCons (mOp xAdd (mOp xAdd (mOp xMul (mOp xMod (mCb xIntX (aCons (mVar 2) aNil)) (mC (.int 2147483629))) (mC (.int 59029))) (mOp xMul (mC (.int 36293)) (mVar 1))) (mC (.int 7))) aNil)) (mC (.int 2147483629))) (mC (.int 1))) (gN 3))
  (sSeq (sAsg (mIf (mB (mOp xGe (mVar 2) (mOp xPow (mC (.int 10)) (mC (.int 18))))) (mVar 2) (mC (.int 0))) (gN 4))
  (sRet (mLstC (aCons (mVar 4) (aCons (mVar 3) (aCons (mC (.int 0)) aNil)))))))))
def m_L_box : Mf := fnK 2 5 b_L_box
def b_L_take : Ms :=
  (sSeq (sIf (mB (mOp xGt (mOp xIx (mVar 0) (mC (.int 0))) (mC (.int 0)))) (sSeq (sAsg (mOp xMod (mCb xIntX (aCons (mOp xIx (mVar 0) (mC (.int 0))) aNil)) (mVar 1)) (gN 2))
  (sSeq (sAsg (mOp xDiv (mOp xIx (mVar 0) (mC (.int 0))) (mVar 1)) (gSb (mVar 0) (mC (.int 0))))
  (sRet (mVar 2)))) sNext)
  (sSeq (sAsg (mOp xAdd (mOp xIx (mVar 0) (mC (.int 2))) (mC (.int 1))) (gSb (mVar 0) (mC (.int 2))))
  (sSeq (sAsg (mOp xMod (mCb xIntX (aCons (mOp xMul (mOp xAdd (mOp xIx (mVar 0) (mC (.int 1))) (mOp xMul (mC (.int 98893)) (mOp xIx (mVar 0) (mC (.int 2))))) (mC (.int 44497))) aNil)) (mC (.int 2147483647))) (gN 3))
  (sSeq (sAsg (mOp xAdd (mOp xMod (mCb xIntX (aCons (mOp xAdd (mOp xMul (mVar 3) (mC (.int 62501))) (mC (.int 27017))) aNil)) (mC (.int 2147483629))) (mC (.int 1))) (gSb (mVar 0) (mC (.int 1))))
  (sRet (mOp xMod (mCb xIntX (aCons (mOp xDiv (mOp xAdd (mOp xMul (mVar 3) (mC (.int 2147483647))) (mOp xIx (mVar 0) (mC (.int 1)))) (mC (.int 8191))) aNil)) (mVar 1)))))))
def m_L_take : Mf := fnX 2 4 b_L_take
def b_L_pick : Ms :=
  (sRet (mOp xIx (mVar 1) (mCall m_L_take (aCons (mVar 0) (aCons (mCb xLen (aCons (mVar 1) aNil)) aNil)))))
def m_L_pick : Mf := fnX 2 2 b_L_pick
def b_L_raw : Ms :=
  (sSeq (sAsg (mOp xAdd (mC (.int 1)) (mCall m_L_take (aCons (mVar 0) (aCons (mVar 1) aNil)))) (gN 3))
  (sSeq (sAsg (mOp xAdd (mC (.int 1)) (mCall m_L_take (aCons (mVar 0) (aCons (mVar 2) aNil)))) (gN 4))
  (sSeq (sAsg (mIf (mB (mOp xGt (mVar 3) (mC (.int 1)))) (mLc (wRng1 (aCons (mCall m_L_take (aCons (mVar 0) (aCons (mC (.int 6)) aNil))) aNil)) (gN 7) mYes (mOp xAdd (mC (.int 1)) (mCall m_L_take (aCons (mVar 0) (aCons (mOp xSub (mVar 3) (mC (.int 1))) aNil)))) [7]) (mLst aNil)) (gN 5))
  (sSeq (sAsg (mLc (wRng1 (aCons (mCall m_L_pick (aCons (mVar 0) (aCons (mLst (aCons (mC (.int 0)) (aCons (mC (.int 1)) (aCons (mC (.int 1)) (aCons (mC (.int 2)) (aCons (mC (.int 3)) (aCons (mVar 4) aNil))))))) aNil))) aNil)) (gN 7) mYes (mCall m_L_take (aCons (mVar 0) (aCons (mVar 4) aNil))) [7]) (gN 6))
  (sRet (mTup (aCons (mVar 5) (aCons (mVar 3) (aCons (mVar 4) (aCons (mVar 6) aNil))))))))))
def m_L_raw : Mf := fnX 3 8 b_L_raw
def b_is_integer : Ms :=
  (sRet (mAndV (mCb (xIsiN 1) (aCons (mVar 0) (aCons (mC (.ty "int")) aNil))) (mNotV (mCb (xIsiN 1) (aCons (mVar 0) (aCons (mC (.ty "bool")) aNil))))))
def m_is_integer : Mf := fnX 1 1 b_is_integer
def b_is_sequence : Ms :=
  (sRet (mCb (xIsiN 1) (aCons (mVar 0) (aCons (mTup (aCons (mC (.ty "list")) (aCons (mC (.ty "tuple")) aNil))) aNil))))
def m_is_sequence : Mf := fnX 1 1 b_is_sequence
def b_are_between : Ms :=
  (sRet (mAndV (mCall m_is_sequence (aCons (mVar 0) aNil)) (mCb xAll (aCons (mLc (wAny (mVar 0)) (gN 3) mYes (mAndV (mCall m_is_integer (aCons (mVar 3) aNil)) (mChain xLe xLe (mVar 1) (mVar 3) (mVar 2))) [3]) aNil))))
def m_are_between : Mf := fnX 3 4 b_are_between
def b_least_period : Ms :=
  (sSeq (sAsg (mCb xLen (aCons (mVar 0) aNil)) (gN 1))
  (sSeq (sFor (wRng2 (aCons (mC (.int 1)) (aCons (mVar 1) aNil))) (gN 2)
  (sIf (mAnd (mB (mOp xEq (mOp xMod (mVar 1) (mVar 2)) (mC (.int 0)))) (mB (mOp xEq (mVar 0) (mOp xMul (mSl (mVar 0) oNone (oSome (mVar 2))) (mOp xDiv (mVar 1) (mVar 2)))))) (sRet (mVar 2)) sNext))
  (sRet (mVar 1))))
def m_least_period : Mf := fnX 1 3 b_least_period
def b_least_form : Ms :=
  (sSeq (sAsg (mTup (aCons (mDc (wAny (mVar 0)) (gN 8) mYes (mCb xIntX (aCons (mVar 8) aNil)) (mC (.bl true)) [8]) (aCons (mDc (wAny (mVar 3)) (gN 9) mYes (mCb xIntX (aCons (mVar 9) aNil)) (mC (.bl true)) [9]) aNil))) (gTp 2 (gsCons (gN 4) (gsCons (gN 5) gsNil))))
  (sSeq (sAsg (mLc (wRng1 (aCons (mVar 2) aNil)) (gN 9) mYes (mDIn (mVar 9) (mVar 5)) [9]) (gN 6))
  (sSeq (sAsg (mCall m_least_period (aCons (mVar 6) aNil)) (gN 7))
  (sSeq (sWhile 100000 (mAnd (mB (mOp xGt (mVar 1) (mC (.int 1)))) (mB (mOp xEq (mDIn (mOp xSub (mVar 1) (mC (.int 1))) (mVar 4)) (mOp xIx (mVar 6) (mOp xMod (mOp xSub (mVar 1) (mC (.int 1))) (mVar 7)))))) (sAsg (mOp xSub (mVar 1) (mC (.int 1))) (gN 1)))
  (sRet (mTup (aCons (mCb xTuple (aCons (mLc (wRng2 (aCons (mC (.int 1)) (aCons (mVar 1) aNil))) (gN 8) (mB (mDIn (mVar 8) (mVar 4))) (mVar 8) [8]) aNil)) (aCons (mVar 1) (aCons (mVar 7) (aCons (mCb xTuple (aCons (mLc (wRng1 (aCons (mVar 7) aNil)) (gN 9) (mB (mOp xIx (mVar 6) (mVar 9))) (mVar 9) [9]) aNil)) aNil))))))))))
def m_least_form : Mf := fnX 4 10 b_least_form
def b_Calendar___init__ : Ms :=
  (sSeq (sIf (mOr (mNot (mB (mCall m_is_integer (aCons (mVar 2) aNil)))) (mB (mOp xLt (mVar 2) (mC (.int 1))))) sBad sNext)
  (sSeq (sIf (mOr (mNot (mB (mCall m_is_integer (aCons (mVar 3) aNil)))) (mB (mOp xLt (mVar 3) (mC (.int 1))))) sBad sNext)
  (sSeq (sIf (mNot (mB (mCall m_are_between (aCons (mVar 1) (aCons (mC (.int 1)) (aCons (mOp xSub (mVar 2) (mC (.int 1))) aNil)))))) sBad sNext)
  (sSeq (sIf (mNot (mB (mCall m_are_between (aCons (mVar 4) (aCons (mC (.int 0)) (aCons (mOp xSub (mVar 3) (mC (.int 1))) aNil)))))) sBad sNext)
  (sAsg (mCall m_least_form (aCons (mVar 1) (aCons (mVar 2) (aCons (mVar 3) (aCons (mVar 4) aNil))))) (gTp 4 (gsCons (gFl "few" [0] (mVar 0)) (gsCons (gFl "start" [0] (mVar 0)) (gsCons (gFl "period" [0] (mVar 0)) (gsCons (gFl "rests" [0] (mVar 0)) gsNil))))))))))
def m_Calendar___init__ : Mf := fnX 5 5 b_Calendar___init__
def b_L_cal_of : Ms :=
  (sRet (mMk 0 m_Calendar___init__ [] (aCons (mOp xIx (mVar 0) (mC (.int 0))) (aCons (mOp xIx (mVar 0) (mC (.int 1))) (aCons (mOp xIx (mVar 0) (mC (.int 2))) (aCons (mOp xIx (mVar 0) (mC (.int 3))) aNil))))))
def m_L_cal_of : Mf := fnX 1 1 b_L_cal_of
def b_L_has : Ms :=
  (sSeq (sAsg (mVar 0) (gTp 4 (gsCons (gN 2) (gsCons (gN 3) (gsCons (gN 4) (gsCons (gN 5) gsNil))))))
  (sSeq (sIf (mB (mOp xLt (mVar 1) (mC (.int 1)))) (sRet (mC (.bl false))) sNext)
  (sRet (mIf (mB (mOp xLt (mVar 1) (mVar 3))) (mOp xIn (mVar 1) (mVar 2)) (mOp xIn (mOp xMod (mVar 1) (mVar 4)) (mVar 5))))))
def m_L_has : Mf := fnX 2 6 b_L_has
def b_Calendar___str__ : Ms :=
  (sSeq (sAsg (mIf (mB (mOp xGt (mCb xLen (aCons (mFld "few" [0] (mVar 0)) aNil)) (mC (.int 0)))) (mBm "str" xJoin (mC (.str " ")) (aCons (mLc (wAny (mFld "few" [0] (mVar 0))) (gN 2) mYes (mCb xStr (aCons (mVar 2) aNil)) [2]) aNil)) (mC (.str "-"))) (gN 1))
  (sSeq (sIf (mB (mOp xEq (mCb xLen (aCons (mFld "rests" [0] (mVar 0)) aNil)) (mC (.int 0)))) (sRet (mFmt [] (mVar 1))) sNext)
  (sRet (mJs [(mFmt [] (mVar 1)), (mC (.str " from ")), (mFmt [] (mFld "start" [0] (mVar 0))), (mC (.str " of ")), (mFmt [] (mFld "period" [0] (mVar 0))), (mC (.str ": ")), (mFmt [] (mBm "str" xJoin (mC (.str " ")) (aCons (mLc (wAny (mFld "rests" [0] (mVar 0))) (gN 3) mYes (mCb xStr (aCons (mVar 3) aNil)) [3]) aNil)))] Str.empty))))
def m_Calendar___str__ : Mf := fnX 1 4 b_Calendar___str__
def b_Calendar___eq__ : Ms :=
  (sRet (mAndV (mCb (xIsiN 1) (aCons (mVar 1) (aCons (mC (.cls 0)) aNil))) (mOp xEq (mCb (xStrL ([(0, m_Calendar___str__)] : List (Nat × Mf))) (aCons (mVar 0) aNil)) (mCb (xStrL ([(0, m_Calendar___str__)] : List (Nat × Mf))) (aCons (mVar 1) aNil)))))
def m_Calendar___eq__ : Mf := fnX 2 2 b_Calendar___eq__
def b_greatest_part : Ms :=
  (sSeq (sWhile 100000 (mB (mOp xGt (mVar 1) (mC (.int 0)))) (sPar 0 1 (aCons (mVar 1) (aCons (mOp xMod (mVar 0) (mVar 1)) aNil))))
  (sRet (mVar 0)))
def m_greatest_part : Mf := fnX 2 2 b_greatest_part
def b_common : Ms :=
  (sRet (mOp xDiv (mOp xMul (mVar 0) (mVar 1)) (mCall m_greatest_part (aCons (mVar 0) (aCons (mVar 1) aNil)))))
def m_common : Mf := fnX 2 2 b_common
def b_later_start : Ms :=
  (sRet (mIf (mB (mOp xGt (mFld "start" [0] (mVar 0)) (mFld "start" [0] (mVar 1)))) (mFld "start" [0] (mVar 0)) (mFld "start" [0] (mVar 1))))
def m_later_start : Mf := fnX 2 2 b_later_start
def b_is_in_by : Ms :=
  (sSeq (sIf (mB (mOp xEq (mVar 0) (mC (.str "&")))) (sRet (mAndV (mVar 1) (mVar 2))) sNext)
  (sSeq (sIf (mB (mOp xEq (mVar 0) (mC (.str "|")))) (sRet (mOrV (mVar 1) (mVar 2))) sNext)
  (sRet (mIf (mB (mOp xEq (mVar 0) (mC (.str "-")))) (mAndV (mVar 1) (mNotV (mVar 2))) (mOp xNe (mVar 1) (mVar 2))))))
def m_is_in_by : Mf := fnX 3 3 b_is_in_by
def b_has : Ms :=
  (sSeq (sIf (mB (mOp xLt (mVar 1) (mFld "start" [0] (mVar 0)))) (sRet (mOp xIn (mVar 1) (mFld "few" [0] (mVar 0)))) sNext)
  (sRet (mOp xIn (mOp xMod (mVar 1) (mFld "period" [0] (mVar 0))) (mFld "rests" [0] (mVar 0)))))
def m_has : Mf := fnX 2 2 b_has
def b_joined : Ms :=
  (sSeq (sAsg (mTup (aCons (mCall m_later_start (aCons (mVar 0) (aCons (mVar 1) aNil))) (aCons (mCall m_common (aCons (mFld "period" [0] (mVar 0)) (aCons (mFld "period" [0] (mVar 1)) aNil))) aNil))) (gTp 2 (gsCons (gN 3) (gsCons (gN 4) gsNil))))
  (sSeq (sAsg (mLc (wRng2 (aCons (mC (.int 1)) (aCons (mOp xAdd (mVar 3) (mVar 4)) aNil))) (gN 7) (mB (mCall m_is_in_by (aCons (mVar 2) (aCons (mCall m_has (aCons (mVar 0) (aCons (mVar 7) aNil))) (aCons (mCall m_has (aCons (mVar 1) (aCons (mVar 7) aNil))) aNil))))) (mVar 7) [7]) (gN 5))
  (sSeq (sAsg (mLc (wAny (mVar 5)) (gN 7) (mB (mOp xGe (mVar 7) (mVar 3))) (mOp xMod (mVar 7) (mVar 4)) [7]) (gN 6))
  (sRet (mTup (aCons (mLc (wAny (mVar 5)) (gN 7) (mB (mOp xLt (mVar 7) (mVar 3))) (mVar 7) [7]) (aCons (mVar 3) (aCons (mVar 4) (aCons (mVar 6) aNil)))))))))
def m_joined : Mf := fnX 3 8 b_joined
def b_Calendar___xor__ : Ms :=
  (sSeq (sIf (mNot (mB (mCb (xIsiN 1) (aCons (mVar 1) (aCons (mC (.cls 0)) aNil))))) (sRet mBad) sNext)
  (sSeq (sAsg (mCall m_joined (aCons (mVar 0) (aCons (mVar 1) (aCons (mC (.str "^")) aNil)))) (gTp 4 (gsCons (gN 2) (gsCons (gN 3) (gsCons (gN 4) (gsCons (gN 5) gsNil))))))
  (sRet (mMk 0 m_Calendar___init__ [] (aCons (mVar 2) (aCons (mVar 3) (aCons (mVar 4) (aCons (mVar 5) aNil))))))))
def m_Calendar___xor__ : Mf := fnX 2 6 b_Calendar___xor__
def b_Calendar___sub__ : Ms :=
  (sSeq (sIf (mNot (mB (mCb (xIsiN 1) (aCons (mVar 1) (aCons (mC (.cls 0)) aNil))))) (sRet mBad) sNext)
  (sSeq (sAsg (mCall m_joined (aCons (mVar 0) (aCons (mVar 1) (aCons (mC (.str "-")) aNil)))) (gTp 4 (gsCons (gN 2) (gsCons (gN 3) (gsCons (gN 4) (gsCons (gN 5) gsNil))))))
  (sRet (mMk 0 m_Calendar___init__ [] (aCons (mVar 2) (aCons (mVar 3) (aCons (mVar 4) (aCons (mVar 5) aNil))))))))
def m_Calendar___sub__ : Mf := fnX 2 6 b_Calendar___sub__
def b_Calendar___or__ : Ms :=
  (sSeq (sIf (mNot (mB (mCb (xIsiN 1) (aCons (mVar 1) (aCons (mC (.cls 0)) aNil))))) (sRet mBad) sNext)
  (sSeq (sAsg (mCall m_joined (aCons (mVar 0) (aCons (mVar 1) (aCons (mC (.str "|")) aNil)))) (gTp 4 (gsCons (gN 2) (gsCons (gN 3) (gsCons (gN 4) (gsCons (gN 5) gsNil))))))
  (sRet (mMk 0 m_Calendar___init__ [] (aCons (mVar 2) (aCons (mVar 3) (aCons (mVar 4) (aCons (mVar 5) aNil))))))))
def m_Calendar___or__ : Mf := fnX 2 6 b_Calendar___or__
def b_Calendar___and__ : Ms :=
  (sSeq (sIf (mNot (mB (mCb (xIsiN 1) (aCons (mVar 1) (aCons (mC (.cls 0)) aNil))))) (sRet mBad) sNext)
  (sSeq (sAsg (mCall m_joined (aCons (mVar 0) (aCons (mVar 1) (aCons (mC (.str "&")) aNil)))) (gTp 4 (gsCons (gN 2) (gsCons (gN 3) (gsCons (gN 4) (gsCons (gN 5) gsNil))))))
  (sRet (mMk 0 m_Calendar___init__ [] (aCons (mVar 2) (aCons (mVar 3) (aCons (mVar 4) (aCons (mVar 5) aNil))))))))
def m_Calendar___and__ : Mf := fnX 2 6 b_Calendar___and__
def b_contrary : Ms :=
  (sSeq (sAsg (mLc (wRng2 (aCons (mC (.int 1)) (aCons (mFld "start" [0] (mVar 0)) aNil))) (gN 2) (mB (mOp xNotIn (mVar 2) (mFld "few" [0] (mVar 0)))) (mVar 2) [2]) (gN 1))
  (sRet (mTup (aCons (mVar 1) (aCons (mFld "start" [0] (mVar 0)) (aCons (mFld "period" [0] (mVar 0)) (aCons (mLc (wRng1 (aCons (mFld "period" [0] (mVar 0)) aNil)) (gN 3) (mB (mOp xNotIn (mVar 3) (mFld "rests" [0] (mVar 0)))) (mVar 3) [3]) aNil)))))))
def m_contrary : Mf := fnX 1 4 b_contrary
def b_Calendar___invert__ : Ms :=
  (sSeq (sAsg (mCall m_contrary (aCons (mVar 0) aNil)) (gTp 4 (gsCons (gN 1) (gsCons (gN 2) (gsCons (gN 3) (gsCons (gN 4) gsNil))))))
  (sRet (mMk 0 m_Calendar___init__ [] (aCons (mVar 1) (aCons (mVar 2) (aCons (mVar 3) (aCons (mVar 4) aNil)))))))
def m_Calendar___invert__ : Mf := fnX 1 5 b_Calendar___invert__
def b_Calendar___contains__ : Ms :=
  (sRet (mAndV (mCall m_is_integer (aCons (mVar 1) aNil)) (mAndV (mOp xGt (mVar 1) (mC (.int 0))) (mCall m_has (aCons (mVar 0) (aCons (mVar 1) aNil))))))
def m_Calendar___contains__ : Mf := fnX 2 2 b_Calendar___contains__
def b_L_is_least : Ms :=
  (sSeq (sFor (wRng2 (aCons (mC (.int 1)) (aCons (mFld "period" [0] (mVar 0)) aNil))) (gN 1)
  (sIf (mB (mOp xEq (mOp xMod (mFld "period" [0] (mVar 0)) (mVar 1)) (mC (.int 0)))) (sSeq (sAsg (mLc (wRng1 (aCons (mFld "period" [0] (mVar 0)) aNil)) (gN 4) (mB (mOp (xOwnIn false ([(0, m_Calendar___contains__)] : List (Nat × Mf)) xIn) (mOp xMod (mVar 4) (mVar 1)) (mLc (wAny (mFld "rests" [0] (mVar 0))) (gN 5) mYes (mOp xMod (mVar 5) (mVar 1)) [5]))) (mVar 4) [4]) (gN 2))
  (sIf (mB (mOp xEq (mCb xList (aCons (mFld "rests" [0] (mVar 0)) aNil)) (mVar 2))) (sRet (mC (.bl false))) sNext)) sNext))
  (sSeq (sIf (mB (mOp xGt (mFld "start" [0] (mVar 0)) (mC (.int 1)))) (sSeq (sAsg (mOp xSub (mFld "start" [0] (mVar 0)) (mC (.int 1))) (gN 3))
  (sIf (mB (mOp xEq (mOp (xOwnIn false ([(0, m_Calendar___contains__)] : List (Nat × Mf)) xIn) (mVar 3) (mFld "few" [0] (mVar 0))) (mOp (xOwnIn false ([(0, m_Calendar___contains__)] : List (Nat × Mf)) xIn) (mOp xMod (mVar 3) (mFld "period" [0] (mVar 0))) (mFld "rests" [0] (mVar 0))))) (sRet (mC (.bl false))) sNext)) sNext)
  (sRet (mOp xEq (mCb xList (aCons (mFld "few" [0] (mVar 0)) aNil)) (mLc (wRng2 (aCons (mC (.int 1)) (aCons (mFld "start" [0] (mVar 0)) aNil))) (gN 5) (mB (mOp (xOwnIn false ([(0, m_Calendar___contains__)] : List (Nat × Mf)) xIn) (mVar 5) (mVar 0))) (mVar 5) [5])))))
def m_L_is_least : Mf := fnX 1 6 b_L_is_least
def b_law : Ms :=
  (sSeq (sFor (wRng1 (aCons (mCb xMax (aCons (mC (.int 1)) (aCons (mCb xMin (aCons (mC (.int 5)) (aCons (mCb xLen (aCons (mVar 0) aNil)) aNil))) aNil))) aNil)) (gN 1)
  (sSeq (sAsg (mCall m_L_box (aCons (mVar 0) (aCons (mVar 1) aNil))) (gN 2))
  (sFor (wRng1 (aCons (mC (.int 5)) aNil)) (gN 3)
  (sSeq (sAsg (mTup (aCons (mCall m_L_raw (aCons (mVar 2) (aCons (mC (.int 12)) (aCons (mC (.int 6)) aNil)))) (aCons (mCall m_L_raw (aCons (mVar 2) (aCons (mC (.int 12)) (aCons (mC (.int 6)) aNil)))) aNil))) (gTp 2 (gsCons (gN 4) (gsCons (gN 5) gsNil))))
  (sSeq (sPar 6 7 (aCons (mCall m_L_cal_of (aCons (mVar 4) aNil)) (aCons (mCall m_L_cal_of (aCons (mVar 5) aNil)) aNil)))
  (sSeq (sPar 8 9 (aCons (mOp xAdd (mOp xIx (mVar 4) (mC (.int 1))) (mCall m_L_take (aCons (mVar 2) (aCons (mC (.int 5)) aNil)))) (aCons (mOp xAdd (mC (.int 1)) (mCall m_L_take (aCons (mVar 2) (aCons (mC (.int 3)) aNil)))) aNil)))
  (sSeq (sAsg (mLc (wRng2 (aCons (mC (.int 1)) (aCons (mVar 8) aNil))) (gN 14) (mB (mCall m_L_has (aCons (mVar 4) (aCons (mVar 14) aNil)))) (mVar 14) [14]) (gN 10))
  (sSeq (sAsg (mLc (wRng1 (aCons (mOp xMul (mOp xIx (mVar 4) (mC (.int 2))) (mVar 9)) aNil)) (gN 15) (mB (mOp xIn (mOp xMod (mCb xIntX (aCons (mVar 15) aNil)) (mOp xIx (mVar 4) (mC (.int 2)))) (mOp xIx (mVar 4) (mC (.int 3))))) (mVar 15) [15]) (gN 11))
  (sSeq (sAsg (mMk 0 m_Calendar___init__ [] (aCons (mVar 10) (aCons (mVar 8) (aCons (mOp xMul (mOp xIx (mVar 4) (mC (.int 2))) (mVar 9)) (aCons (mVar 11) aNil))))) (gN 12))
  (sSeq (sIf (mOr (mB (mOp (xOwnNe 1 ([(0, m_Calendar___eq__)] : List (Nat × Mf)) xNe) (mVar 12) (mVar 6))) (mOr (mB (mOp (xOwnNe 1 ([(0, m_Calendar___eq__)] : List (Nat × Mf)) xNe) (mCb (xStrL ([(0, m_Calendar___str__)] : List (Nat × Mf))) (aCons (mVar 12) aNil)) (mCb (xStrL ([(0, m_Calendar___str__)] : List (Nat × Mf))) (aCons (mVar 6) aNil)))) (mB (mOp (xOwnNe 1 ([(0, m_Calendar___eq__)] : List (Nat × Mf)) xNe) (mTup (aCons (mFld "start" [0] (mVar 12)) (aCons (mFld "period" [0] (mVar 12)) aNil))) (mTup (aCons (mFld "start" [0] (mVar 6)) (aCons (mFld "period" [0] (mVar 6)) aNil))))))) (sRet (mC (.bl false))) sNext)
  (sSeq (sAsg (mLst (aCons (mVar 6) (aCons (mVar 7) (aCons (mUn (xOwnU ([(0, m_Calendar___invert__)] : List (Nat × Mf)) (xU fun i => Builtin.bitNot i)) (mVar 6)) (aCons (mOp (xOwnB ([(0, m_Calendar___and__)] : List (Nat × Mf)) xAnd) (mVar 6) (mVar 7)) (aCons (mOp (xOwnB ([(0, m_Calendar___or__)] : List (Nat × Mf)) xOr) (mVar 6) (mVar 7)) (aCons (mOp (xOwnB ([(0, m_Calendar___sub__)] : List (Nat × Mf)) xSub) (mVar 6) (mVar 7)) (aCons (mOp (xOwnB ([(0, m_Calendar___xor__)] : List (Nat × Mf)) xXor) (mVar 6) (mVar 7)) aNil)))))))) (gN 13))
  (sSeq (sIf (mB (mOp (xOwnNe 1 ([(0, m_Calendar___eq__)] : List (Nat × Mf)) xNe) (mLc (wAny (mVar 13)) (gN 16) (mNot (mB (mCall m_L_is_least (aCons (mVar 16) aNil)))) (mC (.int 1)) [16]) (mLst aNil))) (sRet (mC (.bl false))) sNext)
  (sIf (mOr (mB (mOp (xOwnNe 1 ([(0, m_Calendar___eq__)] : List (Nat × Mf)) xNe) (mOp (xOwn 1 ([(0, m_Calendar___eq__)] : List (Nat × Mf)) xEq) (mVar 6) (mVar 7)) (mOp (xOwn 1 ([(0, m_Calendar___eq__)] : List (Nat × Mf)) xEq) (mCb (xStrL ([(0, m_Calendar___str__)] : List (Nat × Mf))) (aCons (mVar 6) aNil)) (mCb (xStrL ([(0, m_Calendar___str__)] : List (Nat × Mf))) (aCons (mVar 7) aNil))))) (mB (mOp (xOwnNe 1 ([(0, m_Calendar___eq__)] : List (Nat × Mf)) xNe) (mOp (xOwn 1 ([(0, m_Calendar___eq__)] : List (Nat × Mf)) xEq) (mVar 6) (mVar 7)) (mOp (xOwn 1 ([(0, m_Calendar___eq__)] : List (Nat × Mf)) xEq) (mOp (xOwnB ([(0, m_Calendar___xor__)] : List (Nat × Mf)) xXor) (mVar 6) (mVar 7)) (mMk 0 m_Calendar___init__ [.tup [], .int 1, .int 1, .tup []] aNil))))) (sRet (mC (.bl false))) sNext)))))))))))))
  (sRet (mC (.bl true))))
def m_law : Mf := fnX 1 17 b_law
end K36

set_option Elab.async false
set_option linter.all false
set_option maxRecDepth 100000
set_option maxHeartbeats 1000000
namespace K36
open PySem RX RY
local macro_rules | `(tactic| walk_at "w") => `(tactic| first
  | with_reducible refine w_op ?_ | ((with_reducible apply w_var); exact rfl) | with_reducible refine w_c ?_ | with_reducible refine w_b ?_ | with_reducible refine bq ?_
  | with_reducible refine w_cb ?_ | with_reducible refine w_cons ?_ | with_reducible refine w_nil ?_ | with_reducible refine w_call ?_
  | with_reducible refine w_seq ?_ | with_reducible refine sq_nx ?_ | with_reducible refine sq_rt ?_ | with_reducible refine w_sif ?_ | with_reducible refine w_asg ?_ | ((with_reducible refine w_gN ?_); try dsimp only [List.set])
  | with_reducible refine w_ret ?_ | with_reducible refine w_next ?_ | (with_reducible refine w_tup ?_) | (with_reducible refine w_lst ?_) | with_reducible refine w_if ?_ | with_reducible refine w_and ?_ | with_reducible refine w_or ?_ | with_reducible refine w_not ?_
  | with_reducible refine w_yes ?_ | with_reducible refine w_andV ?_ | with_reducible refine w_orV ?_ | with_reducible refine w_notV ?_ | with_reducible refine w_chain ?_
  | ((with_reducible apply w_ixC); assumption; exact rfl) | ((with_reducible apply w_ixL); exact rfl) | ((with_reducible apply w_ixT); exact rfl)
  | ((with_reducible refine w_mulB ?_ ?_ ?_ ?_ ?_); omega; omega; omega; omega)
  | ((with_reducible refine w_mod ?_ ?_); (first | assumption | omega | decide)) | ((with_reducible refine w_div ?_ ?_ ?_); (first | assumption | omega | decide); (first | assumption | decide))
  | (with_reducible refine fin_rt ?_) | (with_reducible refine fin_nx ?_) | (with_reducible refine finK_rt ?_) | (with_reducible refine finK_nx ?_) | (with_reducible refine w_gsCons ?_) | (with_reducible refine w_gsNil ?_) | (with_reducible refine w_gTp rfl ?_) | (with_reducible refine w_gSb ?_)
  | (with_reducible refine w_un ?_) | (with_reducible refine w_drop ?_) | (with_reducible refine w_for ?_) | (with_reducible refine w_star ?_) | (with_reducible refine w_sl ?_) | (with_reducible refine w_oNone ?_) | (with_reducible refine w_oSome ?_)
  | (with_reducible refine w_slL ?_) | (with_reducible refine w_slT ?_) | (with_reducible refine w_fld ?_) | (with_reducible refine w_prop ?_) | (with_reducible refine w_mk ?_) | (with_reducible refine w_mkC ?_) | (with_reducible refine w_meth ?_) | (with_reducible refine w_gFl ?_) | (with_reducible refine w_sFl ?_)
  | (with_reducible refine ite_t rfl ?_) | (with_reducible refine ite_f rfl ?_) | (with_reducible refine fq_nx ?_) | (with_reducible refine fq_rt ?_) | (with_reducible refine fq_ct ?_) | (with_reducible refine fq_bk ?_) | (with_reducible refine sq_ct ?_) | (with_reducible refine sq_bk ?_) | (with_reducible refine w_cont ?_) | (with_reducible refine w_break ?_)
  | ((with_reducible show W (xIsiN _ _ _) _); (first | refine w_eq (a := .bl true) rfl ?_ | refine w_eq (a := .bl false) rfl ?_))
  | ((with_reducible first | show W (xAdd _ _ _) _ | show W (xSub _ _ _) _ | show W (xLt _ _ _) _ | show W (xLe _ _ _) _ | show W (xGt _ _ _) _ | show W (xGe _ _ _) _ | show W (xAnd _ _ _) _ | show W (xOr _ _ _) _ | show W (xXor _ _ _) _ | show W (xEq _ _ _) _ | show W (xNe _ _ _) _ | show W (xLen _ _) _ | show W (xAbs _ _) _ | show W (xInt _ _) _ | show W (xIntX _ _) _ | show W (xMax _ _) _ | show W (xMin _ _) _ | show W (xTuple _ _) _ | show W (xList _ _) _ | show W (xListC _ _) _ | show W (xIs _ _ _ _) _); refine w_eq rfl ?_)
  | ((with_reducible show W (xPow _ _ _) _); refine w_eq rfl ?_))
local macro_rules | `(tactic| walk_at "ww") => `(tactic| repeat walk_at "w")
local macro_rules | `(tactic| walk_at "fn") => `(tactic| (first | refine w_fnX rfl ?_ | refine w_fnK rfl ?_); simp only [startX, List.map_cons, List.map_nil, List.length_cons, List.length_nil, List.cons_append, List.nil_append, Nat.reduceAdd, Nat.reduceSub, List.reduceReplicate])
local macro_rules | `(tactic| walk_at "v") => `(tactic| first
  | with_reducible refine w_op ?_ | ((with_reducible apply w_var); exact rfl) | with_reducible refine w_c ?_ | with_reducible refine w_b ?_ | with_reducible refine bq ?_
  | with_reducible refine w_cb ?_ | with_reducible refine w_cons ?_ | with_reducible refine w_nil ?_ | with_reducible refine w_call ?_
  | with_reducible refine w_seq ?_ | with_reducible refine sq_nx ?_ | with_reducible refine sq_rt ?_ | with_reducible refine w_asg ?_ | ((with_reducible refine w_gN ?_); try dsimp only [List.set])
  | with_reducible refine w_ret ?_ | with_reducible refine w_next ?_ | (with_reducible refine w_tup ?_) | (with_reducible refine w_lst ?_) | with_reducible refine w_and ?_ | with_reducible refine w_or ?_ | with_reducible refine w_not ?_
  | with_reducible refine w_yes ?_ | with_reducible refine w_andV ?_ | with_reducible refine w_orV ?_ | with_reducible refine w_notV ?_ | with_reducible refine w_chain ?_
  | ((with_reducible apply w_ixC); assumption; exact rfl) | ((with_reducible apply w_ixL); exact rfl) | ((with_reducible apply w_ixT); exact rfl)
  | ((with_reducible refine w_mulB ?_ ?_ ?_ ?_ ?_); omega; omega; omega; omega)
  | ((with_reducible refine w_mod ?_ ?_); (first | assumption | omega | decide)) | ((with_reducible refine w_div ?_ ?_ ?_); (first | assumption | omega | decide); (first | assumption | decide))
  | (with_reducible refine fin_rt ?_) | (with_reducible refine fin_nx ?_) | (with_reducible refine finK_rt ?_) | (with_reducible refine finK_nx ?_) | (with_reducible refine w_gsCons ?_) | (with_reducible refine w_gsNil ?_) | (with_reducible refine w_gTp rfl ?_) | (with_reducible refine w_gSb ?_)
  | (with_reducible refine w_un ?_) | (with_reducible refine w_drop ?_) | (with_reducible refine w_for ?_) | (with_reducible refine w_star ?_) | (with_reducible refine w_sl ?_) | (with_reducible refine w_oNone ?_) | (with_reducible refine w_oSome ?_)
  | (with_reducible refine w_slL ?_) | (with_reducible refine w_slT ?_) | (with_reducible refine w_fld ?_) | (with_reducible refine w_prop ?_) | (with_reducible refine w_mk ?_) | (with_reducible refine w_mkC ?_) | (with_reducible refine w_meth ?_) | (with_reducible refine w_gFl ?_) | (with_reducible refine w_sFl ?_)
  | (with_reducible refine ite_t rfl ?_) | (with_reducible refine ite_f rfl ?_) | (with_reducible refine fq_nx ?_) | (with_reducible refine fq_rt ?_) | (with_reducible refine fq_ct ?_) | (with_reducible refine fq_bk ?_) | (with_reducible refine sq_ct ?_) | (with_reducible refine sq_bk ?_) | (with_reducible refine w_cont ?_) | (with_reducible refine w_break ?_)
  | ((with_reducible show W (xIsiN _ _ _) _); (first | refine w_eq (a := .bl true) rfl ?_ | refine w_eq (a := .bl false) rfl ?_))
  | ((with_reducible first | show W (xAdd _ _ _) _ | show W (xSub _ _ _) _ | show W (xLt _ _ _) _ | show W (xLe _ _ _) _ | show W (xGt _ _ _) _ | show W (xGe _ _ _) _ | show W (xAnd _ _ _) _ | show W (xOr _ _ _) _ | show W (xXor _ _ _) _ | show W (xEq _ _ _) _ | show W (xNe _ _ _) _ | show W (xLen _ _) _ | show W (xAbs _ _) _ | show W (xInt _ _) _ | show W (xIntX _ _) _ | show W (xMax _ _) _ | show W (xMin _ _) _ | show W (xTuple _ _) _ | show W (xList _ _) _ | show W (xListC _ _) _ | show W (xIs _ _ _ _) _); refine w_eq rfl ?_)
  | ((with_reducible show W (xPow _ _ _) _); refine w_eq rfl ?_))
local macro_rules | `(tactic| walk_at "vv") => `(tactic| repeat walk_at "v")
theorem is_integer_ok {i : Int} {S : Xs} {Q : Dt → Xs → Prop} (q : Q (.bl true) S) : W (m_is_integer [.int i] S) Q := by
  unfold m_is_integer b_is_integer
  walk_at "fn"
  walk_at "ww"
  exact w_exit rfl q
theorem is_sequence_ok {x : Dt} {is : List Int} {S : Xs} {Q : Dt → Xs → Prop} (hx : isLT x is) (q : Q (.bl true) S) : W (m_is_sequence [x] S) Q := by
  unfold m_is_sequence b_is_sequence
  walk_at "fn"
  rcases hx with rfl | rfl
  all_goals
    walk_at "ww"
    refine ⟨by decide, ?_⟩
    walk_at "ww"
    exact w_exit rfl q
theorem are_between_ok {x : Dt} {is : List Int} {lo hi : Int} {S : Xs} {Q : Dt → Xs → Prop} (hx : isLT x is) (hl : is.length ≤ 100000) (q : Q (.bl (is.all fun i => decide (lo ≤ i) && decide (i ≤ hi))) S) : W (m_are_between [x, .int lo, .int hi] S) Q := by
  unfold m_are_between b_are_between
  walk_at "fn"
  walk_at "ww"
  refine is_sequence_ok hx ?_
  walk_at "ww"
  refine w_lc (p := fun _ => true) (f := fun x => match x with | .int i => .bl (decide (lo ≤ i) && decide (i ≤ hi)) | _ => .non) (w_any ?_)
  walk_at "ww"
  refine ⟨_, hx.seq.1, hx.seq.2, by simpa using hl, fun y hy => ?_, ?_⟩
  · obtain ⟨i, hi', rfl⟩ := List.mem_map.mp hy
    walk_at "ww"
    refine ⟨rfl, ?_⟩
    walk_at "ww"
    refine ⟨rfl, rfl, fun _ => ?_⟩
    walk_at "ww"
    refine is_integer_ok ?_
    walk_at "ww"
    refine iteI (fun h => ?_) (fun h => ?_)
    · walk_at "ww"
      exact ⟨by simp [h], rfl⟩
    · exact ⟨by simp [h], rfl⟩
  · walk_at "ww"
    rw [List.filter_eq_self.mpr (fun _ _ => rfl), List.map_map]
    refine w_eq (a := .bl (is.all fun i => decide (lo ≤ i) && decide (i ≤ hi))) (S := S) ?_ ?_
    · show (match bls (is.map fun i => Dt.bl (decide (lo ≤ i) && decide (i ≤ hi))) with | some ns => Res.ok (Dt.bl (ns.all id)) S | none => .bad) = _
      rw [bls_map]
      simp [List.all_map]
    · walk_at "ww"
      exact w_exit rfl q
theorem least_period_ok {bs : List Bool} {S : Xs} {Q : Dt → Xs → Prop} (h0 : 0 < bs.length) (h1 : bs.length ≤ 100000) (q : ∀ d : Nat, LP bs d → Q (.int d) S) : W (m_least_period [.lst (bs.map .bl)] S) Q := by
  unfold m_least_period b_least_period
  walk_at "fn"
  walk_at "ww"
  refine w_rng2 ?_
  walk_at "ww"
  refine ⟨1, bs.length, by simp, by decide, by decide, by omega, by omega, ?_⟩
  refine for_inv (I := fun i G S' => S' = S ∧ (∃ o, G = [some (.lst (bs.map .bl)), some (.int bs.length), o]) ∧ ∀ d, 0 < d → d ≤ i → bs.length % d = 0 → ¬ Per bs d) _ 0 ⟨rfl, ⟨none, by simp [startX]⟩, fun d h1 h2 => by omega⟩ ?_ ?_
  · rintro i x G S' hx ⟨rfl, ⟨o, rfl⟩, hI⟩
    obtain ⟨hi, rfl⟩ := range_get hx
    have hi' : i + 1 < bs.length := by omega
    walk_at "ww"
    have eI : (1 : Int) + (i : Int) = ((i + 1 : Nat) : Int) := by push_cast; omega
    rw [eI]
    have hdm : decide ((bs.length : Int) % ((i + 1 : Nat) : Int) = 0) = decide (bs.length % (i + 1) = 0) := by
      rw [← Int.natCast_emod]
      exact decide_eq_decide.mpr (by omega)
    rw [hdm]
    refine iteI (fun hm => ?_) (fun hm => ?_)
    · have hm := of_decide_eq_true hm
      walk_at "ww"
      refine ⟨_, rfl, ?_⟩
      walk_at "ww"
      refine w_div (by omega) (Nat.lt_of_lt_of_le (log2_lt (k := 62) (by omega) (by omega)) (by decide)) ?_
      rw [cut_to, ← List.map_take]
      have hq : ((bs.length : Int) / ((i + 1 : Nat) : Int)).toNat = bs.length / (i + 1) := by rw [← Int.natCast_ediv]; rfl
      have hle : bs.length / (i + 1) * (i + 1) ≤ bs.length := Nat.div_mul_le_self _ _
      have hlt : bs.length / (i + 1) ≤ bs.length := Nat.div_le_self _ _
      refine w_mulL (by rw [← Int.natCast_ediv]; omega) (by rw [← Int.natCast_ediv]; omega) (by rw [hq, List.length_map, List.length_take, Nat.min_eq_left (by omega), Nat.mul_comm]; omega) ?_
      rw [hq]
      have ef : (List.replicate (bs.length / (i + 1)) (List.map Dt.bl (bs.take (i + 1)))).flatten = (List.replicate (bs.length / (i + 1)) (bs.take (i + 1))).flatten.map Dt.bl := by
        rw [List.map_flatten, List.map_replicate]
      rw [ef]
      refine w_eqLB ?_
      walk_at "ww"
      refine iteI (fun he => ?_) (fun he => ?_)
      · walk_at "ww"
        refine w_exit rfl (q (i + 1) ⟨by omega, by omega, hm, (per_iff (by omega) (by omega) hm).mp (of_decide_eq_true he), fun e h1 h2 h3 => hI e h1 (by omega) h3⟩)
      · walk_at "ww"
        refine ⟨rfl, ⟨_, rfl⟩, fun d h1 h2 h3 => ?_⟩
        by_cases hd : d ≤ i
        · exact hI d h1 (by omega) h3
        · have : d = i + 1 := by omega
          subst this
          exact fun hp => of_decide_eq_false he ((per_iff (by omega) (by omega) hm).mpr hp)
    · walk_at "ww"
      refine ⟨rfl, ⟨_, rfl⟩, fun d h1 h2 h3 => ?_⟩
      by_cases hd : d ≤ i
      · exact hI d h1 (by omega) h3
      · have : d = i + 1 := by omega
        subst this
        exact absurd h3 (of_decide_eq_false hm)
  · rintro G S' ⟨rfl, ⟨o, rfl⟩, hI⟩
    walk_at "ww"
    refine w_exit rfl (q bs.length ⟨h0, Nat.le_refl _, Nat.mod_self _, per_self bs, fun e h1 h2 h3 => hI e h1 ?_ h3⟩)
    rw [range_len]
    omega
theorem least_form_ok {fx rx : Dt} {few rs : List Int} {st p : Int} {S : Xs} {Q : Dt → Xs → Prop} (hf : isLT fx few) (hr : isLT rx rs) (hc : Cln S) (hst : 1 ≤ st) (hst2 : st ≤ 50000) (hp : 1 ≤ p) (hp2 : p ≤ 50000) (lf : few.length ≤ 100000) (lr : rs.length ≤ 100000)
    (q : ∀ few' st' d rs', LF few st p rs few' st' d rs' → Q (.tup [.tup (few'.map .int), .int st', .int (d : Nat), .tup (rs'.map .int)]) S) : W (m_least_form [fx, .int st, .int p, rx] S) Q := by
  unfold m_least_form b_least_form
  walk_at "fn"
  walk_at "ww"
  refine w_dcI (w_any ?_)
  walk_at "ww"
  refine ⟨_, hf.seq.1, hf.seq.2, few, rfl, lf, fun i S' => ?_, ?_⟩
  · walk_at "ww"
    refine ⟨rfl, ?_⟩
    walk_at "ww"
    refine ⟨rfl, rfl, ?_⟩
    walk_at "ww"
    exact ⟨rfl, rfl⟩
  walk_at "ww"
  refine w_dcI (w_any ?_)
  walk_at "ww"
  refine ⟨_, hr.seq.1, hr.seq.2, rs, rfl, lr, fun i S' => ?_, ?_⟩
  · walk_at "ww"
    refine ⟨rfl, ?_⟩
    walk_at "ww"
    refine ⟨rfl, rfl, ?_⟩
    walk_at "ww"
    exact ⟨rfl, rfl⟩
  walk_at "ww"
  refine ⟨by simp, ?_⟩
  walk_at "ww"
  have e5 : (S ++ [Xc.dK (dInts [] few)]).length = S.length + 1 := by simp
  rw [e5]
  have h4 : (S ++ [Xc.dK (dInts [] few)] ++ [Xc.dK (dInts [] rs)])[S.length]? = some (.dK (dInts [] few)) := by simp
  have h5 : (S ++ [Xc.dK (dInts [] few)] ++ [Xc.dK (dInts [] rs)])[S.length + 1]? = some (.dK (dInts [] rs)) := by simp
  have hS2 : S ++ [Xc.dK (dInts [] few)] ++ [Xc.dK (dInts [] rs)] = S ++ [Xc.dK (dInts [] few), Xc.dK (dInts [] rs)] := by simp
  generalize hS3 : S ++ [Xc.dK (dInts [] few)] ++ [Xc.dK (dInts [] rs)] = S2 at h4 h5 hS2 ⊢
  clear hS3
  refine w_lc (p := fun _ => true) (f := fun x => match x with | .int r => .bl (decide (r ∈ rs)) | _ => .non) (w_rng1 ?_)
  walk_at "ww"
  refine ⟨p, rfl, by omega, by omega, by rw [range_len]; omega, fun x hx => ?_, ?_⟩
  · obtain ⟨i, hi, rfl⟩ := range_mem hx
    walk_at "ww"
    refine ⟨rfl, ?_⟩
    walk_at "ww"
    refine ⟨rfl, rfl, fun _ => w_din ?_⟩
    walk_at "ww"
    refine ⟨_, dgX_ints h5, ?_, rfl⟩
    exact congrArg Dt.bl (isS (P := (0 + (i : Int)) ∈ rs))
  have eb : ((rangeX 0 p.toNat).filter fun _ => true).map (fun x => match x with | .int r => Dt.bl (decide (r ∈ rs)) | _ => .non) = (bitsOf p rs).map .bl := by
    rw [List.filter_eq_self.mpr (fun _ _ => rfl), range_iseq, List.map_map]
    unfold bitsOf
    rw [List.map_map]
    rfl
  rw [eb]
  walk_at "ww"
  refine least_period_ok (by rw [bits_len]; omega) (by rw [bits_len]; omega) fun d lp => ?_
  walk_at "ww"
  have hd1 := lp.pos
  have hd2 := lp.le
  rw [bits_len] at hd2
  have bitd : ∀ r : Int, 0 ≤ r → r < p → (bitsOf p rs)[r.toNat]? = some (decide (r ∈ rs)) := fun r h1 h2 => by
    rw [bits_get (by omega)]
    congr 2
    rw [Int.toNat_of_nonneg h1]
  refine while_inv (I := fun k G S' => S' = S2 ∧ ∃ s : Int, G = [some fx, some (.int s), some (.int p), some rx, some (.loc S.length), some (.loc (S.length + 1)), some (.lst ((bitsOf p rs).map .bl)), some (.int d), none, none] ∧ 1 ≤ s ∧ s ≤ st ∧ k = s.toNat ∧ ∀ m, s ≤ m → m < st → decide (m ∈ few) = decide (m % (d : Int) ∈ rs)) ?_ 100000 st.toNat (by omega) ⟨rfl, st, rfl, hst, by omega, rfl, fun m h1 h2 => by omega⟩
  rintro k G S' ⟨rfl, s, rfl, hs1, hs2, rfl, hI⟩
  have fin : (s = 1 ∨ decide (s - 1 ∈ few) ≠ decide ((s - 1) % (d : Int) ∈ rs)) → W (sRet (mTup (aCons (mCb xTuple (aCons (mLc (wRng2 (aCons (mC (.int 1)) (aCons (mVar 1) aNil))) (gN 8) (mB (mDIn (mVar 8) (mVar 4))) (mVar 8) [8]) aNil)) (aCons (mVar 1) (aCons (mVar 7) (aCons (mCb xTuple (aCons (mLc (wRng1 (aCons (mVar 7) aNil)) (gN 9) (mB (mOp xIx (mVar 6) (mVar 9))) (mVar 9) [9]) aNil)) aNil))))) [some fx, some (.int s), some (.int p), some rx, some (.loc S.length), some (.loc (S.length + 1)), some (.lst ((bitsOf p rs).map .bl)), some (.int d), none, none] S') (RY.Fin Q S.length) := by
    intro hne
    walk_at "ww"
    refine w_lc (p := fun x => match x with | .int r => decide (r ∈ few) | _ => false) (f := id) (w_rng2 ?_)
    walk_at "ww"
    refine ⟨1, s, rfl, by omega, by omega, by omega, by omega, by rw [range_len]; omega, fun x hx => ?_, ?_⟩
    · obtain ⟨i, hi, rfl⟩ := range_mem hx
      walk_at "ww"
      refine ⟨rfl, ?_⟩
      walk_at "ww"
      refine w_din ?_
      walk_at "ww"
      refine ⟨_, dgX_ints h4, ?_⟩
      walk_at "ww"
      refine ⟨isS, rfl, fun _ => ?_⟩
      walk_at "ww"
      exact ⟨rfl, rfl⟩
    rw [List.map_id, range_iseq, filter_int (p := fun r => decide (r ∈ few)) (fun _ => rfl)]
    walk_at "ww"
    refine w_lc (p := fun x => match x with | .int r => decide (r ∈ rs) | _ => false) (f := id) (w_rng1 ?_)
    walk_at "ww"
    refine ⟨d, rfl, by omega, by omega, by rw [range_len]; omega, fun x hx => ?_, ?_⟩
    · obtain ⟨i, hi, rfl⟩ := range_mem hx
      walk_at "ww"
      refine ⟨rfl, ?_⟩
      walk_at "ww"
      rw [Int.toNat_natCast] at hi
      have hb := bits_get (p := p) (rs := rs) (i := i) (by omega)
      rw [show (0 : Int) + (i : Int) = (i : Int) from by omega]
      refine w_ixL (bls_atI hb) ?_
      walk_at "ww"
      refine ⟨rfl, rfl, fun _ => ?_⟩
      walk_at "ww"
      exact ⟨rfl, rfl⟩
    rw [List.map_id, range_iseq, filter_int (p := fun r => decide (r ∈ rs)) (fun _ => rfl)]
    walk_at "ww"
    refine ⟨by simp, ?_⟩
    walk_at "ww"
    have qq := q _ s d _ ⟨lp, hs1, hs2, hI, hne, rfl, rfl⟩
    rw [Int.toNat_natCast]
    generalize (iseq 1 (s - 1).toNat).filter (fun m => decide (m ∈ few)) = A at qq ⊢
    generalize (iseq 0 d).filter (fun m => decide (m ∈ rs)) = B at qq ⊢
    rw [hS2]
    have e : Dt.tup [.tup (A.map .int), .int s, .int d, .tup (B.map .int)] = emb (.tuple [.tuple (A.map .int), .int s, .int d, .tuple (B.map .int)]) := by
      simp [emb, embs, embs_ints]
    rw [e] at qq ⊢
    refine w_exitD ?_ ?_ hc qq
    · simp [PyData.hasDict, PyData.hasDictAll, (ok_ints A).1, (ok_ints B).1]
    · simp [PyData.depth, PyData.depthAll, (ok_ints A).2.2, (ok_ints B).2.2]
  walk_at "ww"
  refine iteI (fun h => ?_) (fun h => ?_)
  · have h := of_decide_eq_true h
    walk_at "ww"
    refine w_din ?_
    walk_at "ww"
    refine ⟨_, dgX_ints h4, ?_⟩
    walk_at "ww"
    have hm1 : 0 ≤ (s - 1) % (d : Int) := Int.emod_nonneg _ (by omega)
    have hm2 : (s - 1) % (d : Int) < d := Int.emod_lt_of_pos _ (by omega)
    have hb := bls_atI (bitd ((s - 1) % (d : Int)) hm1 (by omega))
    rw [Int.toNat_of_nonneg hm1] at hb
    refine w_ixL hb ?_
    refine eqBB ?_
    walk_at "ww"
    have es : (if s - 1 ∈ few then some (Dt.bl true) else none).isSome = decide (s - 1 ∈ few) := isS
    rw [es]
    refine iteI (fun h2 => ?_) (fun h2 => ?_)
    · have h2 := beq_iff_eq.mp h2
      walk_at "ww"
      refine ⟨(s - 1).toNat, by omega, rfl, s - 1, rfl, by omega, by omega, rfl, fun m h3 h4 => ?_⟩
      by_cases hm : m = s - 1
      · subst hm; exact h2
      · exact hI m (by omega) h4
    · refine sq_nx (fin (.inr fun e => ?_))
      rw [e] at h2
      simp at h2
  · have h := of_decide_eq_false h
    refine ite_f rfl (sq_nx (fin (.inl (by omega))))
def calObj (few : List Int) (st d : Int) (rs : List Int) : Dt := .obj 0 (calFs few st d rs)
theorem init_ok {fx rx : Dt} {few rs : List Int} {st p : Int} {S : Xs} {Q : Dt → Xs → Prop} (hf : isLT fx few) (hr : isLT rx rs) (hc : Cln S) (hst : 1 ≤ st) (hst2 : st ≤ 50000) (hp : 1 ≤ p) (hp2 : p ≤ 50000) (lf : few.length ≤ 100000) (lr : rs.length ≤ 100000)
    (bf : ∀ v ∈ few, 1 ≤ v ∧ v ≤ st - 1) (br : ∀ v ∈ rs, 0 ≤ v ∧ v ≤ p - 1) (q : ∀ few' st' (d : Nat) rs', LF few st p rs few' st' d rs' → Q (calObj few' st' d rs') S) :
    W (m_Calendar___init__ [.loc S.length, fx, .int st, .int p, rx] (S ++ [.ins 0 []])) fun y S2 => y = .non ∧ W (exitX S.length (.loc S.length) S2) Q := by
  unfold m_Calendar___init__ b_Calendar___init__
  walk_at "fn"
  walk_at "ww"
  refine is_integer_ok ?_
  walk_at "ww"
  refine ite_f (decide_eq_false (by omega)) ?_
  walk_at "ww"
  refine is_integer_ok ?_
  walk_at "ww"
  refine ite_f (decide_eq_false (by omega)) ?_
  walk_at "ww"
  refine are_between_ok hf lf ?_
  have hb1 : (few.all fun i => decide (1 ≤ i) && decide (i ≤ st - 1)) = true := List.all_eq_true.mpr fun v hv => by simp [(bf v hv).1, (bf v hv).2]
  rw [hb1]
  walk_at "ww"
  refine are_between_ok hr lr ?_
  have hb2 : (rs.all fun i => decide (0 ≤ i) && decide (i ≤ p - 1)) = true := List.all_eq_true.mpr fun v hv => by simp [(br v hv).1, (br v hv).2]
  rw [hb2]
  walk_at "ww"
  refine least_form_ok hf hr (cln_push hc rfl) hst hst2 hp hp2 lf lr fun few' st' d rs' L => ?_
  walk_at "ww"
  refine ⟨S.length, 0, _, rfl, get_last, rfl, by simp, ?_⟩
  rw [set_last]
  walk_at "ww"
  refine ⟨S.length, 0, _, rfl, get_last, rfl, by simp [putX], ?_⟩
  rw [set_last, putX_new (fs := []) (ns := []) rfl (by decide +kernel), putX_new (ns := ["few"]) rfl (by decide +kernel)]
  walk_at "ww"
  refine ⟨S.length, 0, _, rfl, get_last, rfl, by simp, ?_⟩
  rw [set_last, putX_new (ns := ["few", "start"]) rfl (by decide +kernel)]
  walk_at "ww"
  refine ⟨S.length, 0, _, rfl, get_last, rfl, by simp, ?_⟩
  rw [set_last, putX_new (ns := ["few", "start", "period"]) rfl (by decide +kernel)]
  walk_at "ww"
  refine w_exit (by simp) ⟨rfl, ?_⟩
  refine w_exitO (fs := calFs few' st' d rs') (fun pr hpr => ?_) hc (q few' st' d rs' L)
  simp only [calFs, List.mem_cons, List.not_mem_nil, or_false] at hpr
  rcases hpr with rfl | rfl | rfl | rfl
  · exact fz_ti _ _ _ (by decide)
  · rfl
  · rfl
  · exact fz_ti _ _ _ (by decide)
theorem cal_of_ok {fx rx : Dt} {few rs : List Int} {st p : Int} {S : Xs} {Q : Dt → Xs → Prop} (hf : isLT fx few) (hr : isLT rx rs) (hc : Cln S) (hst : 1 ≤ st) (hst2 : st ≤ 50000) (hp : 1 ≤ p) (hp2 : p ≤ 50000) (lf : few.length ≤ 100000) (lr : rs.length ≤ 100000)
    (bf : ∀ v ∈ few, 1 ≤ v ∧ v ≤ st - 1) (br : ∀ v ∈ rs, 0 ≤ v ∧ v ≤ p - 1) (q : ∀ few' st' (d : Nat) rs', LF few st p rs few' st' d rs' → Q (calObj few' st' d rs') S) :
    W (m_L_cal_of [.tup [fx, .int st, .int p, rx]] S) Q := by
  unfold m_L_cal_of b_L_cal_of
  walk_at "fn"
  walk_at "ww"
  refine init_ok hf hr hc hst hst2 hp hp2 lf lr bf br fun few' st' d rs' L => ?_
  walk_at "ww"
  exact w_exit rfl (q few' st' d rs' L)
theorem take_ok {S : Xs} {b N : Nat} {c : Xc} {n : Int} (hS : S[b]? = some c) (hB : Bx N c) (hn : 0 < n) (hl : n < 2 ^ 1000) (hN : N < 2 ^ 60) :
    W (m_L_take [.loc b, .int n] S) fun x S' => ∃ r c', x = .int r ∧ 0 ≤ r ∧ r < n ∧ S' = S.set b c' ∧ Bx (N + 1) c' := by
  obtain ⟨w, s, k, rfl, hs0, hs1, hk0, hk1⟩ := hB
  have hb : b < S.length := (List.getElem?_eq_some_iff.mp hS).1
  have hnl : n.natAbs.log2 < 9000 := Nat.lt_of_lt_of_le (log2_lt (k := 999) (by omega) hl) (by decide)
  unfold m_L_take b_L_take
  walk_at "fn"
  repeat walk_at "w"
  refine iteI (fun h => ?_) (fun h => ?_)
  · have hw : 0 < w := of_decide_eq_true h
    repeat walk_at "w"
    refine ⟨b, 0, _, 0, rfl, rfl, hS, rfl, ?_⟩
    dsimp only [List.set]
    repeat walk_at "w"
    refine w_exit (by simp) ⟨_, _, rfl, Int.emod_nonneg _ (by omega), Int.emod_lt_of_pos _ hn, rfl, _, _, _, rfl, hs0, hs1, hk0, by omega⟩
  · repeat walk_at "w"
    refine ⟨b, 2, _, 2, rfl, rfl, hS, rfl, ?_⟩
    dsimp only [List.set]
    have h1 : (S.set b (.lst [.int w, .int s, .int (k + 1)]))[b]? = some (.lst [.int w, .int s, .int (k + 1)]) := by rw [List.getElem?_set_self hb]
    generalize hS1 : S.set b (.lst [.int w, .int s, .int (k + 1)]) = S1 at h1 ⊢
    repeat walk_at "w"
    refine ⟨b, 1, _, 1, rfl, rfl, h1, rfl, ?_⟩
    dsimp only [List.set]
    rw [← hS1, List.set_set]
    have hu0 : 0 ≤ (s + 98893 * (k + 1)) * 44497 % 2147483647 := by omega
    have hu1 : (s + 98893 * (k + 1)) * 44497 % 2147483647 < 2147483647 := by omega
    generalize (s + 98893 * (k + 1)) * 44497 % 2147483647 = u at hu0 hu1 ⊢
    generalize hy : (u * 62501 + 27017) % 2147483629 + 1 = y
    have h2 : (S.set b (.lst [.int w, .int y, .int (k + 1)]))[b]? = some (.lst [.int w, .int y, .int (k + 1)]) := by rw [List.getElem?_set_self hb]
    repeat walk_at "w"
    refine w_exit (by simp) ⟨_, _, rfl, Int.emod_nonneg _ (by omega), Int.emod_lt_of_pos _ hn, rfl, _, _, _, rfl, by omega, by omega, by omega, by push_cast; omega⟩
theorem box_ok {ns : List Int} {k : Int} {S : Xs} {Q : Dt → Xs → Prop} (h0 : 0 ≤ k) (h1 : k < 1000) (hl : ns.length ≤ 63) (q : ∀ c, Bx 0 c → Q (.loc S.length) (S ++ [c])) : W (m_L_box [.frz ns, .int k] S) Q := by
  unfold m_L_box b_L_box
  walk_at "fn"
  have fin : ∀ cell : Int, W ((sSeq (sAsg (mOp xAdd (mOp xMod (mCb xIntX (aCons (mOp xAdd (mOp xAdd (mOp xMul (mOp xMod (mCb xIntX (aCons (mVar 2) aNil)) (mC (.int 2147483629))) (mC (.int 59029))) (mOp xMul (mC (.int 36293)) (mVar 1))) (mC (.int 7))) aNil)) (mC (.int 2147483629))) (mC (.int 1))) (gN 3))
  (sSeq (sAsg (mIf (mB (mOp xGe (mVar 2) (mOp xPow (mC (.int 10)) (mC (.int 18))))) (mVar 2) (mC (.int 0))) (gN 4))
  (sRet (mLstC (aCons (mVar 4) (aCons (mVar 3) (aCons (mC (.int 0)) aNil))))))) [some (.frz ns), some (.int k), some (.int cell), none, none] S) (FinK Q) := by
    intro cell
    walk_at "ww"
    have key : ∀ x : Int, W ((sRet (mLstC (aCons (mVar 4) (aCons (mVar 3) (aCons (mC (.int 0)) aNil))))) [some (.frz ns), some (.int k), some (.int cell), some (.int ((cell % 2147483629 * 59029 + 36293 * k + 7) % 2147483629 + 1)), some (.int x)] S) (FinK Q) := by
      intro x
      walk_at "ww"
      refine w_lstC ?_
      walk_at "ww"
      refine ⟨by simp, ?_⟩
      walk_at "ww"
      refine q _ ⟨_, _, _, rfl, by omega, by omega, by omega, by omega⟩
    refine iteI (fun h => ?_) (fun h => ?_)
    · repeat (first | with_reducible refine sq_nx ?_ | ((with_reducible apply w_var); exact rfl) | ((with_reducible refine w_gN ?_); try dsimp only [List.set]))
      exact key _
    · repeat (first | with_reducible refine sq_nx ?_ | with_reducible refine w_c ?_ | ((with_reducible refine w_gN ?_); try dsimp only [List.set]))
      exact key _
  repeat (first | with_reducible refine w_sif ?_ | (fail_if_success with_reducible show W (sIf _ _ _ _ _) _); walk_at "w")
  rw [List.length_map]
  refine iteI (fun h => ?_) (fun h => ?_)
  · have h := of_decide_eq_true h
    obtain ⟨v, ev⟩ := ns_at h0 h
    walk_at "ww"
    refine w_ixF ev ?_
    repeat (first | with_reducible refine sq_nx ?_ | with_reducible refine w_nil ?_ | ((with_reducible show W (xIntX _ _) _); refine w_eq rfl ?_) | ((with_reducible show W (xAbs _ _) _); refine w_eq rfl ?_) | ((with_reducible refine w_gN ?_); try dsimp only [List.set]))
    exact fin _
  · have h := of_decide_eq_false h
    walk_at "ww"
    rw [List.length_map]
    refine iteI (fun h2 => ?_) (fun h2 => ?_)
    · have h2 := of_decide_eq_true h2
      walk_at "ww"
      rw [List.length_map]
      refine w_mod h2 ?_
      obtain ⟨v, ev⟩ := ns_at (ns := ns) (k := k % (ns.length : Int)) (Int.emod_nonneg _ (by omega)) (Int.emod_lt_of_pos _ h2)
      refine w_ixF ev ?_
      repeat (first | with_reducible refine w_c ?_ | with_reducible refine sq_nx ?_ | with_reducible refine w_nil ?_ | ((with_reducible show W (xIntX _ _) _); refine w_eq rfl ?_) | ((with_reducible show W (xAdd _ _ _) _); refine w_eq rfl ?_) | (with_reducible refine w_mod (by decide) ?_) | ((with_reducible refine w_mulB ?_ ?_ ?_ ?_ ?_); omega; omega; omega; omega) | ((with_reducible refine w_gN ?_); try dsimp only [List.set]))
      exact fin _
    · repeat (first | with_reducible refine w_next ?_ | with_reducible refine sq_nx ?_)
      exact fin _
theorem pick_ok {S : Xs} {b N : Nat} {c : Xc} {xs : List Dt} {Q : Dt → Xs → Prop} (hS : S[b]? = some c) (hB : Bx N c) (h0 : 0 < xs.length) (hl : xs.length < 100000) (hN : N < 2 ^ 60) (q : ∀ x c', x ∈ xs → Bx (N + 1) c' → Q x (S.set b c')) : W (m_L_pick [.loc b, .lst xs] S) Q := by
  unfold m_L_pick b_L_pick
  walk_at "fn"
  walk_at "ww"
  refine (take_ok hS hB (by omega) (by omega) hN).mono fun x S' h => ?_
  obtain ⟨r, c', rfl, hr0, hr1, rfl, hB'⟩ := h
  have hx : xs[r.toNat]? = some (xs[r.toNat]'(by omega)) := List.getElem?_eq_getElem (by omega)
  refine w_ixL (by rw [atI_nat hr0 (by omega)]; exact hx) ?_
  walk_at "ww"
  exact w_exit (by simp) (q _ _ (List.getElem_mem _) hB')
theorem raw_ok {S : Xs} {b N : Nat} {c : Xc} {far wide : Int} {Q : Dt → Xs → Prop} (hS : S[b]? = some c) (hB : Bx N c) (f1 : 1 ≤ far) (f2 : far ≤ 10000) (w1 : 1 ≤ wide) (w2 : wide ≤ 10000) (hN : N + 20000 < 2 ^ 60)
    (q : ∀ few st p rs c', Raw far wide few st p rs → Bx (N + 20000) c' → Q (.tup [.lst (few.map .int), .int st, .int p, .lst (rs.map .int)]) (S.set b c')) : W (m_L_raw [.loc b, .int far, .int wide] S) Q := by
  have hb : b < S.length := (List.getElem?_eq_some_iff.mp hS).1
  have gs : ∀ c : Xc, (S.set b c)[b]? = some c := fun c => by rw [List.getElem?_set_self hb]
  unfold m_L_raw b_L_raw
  walk_at "fn"
  walk_at "ww"
  refine (take_ok hS hB (by omega) (by omega) (by omega)).mono fun x S' h => ?_
  obtain ⟨a1, c1, rfl, ha0, ha1, rfl, hB1⟩ := h
  walk_at "ww"
  refine (take_ok (gs c1) hB1 (by omega) (by omega) (by omega)).mono fun x S' h => ?_
  obtain ⟨a2, c2, rfl, hp0, hp1, rfl, hB2⟩ := h
  rw [List.set_set]
  walk_at "ww"
  have tail : ∀ (few : List Int) (c3 : Xc) (N3 : Nat), Bx N3 c3 → N3 + 10010 < N + 20000 → (∀ v ∈ few, 1 ≤ v ∧ v ≤ a1) → few.length ≤ 5 → W ((sSeq (sAsg (mLc (wRng1 (aCons (mCall m_L_pick (aCons (mVar 0) (aCons (mLst (aCons (mC (.int 0)) (aCons (mC (.int 1)) (aCons (mC (.int 1)) (aCons (mC (.int 2)) (aCons (mC (.int 3)) (aCons (mVar 4) aNil))))))) aNil))) aNil)) (gN 7) mYes (mCall m_L_take (aCons (mVar 0) (aCons (mVar 4) aNil))) [7]) (gN 6))
  (sRet (mTup (aCons (mVar 5) (aCons (mVar 3) (aCons (mVar 4) (aCons (mVar 6) aNil))))))) [some (.loc b), some (.int far), some (.int wide), some (.int (1 + a1)), some (.int (1 + a2)), some (.lst (few.map .int)), none, none] (S.set b c3)) (RY.Fin Q S.length) := by
    intro few c3 N3 hB3 hN3 hf1 hf2
    walk_at "ww"
    refine w_lcI (I := fun i acc S' => ∃ is : List Int, ∃ c', acc = is.map .int ∧ is.length = i ∧ (∀ v ∈ is, 0 ≤ v ∧ v ≤ a2) ∧ S' = S.set b c' ∧ Bx (N3 + 1 + i) c') (w_rng1 ?_)
    walk_at "ww"
    refine ⟨by simp, ?_⟩
    walk_at "ww"
    refine pick_ok (gs c3) hB3 (by simp) (by simp) (by omega) fun x c4 hx hB4 => ?_
    rw [List.set_set]
    have hx2 : ∃ j : Int, x = .int j ∧ 0 ≤ j ∧ (j ≤ 3 ∨ j ≤ wide) := by
      simp only [List.mem_cons, List.not_mem_nil, or_false] at hx
      rcases hx with rfl | rfl | rfl | rfl | rfl | rfl
      · exact ⟨_, rfl, by omega, by omega⟩
      · exact ⟨_, rfl, by omega, by omega⟩
      · exact ⟨_, rfl, by omega, by omega⟩
      · exact ⟨_, rfl, by omega, by omega⟩
      · exact ⟨_, rfl, by omega, by omega⟩
      · exact ⟨_, rfl, by omega, by omega⟩
    obtain ⟨j, rfl, hj0, hj1⟩ := hx2
    walk_at "ww"
    refine ⟨j, rfl, by omega, by omega, by rw [range_len]; omega, ⟨[], c4, rfl, rfl, (fun v hv => nomatch hv), rfl, hB4⟩, ?_, ?_⟩
    · rintro i x acc S' hx ⟨is, c', rfl, hl, hv, rfl, hB'⟩
      have hi := (range_get hx).1
      walk_at "ww"
      refine (take_ok (gs c') hB' (by omega) (by omega) (by omega)).mono fun x S' h => ?_
      obtain ⟨a3, c5, rfl, h30, h31, rfl, hB5⟩ := h
      rw [List.set_set]
      refine ⟨is ++ [a3], c5, by simp, by simp [hl], fun v hv' => ?_, rfl, hB5.mono (by omega)⟩
      rcases List.mem_append.mp hv' with z | z
      · exact hv v z
      · simp at z; subst z; omega
    · rintro ys S2 ⟨is, c', rfl, hl, hv, rfl, hB'⟩
      rw [range_len] at hl hB'
      walk_at "ww"
      refine ⟨by simp, ?_⟩
      walk_at "ww"
      refine w_exit (by simp) (q few (1 + a1) (1 + a2) is c' ⟨by omega, by omega, by omega, by omega, fun v hv' => by have := hf1 v hv'; omega, fun v hv' => by have := hv v hv'; omega, hf2, by omega⟩ (hB'.mono (by omega)))
  refine iteI (fun h => ?_) (fun h => ?_)
  · have h := of_decide_eq_true h
    walk_at "ww"
    refine w_lcI (I := fun i acc S' => ∃ is : List Int, ∃ c', acc = is.map .int ∧ is.length = i ∧ (∀ v ∈ is, 1 ≤ v ∧ v ≤ a1) ∧ S' = S.set b c' ∧ Bx (N + 3 + i) c') (w_rng1 ?_)
    walk_at "ww"
    refine (take_ok (gs c2) hB2 (by omega) (by omega) (by omega)).mono fun x S' h => ?_
    obtain ⟨a3, c3, rfl, h30, h31, rfl, hB3⟩ := h
    rw [List.set_set]
    walk_at "ww"
    refine ⟨a3, rfl, by omega, by omega, by rw [range_len]; omega, ⟨[], c3, rfl, rfl, (fun v hv => nomatch hv), rfl, hB3⟩, ?_, ?_⟩
    · rintro i x acc S' hx ⟨is, c', rfl, hl, hv, rfl, hB'⟩
      have hi := (range_get hx).1
      walk_at "ww"
      refine (take_ok (gs c') hB' (by omega) (by omega) (by omega)).mono fun x S' h => ?_
      obtain ⟨a4, c5, rfl, h40, h41, rfl, hB5⟩ := h
      rw [List.set_set]
      walk_at "ww"
      refine ⟨is ++ [1 + a4], c5, by simp, by simp [hl], fun v hv' => ?_, rfl, hB5.mono (by omega)⟩
      rcases List.mem_append.mp hv' with z | z
      · exact hv v z
      · simp at z; subst z; omega
    · rintro ys S2 ⟨is, c', rfl, hl, hv, rfl, hB'⟩
      rw [range_len] at hl hB'
      repeat (first | with_reducible refine sq_nx ?_ | ((with_reducible refine w_gN ?_); try dsimp only [List.set]))
      exact tail is c' _ hB' (by omega) hv (by omega)
  · have h := of_decide_eq_false h
    refine w_lst (w_nil ⟨by simp, ?_⟩)
    repeat (first | with_reducible refine sq_nx ?_ | ((with_reducible refine w_gN ?_); try dsimp only [List.set]))
    exact tail [] c2 _ hB2 (by omega) (fun v hv => by cases hv) (by simp)
theorem has_ok {fx rx : Dt} {few rs : List Int} {st p n : Int} {S : Xs} {Q : Dt → Xs → Prop} (hf : isLT fx few) (hr : isLT rx rs) (hp : 1 ≤ p) (q : Q (.bl (hasR few st p rs n)) S) : W (m_L_has [.tup [fx, .int st, .int p, rx], .int n] S) Q := by
  unfold m_L_has b_L_has
  walk_at "fn"
  walk_at "ww"
  unfold hasR at q
  refine iteI (fun h => ?_) (fun h => ?_)
  · rw [if_pos (of_decide_eq_true h)] at q
    walk_at "ww"
    exact w_exit rfl q
  · rw [if_neg (of_decide_eq_false h)] at q
    walk_at "ww"
    refine iteI (fun h2 => ?_) (fun h2 => ?_)
    · rw [if_pos (of_decide_eq_true h2)] at q
      walk_at "ww"
      refine w_in hf ?_
      walk_at "ww"
      exact w_exit rfl q
    · rw [if_neg (of_decide_eq_false h2)] at q
      walk_at "ww"
      refine w_in hr ?_
      walk_at "ww"
      exact w_exit rfl q
section
variable {few rs few' rs' : List Int} {st p st' : Int} {d : Nat} {S : Xs} {Q : Dt → Xs → Prop}
theorem gcd_ok {a b : Nat} (hb : b < 90000) (q : Q (.int (Nat.gcd a b)) S) : W (m_greatest_part [.int a, .int b] S) Q := by
  unfold m_greatest_part b_greatest_part
  walk_at "fn"
  walk_at "ww"
  refine while_inv (I := fun k G S' => S' = S ∧ ∃ x y : Nat, G = [some (.int x), some (.int y)] ∧ Nat.gcd x y = Nat.gcd a b ∧ k = y) ?_ 100000 b (by omega) ⟨rfl, a, b, rfl, rfl, rfl⟩
  rintro k G S' ⟨rfl, x, y, rfl, hg, rfl⟩
  walk_at "ww"
  refine iteI (fun h => ?_) (fun h => ?_)
  · have h := of_decide_eq_true h
    refine w_par ?_
    walk_at "ww"
    refine ⟨_, _, rfl, ?_⟩
    walk_at "ww"
    refine ⟨x % k, Nat.mod_lt _ (by omega), rfl, k, x % k, by simp [List.set], ?_, rfl⟩
    rw [← hg, Nat.gcd_comm x k, Nat.gcd_rec k x, Nat.gcd_comm]
  · have h := of_decide_eq_false h
    have : k = 0 := by omega
    subst this
    walk_at "ww"
    rw [Nat.gcd_zero_right] at hg
    rw [hg]
    exact w_exit rfl q
end
section
variable {S : Xs} {Q : Dt → Xs → Prop}
theorem contrary_ok {few rs : List Int} {st d : Int} (h1 : st ≤ 50000) (h2 : d ≤ 50000) (q : Q (.tup [.lst (((iseq 1 (st - 1).toNat).filter fun m => !decide (m ∈ few)).map .int), .int st, .int d, .lst (((iseq 0 d.toNat).filter fun m => !decide (m ∈ rs)).map .int)]) S) (h3 : 1 ≤ st) (h4 : 1 ≤ d) : W (m_contrary [calObj few st d rs] S) Q := by
  unfold m_contrary b_contrary
  walk_at "fn"
  walk_at "ww"
  refine w_lc (p := fun x => match x with | .int r => !decide (r ∈ few) | _ => false) (f := id) (w_rng2 ?_)
  walk_at "ww"
  refine ⟨0, _, _, rfl, rfl, rfl, ?_⟩
  walk_at "ww"
  refine ⟨1, st, rfl, by omega, by omega, by omega, by omega, by rw [range_len]; omega, fun x hx => ?_, ?_⟩
  · obtain ⟨i, hi, rfl⟩ := range_mem hx
    walk_at "ww"
    refine ⟨rfl, ?_⟩
    walk_at "ww"
    refine ⟨0, _, _, rfl, rfl, rfl, ?_⟩
    refine w_notIn (is := few) (.inr rfl) ?_
    walk_at "ww"
    refine ⟨rfl, rfl, fun _ => ?_⟩
    walk_at "ww"
    exact ⟨rfl, rfl⟩
  rw [List.map_id, range_iseq, filter_int (p := fun r => !decide (r ∈ few)) (fun _ => rfl)]
  walk_at "ww"
  refine ⟨0, _, _, rfl, rfl, rfl, ?_⟩
  walk_at "ww"
  refine ⟨0, _, _, rfl, rfl, rfl, ?_⟩
  walk_at "ww"
  refine w_lc (p := fun x => match x with | .int r => !decide (r ∈ rs) | _ => false) (f := id) (w_rng1 ?_)
  walk_at "ww"
  refine ⟨0, _, _, rfl, rfl, rfl, ?_⟩
  walk_at "ww"
  refine ⟨d, rfl, by omega, by omega, by rw [range_len]; omega, fun x hx => ?_, ?_⟩
  · obtain ⟨i, hi, rfl⟩ := range_mem hx
    walk_at "ww"
    refine ⟨rfl, ?_⟩
    walk_at "ww"
    refine ⟨0, _, _, rfl, rfl, rfl, ?_⟩
    refine w_notIn (is := rs) (.inr rfl) ?_
    walk_at "ww"
    refine ⟨rfl, rfl, fun _ => ?_⟩
    walk_at "ww"
    exact ⟨rfl, rfl⟩
  rw [List.map_id, range_iseq, filter_int (p := fun r => !decide (r ∈ rs)) (fun _ => rfl)]
  walk_at "ww"
  refine ⟨by simp, ?_⟩
  walk_at "ww"
  exact w_exit rfl q
end
section
variable {S : Xs} {Q : Dt → Xs → Prop}
theorem invert_ok {few rs : List Int} {st d : Int} (hc : Cln S) (h1 : st ≤ 50000) (h2 : d ≤ 50000) (h3 : 1 ≤ st) (h4 : 1 ≤ d)
    (q : ∀ few' st' (d' : Nat) rs', LF ((iseq 1 (st - 1).toNat).filter fun m => !decide (m ∈ few)) st d ((iseq 0 d.toNat).filter fun m => !decide (m ∈ rs)) few' st' d' rs' → Q (calObj few' st' d' rs') S) : W (m_Calendar___invert__ [calObj few st d rs] S) Q := by
  unfold m_Calendar___invert__ b_Calendar___invert__
  walk_at "fn"
  walk_at "ww"
  refine contrary_ok h1 h2 ?_ h3 h4
  walk_at "ww"
  have l1 := List.length_filter_le (fun m => !decide (m ∈ few)) (iseq 1 (st - 1).toNat)
  have l2 := List.length_filter_le (fun m => !decide (m ∈ rs)) (iseq 0 d.toNat)
  rw [iseq_len] at l1 l2
  refine init_ok (.inl rfl) (.inl rfl) hc h3 h1 h4 h2 (by omega) (by omega) (fun v hv => ?_) (fun v hv => ?_) fun few' st' d' rs' L => ?_
  · have := (mem_iseq.mp (List.mem_filter.mp hv).1)
    omega
  · have := (mem_iseq.mp (List.mem_filter.mp hv).1)
    omega
  walk_at "ww"
  exact w_exit rfl (q few' st' d' rs' L)
end
def Cl (bs bd : Int) (A : Int → Bool) (x : Dt) : Prop := ∃ few st, ∃ d : Nat, ∃ rs, x = calObj few st d rs ∧ Can A few st d rs ∧ st ≤ bs ∧ (d : Int) ≤ bd
theorem Cl.congr {bs bd : Int} {A B : Int → Bool} {x : Dt} (h : Cl bs bd A x) (e : ∀ n, 1 ≤ n → A n = B n) : Cl bs bd B x := by
  obtain ⟨few, st, d, rs, ex, C, h1, h2⟩ := h
  exact ⟨few, st, d, rs, ex, C.congr e, h1, h2⟩
theorem Cl.mono {bs bd bs2 bd2 : Int} {A : Int → Bool} {x : Dt} (h : Cl bs bd A x) (e1 : bs ≤ bs2) (e2 : bd ≤ bd2) : Cl bs2 bd2 A x := by
  obtain ⟨few, st, d, rs, ex, C, h1, h2⟩ := h
  exact ⟨few, st, d, rs, ex, C, by omega, by omega⟩
theorem Cl.ins {bs bd : Int} {A : Int → Bool} {x : Dt} (h : Cl bs bd A x) (S : Xs) : ∃ fs, insX S x = some (0, fs) := by
  obtain ⟨few, st, d, rs, rfl, C, h1, h2⟩ := h
  exact ⟨_, rfl⟩
theorem Cl.d0 {bs bd : Int} {A : Int → Bool} {x : Dt} (h : Cl bs bd A x) : 1 ≤ bd ∧ 1 ≤ bs := by
  obtain ⟨few, st, d, rs, rfl, C, h1, h2⟩ := h
  have := C.d1
  have := C.s1
  omega
theorem Cl.ty {bs bd : Int} {A : Int → Bool} {x : Dt} (h : Cl bs bd A x) (S : Xs) : tyN 1 S x = some (.inr 0) := by
  obtain ⟨few, st, d, rs, rfl, C, h1, h2⟩ := h
  rfl
theorem mk_ok {fx rx : Dt} {few rs : List Int} {st p : Int} {S : Xs} {Q : Dt → Xs → Prop} (hf : isLT fx few) (hr : isLT rx rs) (hc : Cln S) (hst : 1 ≤ st) (hst2 : st ≤ 50000) (hp : 1 ≤ p) (hp2 : p ≤ 50000) (lf : few.length ≤ 100000) (lr : rs.length ≤ 100000)
    (bf : ∀ v ∈ few, 1 ≤ v ∧ v ≤ st - 1) (br : ∀ v ∈ rs, 0 ≤ v ∧ v ≤ p - 1)
    (q : ∀ x, Cl st p (hasR few st p rs) x → Q x S) : W (m_Calendar___init__ [.loc S.length, fx, .int st, .int p, rx] (S ++ [.ins 0 []])) fun y S2 => y = .non ∧ W (exitX S.length (.loc S.length) S2) Q :=
  init_ok hf hr hc hst hst2 hp hp2 lf lr bf br fun few' st' d rs' L => q _ ⟨few', st', d, rs', rfl, L.can, L.s2, L.dp⟩
theorem calof_ok {fx rx : Dt} {few rs : List Int} {st p : Int} {S : Xs} {Q : Dt → Xs → Prop} (hf : isLT fx few) (hr : isLT rx rs) (hc : Cln S) (hst : 1 ≤ st) (hst2 : st ≤ 50000) (hp : 1 ≤ p) (hp2 : p ≤ 50000) (lf : few.length ≤ 100000) (lr : rs.length ≤ 100000)
    (bf : ∀ v ∈ few, 1 ≤ v ∧ v ≤ st - 1) (br : ∀ v ∈ rs, 0 ≤ v ∧ v ≤ p - 1)
    (q : ∀ x, Cl st p (hasR few st p rs) x → Q x S) : W (m_L_cal_of [.tup [fx, .int st, .int p, rx]] S) Q :=
  cal_of_ok hf hr hc hst hst2 hp hp2 lf lr bf br fun few' st' d rs' L => q _ ⟨few', st', d, rs', rfl, L.can, L.s2, L.dp⟩
theorem phas_ok {few rs : List Int} {st n : Int} {d : Nat} {A : Int → Bool} {S : Xs} {Q : Dt → Xs → Prop} (C : Can A few st d rs) (hn : 1 ≤ n) (q : Q (.bl (A n)) S) : W (m_has [calObj few st d rs, .int n] S) Q := by
  have hd := C.d1
  rw [C.has hn] at q
  unfold hasR at q
  rw [if_neg (by omega)] at q
  unfold m_has b_has
  walk_at "fn"
  walk_at "ww"
  refine ⟨_, _, _, rfl, rfl, rfl, ?_⟩
  walk_at "ww"
  refine iteI (fun h => ?_) (fun h => ?_)
  · rw [if_pos (of_decide_eq_true h)] at q
    walk_at "ww"
    refine ⟨_, _, _, rfl, rfl, rfl, w_in (.inr rfl) ?_⟩
    walk_at "ww"
    exact w_exit rfl q
  · rw [if_neg (of_decide_eq_false h)] at q
    walk_at "ww"
    refine ⟨_, _, _, rfl, rfl, rfl, w_mod (by omega) ?_⟩
    walk_at "ww"
    refine ⟨_, _, _, rfl, rfl, rfl, w_in (.inr rfl) ?_⟩
    walk_at "ww"
    exact w_exit rfl q
theorem later_ok {few rs few2 rs2 : List Int} {st st2 : Int} {d d2 : Nat} {S : Xs} {Q : Dt → Xs → Prop} (q : Q (.int (if st > st2 then st else st2)) S) : W (m_later_start [calObj few st d rs, calObj few2 st2 d2 rs2] S) Q := by
  unfold m_later_start b_later_start
  walk_at "fn"
  walk_at "ww"
  refine ⟨_, _, _, rfl, rfl, rfl, ?_⟩
  walk_at "ww"
  refine ⟨_, _, _, rfl, rfl, rfl, ?_⟩
  walk_at "ww"
  refine iteI (fun h => ?_) (fun h => ?_)
  · rw [if_pos (of_decide_eq_true h)] at q
    walk_at "ww"
    refine ⟨_, _, _, rfl, rfl, rfl, ?_⟩
    walk_at "ww"
    exact w_exit rfl q
  · rw [if_neg (of_decide_eq_false h)] at q
    walk_at "ww"
    refine ⟨_, _, _, rfl, rfl, rfl, ?_⟩
    walk_at "ww"
    exact w_exit rfl q
theorem common_ok {a b : Nat} {S : Xs} {Q : Dt → Xs → Prop} (ha : 1 ≤ a) (hb : 1 ≤ b) (ha2 : a < 90000) (hb2 : b < 90000) (q : Q (.int (Nat.lcm a b : Nat)) S) : W (m_common [.int a, .int b] S) Q := by
  unfold m_common b_common
  walk_at "fn"
  walk_at "ww"
  have hab : a * b < 90000 * 90000 := by
    calc a * b ≤ a * 90000 := Nat.mul_le_mul_left _ (by omega)
      _ < 90000 * 90000 := by omega
  refine gcd_ok hb2 ?_
  have hg : 0 < Nat.gcd a b := Nat.gcd_pos_of_pos_left _ (by omega)
  have hgb : Nat.gcd a b ≤ a := Nat.le_of_dvd (by omega) (Nat.gcd_dvd_left _ _)
  refine w_div (by omega) (Nat.lt_of_lt_of_le (log2_lt (k := 62) (by omega) (by omega)) (by decide)) ?_
  walk_at "ww"
  refine w_exit rfl ?_
  rw [← Int.natCast_mul, ← Int.natCast_ediv]
  exact q
theorem strs_lc {few : List Int} (hb : ∀ v ∈ few, 0 ≤ v ∧ v < 10 ^ 10) {k : Nat} {G G0 : Xe} {x : Dt} {S : Xs} (hx : x ∈ few.map Dt.int) (hk : ∀ y, (G.set k (some y))[k]? = some (some y)) : W (gN k x G S) fun G1 S2 => S2 = S ∧ W (mYes G1 S) fun c S2 => c = true ∧ S2 = S ∧ (c = true → W (mCb xStr (aCons (mVar k) aNil) G1 S) fun y S3 => y = strD x ∧ S3 = S) := by
  obtain ⟨i, hi, rfl⟩ := List.mem_map.mp hx
  have hi := hb i hi
  walk_at "ww"
  refine ⟨rfl, ?_⟩
  walk_at "ww"
  refine ⟨rfl, rfl, fun _ => ?_⟩
  walk_at "ww"
  refine w_var (hk _) ?_
  walk_at "ww"
  refine w_strI ?_ ⟨rfl, rfl⟩
  exact Nat.lt_of_lt_of_le (log2_lt (k := 62) (by omega) (by omega)) (by decide)
theorem str_ok {few rs : List Int} {st : Int} {d : Nat} {A : Int → Bool} {S : Xs} {Q : Dt → Xs → Prop} (C : Can A few st d rs) (b1 : st ≤ 30000) (b2 : d ≤ 30000) (q : Q (.str (calT few st d rs)) S) : W (m_Calendar___str__ [calObj few st d rs] S) Q := by
  have s1 := C.s1
  have hl := C.len
  have hf : ∀ v ∈ few, 0 ≤ v ∧ v < 10 ^ 10 := fun v hv => by have := C.few_mem hv; omega
  have hr : ∀ v ∈ rs, 0 ≤ v ∧ v < 10 ^ 10 := fun v hv => by have := C.rs_mem hv; omega
  have hfl := fewT_len hf
  have hrl := join_len hr
  have m1 : ∀ is : List Int, ((is.map Dt.int).filter fun _ => true).map strD = (is.map istr).map .str := fun is => by
    rw [List.filter_eq_self.mpr (fun _ _ => rfl), List.map_map, List.map_map]
    rfl
  unfold m_Calendar___str__ b_Calendar___str__
  walk_at "fn"
  refine w_seq (w_asg (W.mono (Q := fun x S1 => x = .str (fewT few) ∧ S1 = S) ?_ ?_))
  · walk_at "ww"
    refine ⟨_, _, _, rfl, rfl, rfl, ?_⟩
    walk_at "ww"
    rw [List.length_map]
    refine iteI (fun h => ?_) (fun h => ?_)
    · have h := of_decide_eq_true h
      refine w_bm ?_
      walk_at "ww"
      refine ⟨rfl, ?_⟩
      walk_at "ww"
      refine w_lc (p := fun _ => true) (f := strD) (w_any ?_)
      walk_at "ww"
      refine ⟨_, _, _, rfl, rfl, rfl, ?_⟩
      refine ⟨_, rfl, (fun z h => nomatch h), by rw [List.length_map]; omega, fun x hx => ?_, ?_⟩
      · exact strs_lc hf (G0 := []) hx (by intro y; rfl)
      · rw [m1]
        walk_at "ww"
        refine w_join rfl (strsD_map _) (Nat.le_trans (sum_istr hf) (by omega)) ⟨?_, rfl⟩
        unfold fewT
        rw [if_neg (by intro e; rw [e] at h; simp at h)]
    · have h := of_decide_eq_false h
      have e : few = [] := by cases few with
        | nil => rfl
        | cons a t => simp at h
      walk_at "ww"
      refine ⟨?_, rfl⟩
      unfold fewT
      rw [if_pos e]
  · rintro _ _ ⟨rfl, rfl⟩
    walk_at "ww"
    refine ⟨_, _, _, rfl, rfl, rfl, ?_⟩
    walk_at "ww"
    rw [List.length_map]
    refine iteI (fun h => ?_) (fun h => ?_)
    · have h := of_decide_eq_true h
      have e : rs = [] := by cases rs with
        | nil => rfl
        | cons a t => simp at h; omega
      unfold calT at q
      rw [if_pos e] at q
      walk_at "ww"
      refine w_fmt ?_
      walk_at "ww"
      refine w_fmtS (by omega) ?_
      walk_at "ww"
      exact w_exit rfl q
    · have h := of_decide_eq_false h
      have e : rs ≠ [] := fun e => by rw [e] at h; simp at h
      unfold calT at q
      rw [if_neg e] at q
      have l1 : (Str.ofString (toString st)).length ≤ 13 := istr_len (i := st) (by omega) (by omega)
      have l2 : (Str.ofString (toString (d : Int))).length ≤ 13 := istr_len (i := (d : Int)) (by omega) (by omega)
      have l3 : (" from " : Str).length = 6 := rfl
      have l4 : (" of " : Str).length = 4 := rfl
      have l5 : (": " : Str).length = 2 := rfl
      have l6 : Str.empty.length = 0 := rfl
      have g1 : st.natAbs.log2 < 1920 := Nat.lt_of_lt_of_le (log2_lt (k := 62) (by omega) (by omega)) (by decide)
      have g2 : (d : Int).natAbs.log2 < 1920 := Nat.lt_of_lt_of_le (log2_lt (k := 62) (by omega) (by omega)) (by decide)
      walk_at "ww"
      refine w_jsC (w_fmt ?_)
      walk_at "ww"
      refine w_fmtS (by omega) ⟨_, rfl, by simp only [app_len, l3, l4, l5, l6]; omega, w_jsC ?_⟩
      walk_at "ww"
      refine ⟨_, rfl, by simp only [app_len, l3, l4, l5, l6]; omega, w_jsC (w_fmt ?_)⟩
      walk_at "ww"
      refine ⟨_, _, _, rfl, rfl, rfl, ?_⟩
      refine w_fmtI g1 ⟨_, rfl, by simp only [app_len, l3, l4, l5, l6]; omega, w_jsC ?_⟩
      walk_at "ww"
      refine ⟨_, rfl, by simp only [app_len, l3, l4, l5, l6]; omega, w_jsC (w_fmt ?_)⟩
      walk_at "ww"
      refine ⟨_, _, _, rfl, rfl, rfl, ?_⟩
      refine w_fmtI g2 ⟨_, rfl, by simp only [app_len, l3, l4, l5, l6]; omega, w_jsC ?_⟩
      walk_at "ww"
      refine ⟨_, rfl, by simp only [app_len, l3, l4, l5, l6]; omega, w_jsC (w_fmt (w_bm ?_))⟩
      walk_at "ww"
      refine ⟨rfl, ?_⟩
      walk_at "ww"
      refine w_lc (p := fun _ => true) (f := strD) (w_any ?_)
      walk_at "ww"
      refine ⟨_, _, _, rfl, rfl, rfl, ?_⟩
      refine ⟨_, rfl, (fun z h => nomatch h), by rw [List.length_map]; omega, fun x hx => ?_, ?_⟩
      · exact strs_lc hr (G0 := []) hx (by intro y; rfl)
      · rw [m1]
        walk_at "ww"
        refine w_join rfl (strsD_map _) (Nat.le_trans (sum_istr hr) (by omega)) ?_
        refine w_fmtS (by omega) ⟨_, rfl, by simp only [app_len, l3, l4, l5, l6]; omega, w_jsN ?_⟩
        walk_at "ww"
        exact w_exit rfl q
theorem eq_ok {s1 d1 s2 d2 : Int} {x y : Dt} {A B : Int → Bool} {S : Xs} {Q : Dt → Xs → Prop} (C : Cl s1 d1 A x) (D : Cl s2 d2 B y) (b1 : s1 ≤ 30000) (b2 : s2 ≤ 30000) (b3 : d1 ≤ 30000) (b4 : d2 ≤ 30000) (q : ∀ b : Bool, (b = true ↔ Same A B) → Q (.bl b) S) : W (m_Calendar___eq__ [x, y] S) Q := by
  obtain ⟨few, st, d, rs, rfl, C, c1, c2⟩ := C
  obtain ⟨few2, st2, e, rs2, rfl, D, e1, e2⟩ := D
  unfold m_Calendar___eq__ b_Calendar___eq__
  walk_at "fn"
  walk_at "ww"
  refine w_strO rfl rfl (str_ok C (by omega) (by omega) ⟨_, rfl, ?_⟩)
  walk_at "ww"
  refine w_strO rfl rfl (str_ok D (by omega) (by omega) ⟨_, rfl, w_eqSS ?_⟩)
  walk_at "ww"
  refine w_exit rfl (q _ ?_)
  rw [decide_eq_true_iff]
  exact C.text D (by omega) (by omega) (by omega) (by omega)
theorem inv_ok {s1 d1 : Int} {x : Dt} {A : Int → Bool} {S : Xs} {Q : Dt → Xs → Prop} (C : Cl s1 d1 A x) (hc : Cln S) (b1 : s1 ≤ 30000) (b2 : d1 ≤ 30000) (q : ∀ y, Cl s1 d1 (fun n => !A n) y → Q y S) : W (m_Calendar___invert__ [x] S) Q := by
  obtain ⟨few, st, d, rs, rfl, C, c1, c2⟩ := C
  have h1 := C.s1
  have h2 := C.d1
  refine invert_ok hc (by omega) (by omega) h1 (by omega) fun few' st' d' rs' L => q _ ⟨few', st', d', rs', rfl, L.can.congr fun n hn => ?_, by have := L.s2; omega, by have := L.dp; omega⟩
  rw [C.has hn, hasR1 hn, hasR1 hn]
  by_cases h : n < st
  · rw [if_pos h, if_pos h]
    by_cases hm : n ∈ few
    · rw [decide_eq_true hm]
      refine decide_eq_false fun h3 => ?_
      have := (List.mem_filter.mp h3).2
      simp [hm] at this
    · rw [decide_eq_false hm]
      exact decide_eq_true (List.mem_filter.mpr ⟨mem_iseq.mpr ⟨hn, by omega⟩, by simp [hm]⟩)
  · rw [if_neg h, if_neg h]
    have e1 : 0 ≤ n % (d : Int) := Int.emod_nonneg _ (by omega)
    have e2 : n % (d : Int) < d := Int.emod_lt_of_pos _ (by omega)
    by_cases hm : n % (d : Int) ∈ rs
    · rw [decide_eq_true hm]
      refine decide_eq_false fun h3 => ?_
      have := (List.mem_filter.mp h3).2
      simp [hm] at this
    · rw [decide_eq_false hm]
      exact decide_eq_true (List.mem_filter.mpr ⟨mem_iseq.mpr ⟨e1, by omega⟩, by simp [hm]⟩)
theorem inby_ok {s : Str} {f : Bool → Bool → Bool} {a b : Bool} {S : Xs} {Q : Dt → Xs → Prop} (h : Sg s f) (q : Q (.bl (f a b)) S) : W (m_is_in_by [.str s, .bl a, .bl b] S) Q := by
  unfold m_is_in_by b_is_in_by
  walk_at "fn"
  rcases h with ⟨rfl, rfl⟩ | ⟨rfl, rfl⟩ | ⟨rfl, rfl⟩ | ⟨rfl, rfl⟩
  all_goals
    cases a <;> cases b
    all_goals
      walk_at "ww"
      exact w_exit rfl q
theorem joined_ok {few rs few2 rs2 : List Int} {st st2 : Int} {d d2 : Nat} {A B : Int → Bool} {s : Str} {f : Bool → Bool → Bool} {S : Xs} {Q : Dt → Xs → Prop} (hs : Sg s f) (C : Can A few st d rs) (D : Can B few2 st2 d2 rs2) (b1 : st ≤ 30000) (b2 : st2 ≤ 30000) (b3 : d * d2 ≤ 30000) (q : ∀ t : Int, st ≤ t → st2 ≤ t → (t = st ∨ t = st2) → Q (.tup [.lst (((fnd (fun n => f (A n) (B n)) t (Nat.lcm d d2)).filter fun i => decide (i < t)).map .int), .int t, .int (Nat.lcm d d2 : Nat), .lst ((((fnd (fun n => f (A n) (B n)) t (Nat.lcm d d2)).filter fun i => decide (i ≥ t)).map (· % (Nat.lcm d d2 : Int))).map .int)]) S) : W (m_joined [calObj few st d rs, calObj few2 st2 d2 rs2, .str s] S) Q := by
  have c1 := C.d1
  have c2 := D.d1
  have s1 := C.s1
  have s2 := D.s1
  have hd1 : d ≤ d * d2 := Nat.le_mul_of_pos_right _ (by omega)
  have hd2 : d2 ≤ d * d2 := Nat.le_mul_of_pos_left _ (by omega)
  have hl := lcm_le (a := d) (b := d2) c1 c2
  have hl0 : 0 < Nat.lcm d d2 := Nat.lcm_pos (by omega) (by omega)
  unfold m_joined b_joined
  walk_at "fn"
  walk_at "ww"
  refine later_ok ?_
  walk_at "ww"
  refine ⟨_, _, _, rfl, rfl, rfl, ?_⟩
  walk_at "ww"
  refine ⟨_, _, _, rfl, rfl, rfl, ?_⟩
  walk_at "ww"
  refine common_ok c1 c2 (by omega) (by omega) ?_
  walk_at "ww"
  refine ⟨by simp, ?_⟩
  generalize ht : (if st > st2 then st else st2) = t
  have hs1 : st ≤ t := by rw [← ht]; split <;> omega
  have hs2 : st2 ≤ t := by rw [← ht]; split <;> omega
  have hs3 : t ≤ 40000 := by rw [← ht]; split <;> omega
  have q := q t hs1 hs2 (by rw [← ht]; split <;> simp)
  generalize hm : Nat.lcm d d2 = m at *
  generalize hF : (fun n => f (A n) (B n)) = F at *
  walk_at "ww"
  refine w_lc (p := fun x => match x with | .int r => F r | _ => false) (f := id) (w_rng2 ?_)
  walk_at "ww"
  refine ⟨1, t + m, rfl, by decide, by decide, by omega, by omega, by rw [range_len]; omega, fun x hx => ?_, ?_⟩
  · obtain ⟨i, hi, rfl⟩ := range_mem hx
    walk_at "ww"
    refine ⟨rfl, ?_⟩
    walk_at "ww"
    refine phas_ok C (by omega) ?_
    walk_at "ww"
    refine phas_ok D (by omega) ?_
    walk_at "ww"
    refine inby_ok hs ?_
    walk_at "ww"
    refine ⟨by subst hF; rfl, rfl, fun _ => ?_⟩
    walk_at "ww"
    exact ⟨rfl, rfl⟩
  rw [List.map_id, range_iseq, filter_int (p := F) (fun _ => rfl)]
  have hlen : (fnd F t m).length ≤ 80000 := by
    unfold fnd
    exact Nat.le_trans (List.length_filter_le _ _) (by rw [iseq_len]; omega)
  change W _ _
  have ef : (iseq 1 (t + (m : Int) - 1).toNat).filter F = fnd F t m := rfl
  rw [ef]
  walk_at "ww"
  refine w_lc (p := fun x => match x with | .int r => decide (r ≥ t) | _ => false) (f := fun x => match x with | .int r => .int (r % (m : Int)) | _ => .non) (w_any ?_)
  walk_at "ww"
  refine ⟨_, rfl, (fun z h => nomatch h), by rw [List.length_map]; omega, fun x hx => ?_, ?_⟩
  · obtain ⟨i, hi, rfl⟩ := List.mem_map.mp hx
    walk_at "ww"
    refine ⟨rfl, ?_⟩
    walk_at "ww"
    refine ⟨rfl, rfl, fun _ => ?_⟩
    walk_at "ww"
    exact ⟨rfl, rfl⟩
  rw [filter_int (p := fun r => decide (r ≥ t)) (fun _ => rfl), List.map_map]
  walk_at "ww"
  refine w_lc (p := fun x => match x with | .int r => decide (r < t) | _ => false) (f := id) (w_any ?_)
  walk_at "ww"
  refine ⟨_, rfl, (fun z h => nomatch h), by rw [List.length_map]; omega, fun x hx => ?_, ?_⟩
  · obtain ⟨i, hi, rfl⟩ := List.mem_map.mp hx
    walk_at "ww"
    refine ⟨rfl, ?_⟩
    walk_at "ww"
    refine ⟨rfl, rfl, fun _ => ?_⟩
    walk_at "ww"
    exact ⟨rfl, rfl⟩
  rw [List.map_id, filter_int (p := fun r => decide (r < t)) (fun _ => rfl)]
  walk_at "ww"
  refine ⟨by simp, ?_⟩
  walk_at "ww"
  refine w_exit rfl ?_
  rw [List.map_map] at q
  exact q
theorem and_ok {s1 d1 s2 d2 s d : Int} {x y : Dt} {A B : Int → Bool} {S : Xs} {Q : Dt → Xs → Prop} (X : Cl s1 d1 A x) (Y : Cl s2 d2 B y) (hc : Cln S) (b1 : s1 ≤ s) (b2 : s2 ≤ s) (b3 : d1 * d2 ≤ d) (b4 : s ≤ 30000) (b5 : d ≤ 30000) (q : ∀ z, Cl s d (fun n => A n && B n) z → Q z S) : W (m_Calendar___and__ [x, y] S) Q := by
  obtain ⟨few, st, e, rs, rfl, C, c1, c2⟩ := X
  obtain ⟨few2, st2, e2, rs2, rfl, D, c3, c4⟩ := Y
  have f1 := C.d1
  have f2 := D.d1
  have f3 := C.s1
  have hm : ((e * e2 : Nat) : Int) ≤ d := mul_bi f1 f2 c2 c4 b3
  have hl := lcm_le (a := e) (b := e2) f1 f2
  have hl0 : 0 < Nat.lcm e e2 := Nat.lcm_pos (by omega) (by omega)
  unfold m_Calendar___and__ b_Calendar___and__
  walk_at "fn"
  walk_at "ww"
  refine joined_ok (f := _) (.inl ⟨rfl, rfl⟩) C D (by omega) (by omega) (by omega) fun t t1 t2 t3 => ?_
  walk_at "ww"
  have lF : (fnd (fun n => A n && B n) t (Nat.lcm e e2)).length ≤ 80000 := by
    unfold fnd
    exact Nat.le_trans (List.length_filter_le _ _) (by rw [iseq_len]; omega)
  have l1 := List.length_filter_le (fun i => decide (i < t)) (fnd (fun n => A n && B n) t (Nat.lcm e e2))
  have l2 := List.length_filter_le (fun i => decide (i ≥ t)) (fnd (fun n => A n && B n) t (Nat.lcm e e2))
  refine mk_ok (.inl rfl) (.inl rfl) hc (by omega) (by omega) (by omega) (by omega) (Nat.le_trans l1 (by omega)) (by rw [List.length_map]; exact Nat.le_trans l2 (by omega)) (fun v hv => ?_) (fun v hv => ?_) fun z hz => ?_
  · obtain ⟨h1, h2⟩ := List.mem_filter.mp hv
    have := mem_iseq.mp (List.mem_filter.mp h1).1
    have := of_decide_eq_true h2
    omega
  · obtain ⟨w, _, rfl⟩ := List.mem_map.mp hv
    have h1 : 0 ≤ w % (Nat.lcm e e2 : Int) := Int.emod_nonneg _ (by omega)
    have h2 : w % (Nat.lcm e e2 : Int) < (Nat.lcm e e2 : Int) := Int.emod_lt_of_pos _ (by omega)
    omega
  walk_at "ww"
  refine w_exit rfl (q z (Cl.mono (hz.congr fun n hn => join_has (by omega) hl0 (fun n k hn => ?_) hn) (by omega) (by omega)))
  rw [C.step (Nat.dvd_lcm_left _ _) (by omega), D.step (Nat.dvd_lcm_right _ _) (by omega)]
theorem or_ok {s1 d1 s2 d2 s d : Int} {x y : Dt} {A B : Int → Bool} {S : Xs} {Q : Dt → Xs → Prop} (X : Cl s1 d1 A x) (Y : Cl s2 d2 B y) (hc : Cln S) (b1 : s1 ≤ s) (b2 : s2 ≤ s) (b3 : d1 * d2 ≤ d) (b4 : s ≤ 30000) (b5 : d ≤ 30000) (q : ∀ z, Cl s d (fun n => A n || B n) z → Q z S) : W (m_Calendar___or__ [x, y] S) Q := by
  obtain ⟨few, st, e, rs, rfl, C, c1, c2⟩ := X
  obtain ⟨few2, st2, e2, rs2, rfl, D, c3, c4⟩ := Y
  have f1 := C.d1
  have f2 := D.d1
  have f3 := C.s1
  have hm : ((e * e2 : Nat) : Int) ≤ d := mul_bi f1 f2 c2 c4 b3
  have hl := lcm_le (a := e) (b := e2) f1 f2
  have hl0 : 0 < Nat.lcm e e2 := Nat.lcm_pos (by omega) (by omega)
  unfold m_Calendar___or__ b_Calendar___or__
  walk_at "fn"
  walk_at "ww"
  refine joined_ok (f := _) (.inr (.inl ⟨rfl, rfl⟩)) C D (by omega) (by omega) (by omega) fun t t1 t2 t3 => ?_
  walk_at "ww"
  have lF : (fnd (fun n => A n || B n) t (Nat.lcm e e2)).length ≤ 80000 := by
    unfold fnd
    exact Nat.le_trans (List.length_filter_le _ _) (by rw [iseq_len]; omega)
  have l1 := List.length_filter_le (fun i => decide (i < t)) (fnd (fun n => A n || B n) t (Nat.lcm e e2))
  have l2 := List.length_filter_le (fun i => decide (i ≥ t)) (fnd (fun n => A n || B n) t (Nat.lcm e e2))
  refine mk_ok (.inl rfl) (.inl rfl) hc (by omega) (by omega) (by omega) (by omega) (Nat.le_trans l1 (by omega)) (by rw [List.length_map]; exact Nat.le_trans l2 (by omega)) (fun v hv => ?_) (fun v hv => ?_) fun z hz => ?_
  · obtain ⟨h1, h2⟩ := List.mem_filter.mp hv
    have := mem_iseq.mp (List.mem_filter.mp h1).1
    have := of_decide_eq_true h2
    omega
  · obtain ⟨w, _, rfl⟩ := List.mem_map.mp hv
    have h1 : 0 ≤ w % (Nat.lcm e e2 : Int) := Int.emod_nonneg _ (by omega)
    have h2 : w % (Nat.lcm e e2 : Int) < (Nat.lcm e e2 : Int) := Int.emod_lt_of_pos _ (by omega)
    omega
  walk_at "ww"
  refine w_exit rfl (q z (Cl.mono (hz.congr fun n hn => join_has (by omega) hl0 (fun n k hn => ?_) hn) (by omega) (by omega)))
  rw [C.step (Nat.dvd_lcm_left _ _) (by omega), D.step (Nat.dvd_lcm_right _ _) (by omega)]
theorem sub_ok {s1 d1 s2 d2 s d : Int} {x y : Dt} {A B : Int → Bool} {S : Xs} {Q : Dt → Xs → Prop} (X : Cl s1 d1 A x) (Y : Cl s2 d2 B y) (hc : Cln S) (b1 : s1 ≤ s) (b2 : s2 ≤ s) (b3 : d1 * d2 ≤ d) (b4 : s ≤ 30000) (b5 : d ≤ 30000) (q : ∀ z, Cl s d (fun n => A n && !B n) z → Q z S) : W (m_Calendar___sub__ [x, y] S) Q := by
  obtain ⟨few, st, e, rs, rfl, C, c1, c2⟩ := X
  obtain ⟨few2, st2, e2, rs2, rfl, D, c3, c4⟩ := Y
  have f1 := C.d1
  have f2 := D.d1
  have f3 := C.s1
  have hm : ((e * e2 : Nat) : Int) ≤ d := mul_bi f1 f2 c2 c4 b3
  have hl := lcm_le (a := e) (b := e2) f1 f2
  have hl0 : 0 < Nat.lcm e e2 := Nat.lcm_pos (by omega) (by omega)
  unfold m_Calendar___sub__ b_Calendar___sub__
  walk_at "fn"
  walk_at "ww"
  refine joined_ok (f := _) (.inr (.inr (.inl ⟨rfl, rfl⟩))) C D (by omega) (by omega) (by omega) fun t t1 t2 t3 => ?_
  walk_at "ww"
  have lF : (fnd (fun n => A n && !B n) t (Nat.lcm e e2)).length ≤ 80000 := by
    unfold fnd
    exact Nat.le_trans (List.length_filter_le _ _) (by rw [iseq_len]; omega)
  have l1 := List.length_filter_le (fun i => decide (i < t)) (fnd (fun n => A n && !B n) t (Nat.lcm e e2))
  have l2 := List.length_filter_le (fun i => decide (i ≥ t)) (fnd (fun n => A n && !B n) t (Nat.lcm e e2))
  refine mk_ok (.inl rfl) (.inl rfl) hc (by omega) (by omega) (by omega) (by omega) (Nat.le_trans l1 (by omega)) (by rw [List.length_map]; exact Nat.le_trans l2 (by omega)) (fun v hv => ?_) (fun v hv => ?_) fun z hz => ?_
  · obtain ⟨h1, h2⟩ := List.mem_filter.mp hv
    have := mem_iseq.mp (List.mem_filter.mp h1).1
    have := of_decide_eq_true h2
    omega
  · obtain ⟨w, _, rfl⟩ := List.mem_map.mp hv
    have h1 : 0 ≤ w % (Nat.lcm e e2 : Int) := Int.emod_nonneg _ (by omega)
    have h2 : w % (Nat.lcm e e2 : Int) < (Nat.lcm e e2 : Int) := Int.emod_lt_of_pos _ (by omega)
    omega
  walk_at "ww"
  refine w_exit rfl (q z (Cl.mono (hz.congr fun n hn => join_has (by omega) hl0 (fun n k hn => ?_) hn) (by omega) (by omega)))
  rw [C.step (Nat.dvd_lcm_left _ _) (by omega), D.step (Nat.dvd_lcm_right _ _) (by omega)]
theorem xor_ok {s1 d1 s2 d2 s d : Int} {x y : Dt} {A B : Int → Bool} {S : Xs} {Q : Dt → Xs → Prop} (X : Cl s1 d1 A x) (Y : Cl s2 d2 B y) (hc : Cln S) (b1 : s1 ≤ s) (b2 : s2 ≤ s) (b3 : d1 * d2 ≤ d) (b4 : s ≤ 30000) (b5 : d ≤ 30000) (q : ∀ z, Cl s d (fun n => A n != B n) z → Q z S) : W (m_Calendar___xor__ [x, y] S) Q := by
  obtain ⟨few, st, e, rs, rfl, C, c1, c2⟩ := X
  obtain ⟨few2, st2, e2, rs2, rfl, D, c3, c4⟩ := Y
  have f1 := C.d1
  have f2 := D.d1
  have f3 := C.s1
  have hm : ((e * e2 : Nat) : Int) ≤ d := mul_bi f1 f2 c2 c4 b3
  have hl := lcm_le (a := e) (b := e2) f1 f2
  have hl0 : 0 < Nat.lcm e e2 := Nat.lcm_pos (by omega) (by omega)
  unfold m_Calendar___xor__ b_Calendar___xor__
  walk_at "fn"
  walk_at "ww"
  refine joined_ok (f := _) (.inr (.inr (.inr ⟨rfl, rfl⟩))) C D (by omega) (by omega) (by omega) fun t t1 t2 t3 => ?_
  walk_at "ww"
  have lF : (fnd (fun n => A n != B n) t (Nat.lcm e e2)).length ≤ 80000 := by
    unfold fnd
    exact Nat.le_trans (List.length_filter_le _ _) (by rw [iseq_len]; omega)
  have l1 := List.length_filter_le (fun i => decide (i < t)) (fnd (fun n => A n != B n) t (Nat.lcm e e2))
  have l2 := List.length_filter_le (fun i => decide (i ≥ t)) (fnd (fun n => A n != B n) t (Nat.lcm e e2))
  refine mk_ok (.inl rfl) (.inl rfl) hc (by omega) (by omega) (by omega) (by omega) (Nat.le_trans l1 (by omega)) (by rw [List.length_map]; exact Nat.le_trans l2 (by omega)) (fun v hv => ?_) (fun v hv => ?_) fun z hz => ?_
  · obtain ⟨h1, h2⟩ := List.mem_filter.mp hv
    have := mem_iseq.mp (List.mem_filter.mp h1).1
    have := of_decide_eq_true h2
    omega
  · obtain ⟨w, _, rfl⟩ := List.mem_map.mp hv
    have h1 : 0 ≤ w % (Nat.lcm e e2 : Int) := Int.emod_nonneg _ (by omega)
    have h2 : w % (Nat.lcm e e2 : Int) < (Nat.lcm e e2 : Int) := Int.emod_lt_of_pos _ (by omega)
    omega
  walk_at "ww"
  refine w_exit rfl (q z (Cl.mono (hz.congr fun n hn => join_has (by omega) hl0 (fun n k hn => ?_) hn) (by omega) (by omega)))
  rw [C.step (Nat.dvd_lcm_left _ _) (by omega), D.step (Nat.dvd_lcm_right _ _) (by omega)]
theorem contains_ok {s1 d1 i : Int} {x : Dt} {A : Int → Bool} {S : Xs} {Q : Dt → Xs → Prop} (X : Cl s1 d1 A x) (hi : 1 ≤ i) (q : Q (.bl (A i)) S) : W (m_Calendar___contains__ [x, .int i] S) Q := by
  obtain ⟨few, st, d, rs, rfl, C, c1, c2⟩ := X
  unfold m_Calendar___contains__ b_Calendar___contains__
  walk_at "fn"
  walk_at "ww"
  refine is_integer_ok ?_
  walk_at "ww"
  refine ite_t (decide_eq_true (by omega)) ?_
  walk_at "ww"
  refine phas_ok C hi ?_
  walk_at "ww"
  exact w_exit rfl q
theorem oand {f : Dt → Dt → Xs → Res Dt} {s1 d1 s2 d2 s d : Int} {x y : Dt} {A B : Int → Bool} {S : Xs} {Q : Dt → Xs → Prop} (X : Cl s1 d1 A x) (Y : Cl s2 d2 B y) (hc : Cln S) (b1 : s1 ≤ s) (b2 : s2 ≤ s) (b3 : d1 * d2 ≤ d) (b4 : s ≤ 30000) (b5 : d ≤ 30000) (q : ∀ z, Cl s d (fun n => A n && B n) z → Q z S) : W (xOwnB [(0, m_Calendar___and__)] f x y S) Q := by
  obtain ⟨fs, i1⟩ := X.ins S
  obtain ⟨gs, i2⟩ := Y.ins S
  exact w_ownB i1 rfl i2 (and_ok X Y hc b1 b2 b3 b4 b5 q)
theorem oor {f : Dt → Dt → Xs → Res Dt} {s1 d1 s2 d2 s d : Int} {x y : Dt} {A B : Int → Bool} {S : Xs} {Q : Dt → Xs → Prop} (X : Cl s1 d1 A x) (Y : Cl s2 d2 B y) (hc : Cln S) (b1 : s1 ≤ s) (b2 : s2 ≤ s) (b3 : d1 * d2 ≤ d) (b4 : s ≤ 30000) (b5 : d ≤ 30000) (q : ∀ z, Cl s d (fun n => A n || B n) z → Q z S) : W (xOwnB [(0, m_Calendar___or__)] f x y S) Q := by
  obtain ⟨fs, i1⟩ := X.ins S
  obtain ⟨gs, i2⟩ := Y.ins S
  exact w_ownB i1 rfl i2 (or_ok X Y hc b1 b2 b3 b4 b5 q)
theorem osub {f : Dt → Dt → Xs → Res Dt} {s1 d1 s2 d2 s d : Int} {x y : Dt} {A B : Int → Bool} {S : Xs} {Q : Dt → Xs → Prop} (X : Cl s1 d1 A x) (Y : Cl s2 d2 B y) (hc : Cln S) (b1 : s1 ≤ s) (b2 : s2 ≤ s) (b3 : d1 * d2 ≤ d) (b4 : s ≤ 30000) (b5 : d ≤ 30000) (q : ∀ z, Cl s d (fun n => A n && !B n) z → Q z S) : W (xOwnB [(0, m_Calendar___sub__)] f x y S) Q := by
  obtain ⟨fs, i1⟩ := X.ins S
  obtain ⟨gs, i2⟩ := Y.ins S
  exact w_ownB i1 rfl i2 (sub_ok X Y hc b1 b2 b3 b4 b5 q)
theorem oxor {f : Dt → Dt → Xs → Res Dt} {s1 d1 s2 d2 s d : Int} {x y : Dt} {A B : Int → Bool} {S : Xs} {Q : Dt → Xs → Prop} (X : Cl s1 d1 A x) (Y : Cl s2 d2 B y) (hc : Cln S) (b1 : s1 ≤ s) (b2 : s2 ≤ s) (b3 : d1 * d2 ≤ d) (b4 : s ≤ 30000) (b5 : d ≤ 30000) (q : ∀ z, Cl s d (fun n => A n != B n) z → Q z S) : W (xOwnB [(0, m_Calendar___xor__)] f x y S) Q := by
  obtain ⟨fs, i1⟩ := X.ins S
  obtain ⟨gs, i2⟩ := Y.ins S
  exact w_ownB i1 rfl i2 (xor_ok X Y hc b1 b2 b3 b4 b5 q)
theorem oinv {f : Dt → Xs → Res Dt} {s1 d1 : Int} {x : Dt} {A : Int → Bool} {S : Xs} {Q : Dt → Xs → Prop} (X : Cl s1 d1 A x) (hc : Cln S) (b1 : s1 ≤ 30000) (b2 : d1 ≤ 30000) (q : ∀ y, Cl s1 d1 (fun n => !A n) y → Q y S) : W (xOwnU [(0, m_Calendar___invert__)] f x S) Q := by
  obtain ⟨fs, i1⟩ := X.ins S
  exact w_ownU i1 rfl (inv_ok X hc b1 b2 q)
theorem oeq {f : Dt → Dt → Xs → Res Dt} {s1 d1 s2 d2 : Int} {x y : Dt} {A B : Int → Bool} {S : Xs} {Q : Dt → Xs → Prop} (X : Cl s1 d1 A x) (Y : Cl s2 d2 B y) (b1 : s1 ≤ 30000) (b2 : s2 ≤ 30000) (b3 : d1 ≤ 30000) (b4 : d2 ≤ 30000) (q : ∀ b : Bool, (b = true ↔ Same A B) → Q (.bl b) S) : W (xOwn 1 [(0, m_Calendar___eq__)] f x y S) Q := by
  obtain ⟨fs, i1⟩ := X.ins S
  exact w_own i1 rfl (Y.ty S) (eq_ok X Y b1 b2 b3 b4 q)
theorem one {f : Dt → Dt → Xs → Res Dt} {s1 d1 s2 d2 : Int} {x y : Dt} {A B : Int → Bool} {S : Xs} {Q : Dt → Xs → Prop} (X : Cl s1 d1 A x) (Y : Cl s2 d2 B y) (b1 : s1 ≤ 30000) (b2 : s2 ≤ 30000) (b3 : d1 ≤ 30000) (b4 : d2 ≤ 30000) (q : ∀ b : Bool, (b = true ↔ Same A B) → Q (.bl (!b)) S) : W (xOwnNe 1 [(0, m_Calendar___eq__)] f x y S) Q := by
  obtain ⟨fs, i1⟩ := X.ins S
  exact w_ownNe i1 rfl (Y.ty S) (eq_ok X Y b1 b2 b3 b4 fun b hb => ⟨_, rfl, q b hb⟩)
end K36

set_option Elab.async false
set_option linter.all false
set_option maxRecDepth 100000
set_option maxHeartbeats 1000000
namespace K36
open PySem RX RY
local macro_rules | `(tactic| walk_at "w") => `(tactic| first
  | with_reducible refine w_op ?_ | ((with_reducible apply w_var); exact rfl) | with_reducible refine w_c ?_ | with_reducible refine w_b ?_ | with_reducible refine bq ?_
  | with_reducible refine w_cb ?_ | with_reducible refine w_cons ?_ | with_reducible refine w_nil ?_ | with_reducible refine w_call ?_
  | with_reducible refine w_seq ?_ | with_reducible refine sq_nx ?_ | with_reducible refine sq_rt ?_ | with_reducible refine w_sif ?_ | with_reducible refine w_asg ?_ | ((with_reducible refine w_gN ?_); try dsimp only [List.set])
  | with_reducible refine w_ret ?_ | with_reducible refine w_next ?_ | (with_reducible refine w_tup ?_) | (with_reducible refine w_lst ?_) | with_reducible refine w_if ?_ | with_reducible refine w_and ?_ | with_reducible refine w_or ?_ | with_reducible refine w_not ?_
  | with_reducible refine w_yes ?_ | with_reducible refine w_andV ?_ | with_reducible refine w_orV ?_ | with_reducible refine w_notV ?_ | with_reducible refine w_chain ?_
  | ((with_reducible apply w_ixC); assumption; exact rfl) | ((with_reducible apply w_ixL); exact rfl) | ((with_reducible apply w_ixT); exact rfl)
  | ((with_reducible refine w_mulB ?_ ?_ ?_ ?_ ?_); omega; omega; omega; omega)
  | ((with_reducible refine w_mod ?_ ?_); (first | assumption | omega | decide)) | ((with_reducible refine w_div ?_ ?_ ?_); (first | assumption | omega | decide); (first | assumption | decide))
  | (with_reducible refine fin_rt ?_) | (with_reducible refine fin_nx ?_) | (with_reducible refine finK_rt ?_) | (with_reducible refine finK_nx ?_) | (with_reducible refine w_gsCons ?_) | (with_reducible refine w_gsNil ?_) | (with_reducible refine w_gTp rfl ?_) | (with_reducible refine w_gSb ?_)
  | (with_reducible refine w_un ?_) | (with_reducible refine w_drop ?_) | (with_reducible refine w_for ?_) | (with_reducible refine w_star ?_) | (with_reducible refine w_sl ?_) | (with_reducible refine w_oNone ?_) | (with_reducible refine w_oSome ?_)
  | (with_reducible refine w_slL ?_) | (with_reducible refine w_slT ?_) | (with_reducible refine w_fld ?_) | (with_reducible refine w_prop ?_) | (with_reducible refine w_mk ?_) | (with_reducible refine w_mkC ?_) | (with_reducible refine w_meth ?_) | (with_reducible refine w_gFl ?_) | (with_reducible refine w_sFl ?_)
  | (with_reducible refine ite_t rfl ?_) | (with_reducible refine ite_f rfl ?_) | (with_reducible refine fq_nx ?_) | (with_reducible refine fq_rt ?_) | (with_reducible refine fq_ct ?_) | (with_reducible refine fq_bk ?_) | (with_reducible refine sq_ct ?_) | (with_reducible refine sq_bk ?_) | (with_reducible refine w_cont ?_) | (with_reducible refine w_break ?_)
  | ((with_reducible show W (xIsiN _ _ _) _); (first | refine w_eq (a := .bl true) rfl ?_ | refine w_eq (a := .bl false) rfl ?_))
  | ((with_reducible first | show W (xAdd _ _ _) _ | show W (xSub _ _ _) _ | show W (xLt _ _ _) _ | show W (xLe _ _ _) _ | show W (xGt _ _ _) _ | show W (xGe _ _ _) _ | show W (xAnd _ _ _) _ | show W (xOr _ _ _) _ | show W (xXor _ _ _) _ | show W (xEq _ _ _) _ | show W (xNe _ _ _) _ | show W (xLen _ _) _ | show W (xAbs _ _) _ | show W (xInt _ _) _ | show W (xIntX _ _) _ | show W (xMax _ _) _ | show W (xMin _ _) _ | show W (xTuple _ _) _ | show W (xList _ _) _ | show W (xListC _ _) _ | show W (xIs _ _ _ _) _); refine w_eq rfl ?_)
  | ((with_reducible show W (xPow _ _ _) _); refine w_eq rfl ?_))
local macro_rules | `(tactic| walk_at "ww") => `(tactic| repeat walk_at "w")
local macro_rules | `(tactic| walk_at "fn") => `(tactic| (first | refine w_fnX rfl ?_ | refine w_fnK rfl ?_); simp only [startX, List.map_cons, List.map_nil, List.length_cons, List.length_nil, List.cons_append, List.nil_append, Nat.reduceAdd, Nat.reduceSub, List.reduceReplicate])
local macro_rules | `(tactic| walk_at "v") => `(tactic| first
  | with_reducible refine w_op ?_ | ((with_reducible apply w_var); exact rfl) | with_reducible refine w_c ?_ | with_reducible refine w_b ?_ | with_reducible refine bq ?_
  | with_reducible refine w_cb ?_ | with_reducible refine w_cons ?_ | with_reducible refine w_nil ?_ | with_reducible refine w_call ?_
  | with_reducible refine w_seq ?_ | with_reducible refine sq_nx ?_ | with_reducible refine sq_rt ?_ | with_reducible refine w_asg ?_ | ((with_reducible refine w_gN ?_); try dsimp only [List.set])
  | with_reducible refine w_ret ?_ | with_reducible refine w_next ?_ | (with_reducible refine w_tup ?_) | (with_reducible refine w_lst ?_) | with_reducible refine w_and ?_ | with_reducible refine w_or ?_ | with_reducible refine w_not ?_
  | with_reducible refine w_yes ?_ | with_reducible refine w_andV ?_ | with_reducible refine w_orV ?_ | with_reducible refine w_notV ?_ | with_reducible refine w_chain ?_
  | ((with_reducible apply w_ixC); assumption; exact rfl) | ((with_reducible apply w_ixL); exact rfl) | ((with_reducible apply w_ixT); exact rfl)
  | ((with_reducible refine w_mulB ?_ ?_ ?_ ?_ ?_); omega; omega; omega; omega)
  | ((with_reducible refine w_mod ?_ ?_); (first | assumption | omega | decide)) | ((with_reducible refine w_div ?_ ?_ ?_); (first | assumption | omega | decide); (first | assumption | decide))
  | (with_reducible refine fin_rt ?_) | (with_reducible refine fin_nx ?_) | (with_reducible refine finK_rt ?_) | (with_reducible refine finK_nx ?_) | (with_reducible refine w_gsCons ?_) | (with_reducible refine w_gsNil ?_) | (with_reducible refine w_gTp rfl ?_) | (with_reducible refine w_gSb ?_)
  | (with_reducible refine w_un ?_) | (with_reducible refine w_drop ?_) | (with_reducible refine w_for ?_) | (with_reducible refine w_star ?_) | (with_reducible refine w_sl ?_) | (with_reducible refine w_oNone ?_) | (with_reducible refine w_oSome ?_)
  | (with_reducible refine w_slL ?_) | (with_reducible refine w_slT ?_) | (with_reducible refine w_fld ?_) | (with_reducible refine w_prop ?_) | (with_reducible refine w_mk ?_) | (with_reducible refine w_mkC ?_) | (with_reducible refine w_meth ?_) | (with_reducible refine w_gFl ?_) | (with_reducible refine w_sFl ?_)
  | (with_reducible refine ite_t rfl ?_) | (with_reducible refine ite_f rfl ?_) | (with_reducible refine fq_nx ?_) | (with_reducible refine fq_rt ?_) | (with_reducible refine fq_ct ?_) | (with_reducible refine fq_bk ?_) | (with_reducible refine sq_ct ?_) | (with_reducible refine sq_bk ?_) | (with_reducible refine w_cont ?_) | (with_reducible refine w_break ?_)
  | ((with_reducible show W (xIsiN _ _ _) _); (first | refine w_eq (a := .bl true) rfl ?_ | refine w_eq (a := .bl false) rfl ?_))
  | ((with_reducible first | show W (xAdd _ _ _) _ | show W (xSub _ _ _) _ | show W (xLt _ _ _) _ | show W (xLe _ _ _) _ | show W (xGt _ _ _) _ | show W (xGe _ _ _) _ | show W (xAnd _ _ _) _ | show W (xOr _ _ _) _ | show W (xXor _ _ _) _ | show W (xEq _ _ _) _ | show W (xNe _ _ _) _ | show W (xLen _ _) _ | show W (xAbs _ _) _ | show W (xInt _ _) _ | show W (xIntX _ _) _ | show W (xMax _ _) _ | show W (xMin _ _) _ | show W (xTuple _ _) _ | show W (xList _ _) _ | show W (xListC _ _) _ | show W (xIs _ _ _ _) _); refine w_eq rfl ?_)
  | ((with_reducible show W (xPow _ _ _) _); refine w_eq rfl ?_))
local macro_rules | `(tactic| walk_at "vv") => `(tactic| repeat walk_at "v")
theorem is_least_ok {few rs : List Int} {st : Int} {d : Nat} {A : Int → Bool} {S : Xs} {Q : Dt → Xs → Prop} (C : Can A few st d rs) (b1 : st ≤ 30000) (b2 : d ≤ 30000) (q : Q (.bl true) S) : W (m_L_is_least [calObj few st d rs] S) Q := by
  have d1 := C.d1
  have s1 := C.s1
  have hl := C.len
  have hX : Cl st d A (calObj few st d rs) := ⟨few, st, d, rs, rfl, C, Int.le_refl _, Int.le_refl _⟩
  unfold m_L_is_least b_L_is_least
  walk_at "fn"
  walk_at "ww"
  refine w_rng2 ?_
  walk_at "ww"
  refine ⟨_, _, _, rfl, rfl, rfl, ?_⟩
  walk_at "ww"
  refine ⟨1, d, rfl, by decide, by decide, by omega, by omega, ?_⟩
  refine for_inv (I := fun i G S' => S' = S ∧ ∃ o1 o2, G = [some (calObj few st d rs), o1, o2, none, none, none]) _ 0 ⟨rfl, _, _, rfl⟩ ?_ ?_
  · rintro i x G S' hx ⟨rfl, o1, o2, rfl⟩
    obtain ⟨hi, rfl⟩ := range_get hx
    have eI : (1 : Int) + (i : Int) = ((i + 1 : Nat) : Int) := by push_cast; omega
    rw [eI]
    walk_at "ww"
    refine ⟨_, _, _, rfl, rfl, rfl, ?_⟩
    walk_at "ww"
    refine iteI (fun hm => ?_) (fun hm => ?_)
    · have hm : d % (i + 1) = 0 := by have := of_decide_eq_true hm; rw [← Int.natCast_emod] at this; omega
      walk_at "ww"
      refine w_lc (p := fun x => match x with | .int r => decide (r % ((i + 1 : Nat) : Int) ∈ rs.map (· % ((i + 1 : Nat) : Int))) | _ => false) (f := id) (w_rng1 ?_)
      walk_at "ww"
      refine ⟨_, _, _, rfl, rfl, rfl, ?_⟩
      walk_at "ww"
      refine ⟨d, rfl, by omega, by omega, by rw [range_len]; omega, fun x hx => ?_, ?_⟩
      · obtain ⟨j, hj, rfl⟩ := range_mem hx
        walk_at "ww"
        refine ⟨rfl, ?_⟩
        walk_at "ww"
        refine w_lc (p := fun _ => true) (f := fun x => match x with | .int r => .int (r % ((i + 1 : Nat) : Int)) | _ => .non) (w_any ?_)
        walk_at "ww"
        refine ⟨_, _, _, rfl, rfl, rfl, ?_⟩
        refine ⟨_, rfl, (fun z h => nomatch h), by rw [List.length_map]; omega, fun x hx => ?_, ?_⟩
        · obtain ⟨r, hr, rfl⟩ := List.mem_map.mp hx
          walk_at "ww"
          refine ⟨rfl, ?_⟩
          walk_at "ww"
          refine ⟨rfl, rfl, fun _ => ?_⟩
          walk_at "ww"
          exact ⟨rfl, rfl⟩
        · rw [List.filter_eq_self.mpr (fun _ _ => rfl), List.map_map]
          refine w_ownInN rfl (w_in (is := rs.map (· % ((i + 1 : Nat) : Int))) (.inl ?_) ?_)
          · rw [List.map_map]; rfl
          walk_at "ww"
          refine ⟨rfl, rfl, fun _ => ?_⟩
          walk_at "ww"
          exact ⟨rfl, rfl⟩
      rw [List.map_id, range_iseq, filter_int (p := fun r => decide (r % ((i + 1 : Nat) : Int) ∈ rs.map (· % ((i + 1 : Nat) : Int)))) (fun _ => rfl)]
      walk_at "ww"
      refine ⟨_, _, _, rfl, rfl, rfl, ?_⟩
      walk_at "ww"
      refine w_eqLI ?_
      rw [Int.toNat_natCast, decide_eq_false (C.no_shorter (e := i + 1) (by omega) (by omega) hm)]
      walk_at "ww"
      exact ⟨rfl, _, _, rfl⟩
    · walk_at "ww"
      exact ⟨rfl, _, _, rfl⟩
  · rintro G S' ⟨rfl, o1, o2, rfl⟩
    walk_at "ww"
    refine ⟨_, _, _, rfl, rfl, rfl, ?_⟩
    walk_at "ww"
    refine iteI (fun h => ?_) (fun h => ?_)
    · have h := of_decide_eq_true h
      walk_at "ww"
      refine ⟨_, _, _, rfl, rfl, rfl, ?_⟩
      walk_at "ww"
      refine ⟨_, _, _, rfl, rfl, rfl, w_ownInN rfl (w_in (.inr rfl) ?_)⟩
      walk_at "ww"
      refine ⟨_, _, _, rfl, rfl, rfl, w_mod (by omega) ?_⟩
      walk_at "ww"
      refine ⟨_, _, _, rfl, rfl, rfl, w_ownInN rfl (w_in (.inr rfl) (w_eqBB ?_))⟩
      have hne : decide (st - 1 ∈ few) ≠ decide ((st - 1) % (d : Int) ∈ rs) := by
        rcases C.ne with e | e
        · omega
        · have := C.has (n := st - 1) (by omega)
          rw [hasR1 (by omega), if_pos (by omega)] at this
          rw [← this]
          exact e
      rw [beq_eq_false_iff_ne.mpr hne]
      walk_at "ww"
      refine ⟨_, _, _, rfl, rfl, rfl, ?_⟩
      walk_at "ww"
      refine w_lc (p := fun x => match x with | .int r => A r | _ => false) (f := id) (w_rng2 ?_)
      walk_at "ww"
      refine ⟨_, _, _, rfl, rfl, rfl, ?_⟩
      walk_at "ww"
      refine ⟨1, st, rfl, by decide, by decide, by omega, by omega, by rw [range_len]; omega, fun x hx => ?_, ?_⟩
      · obtain ⟨j, hj, rfl⟩ := range_mem hx
        walk_at "ww"
        refine ⟨rfl, ?_⟩
        walk_at "ww"
        refine w_ownIn rfl rfl (contains_ok hX (by omega) ⟨_, rfl, ?_⟩)
        walk_at "ww"
        refine ⟨by simp, rfl, fun _ => ?_⟩
        walk_at "ww"
        exact ⟨rfl, rfl⟩
      rw [List.map_id, range_iseq, filter_int (p := A) (fun _ => rfl), ← C.fq]
      refine w_eqLI ?_
      rw [decide_eq_true rfl]
      walk_at "ww"
      exact w_exit rfl q
    · walk_at "ww"
      refine ⟨_, _, _, rfl, rfl, rfl, ?_⟩
      walk_at "ww"
      refine w_lc (p := fun x => match x with | .int r => A r | _ => false) (f := id) (w_rng2 ?_)
      walk_at "ww"
      refine ⟨_, _, _, rfl, rfl, rfl, ?_⟩
      walk_at "ww"
      refine ⟨1, st, rfl, by decide, by decide, by omega, by omega, by rw [range_len]; omega, fun x hx => ?_, ?_⟩
      · obtain ⟨j, hj, rfl⟩ := range_mem hx
        walk_at "ww"
        refine ⟨rfl, ?_⟩
        walk_at "ww"
        refine w_ownIn rfl rfl (contains_ok hX (by omega) ⟨_, rfl, ?_⟩)
        walk_at "ww"
        refine ⟨by simp, rfl, fun _ => ?_⟩
        walk_at "ww"
        exact ⟨rfl, rfl⟩
      rw [List.map_id, range_iseq, filter_int (p := A) (fun _ => rfl), ← C.fq]
      refine w_eqLI ?_
      rw [decide_eq_true rfl]
      walk_at "ww"
      exact w_exit rfl q

theorem cis_least_ok {s1 d1 : Int} {x : Dt} {A : Int → Bool} {S : Xs} {Q : Dt → Xs → Prop} (X : Cl s1 d1 A x) (b1 : s1 ≤ 30000) (b2 : d1 ≤ 30000) (q : Q (.bl true) S) : W (m_L_is_least [x] S) Q := by
  obtain ⟨few, st, d, rs, rfl, C, c1, c2⟩ := X
  exact is_least_ok C (by omega) (by omega) q
theorem core : ∀ ns : List Int, ns.length ≤ 63 → ∃ S, m_law [.frz ns] [] = .ok (.bl true) S := by
  intro ns hl
  suffices h : W (m_law [.frz ns] []) fun x _ => x = .bl true by
    obtain ⟨x, S, e, hx⟩ := h
    exact ⟨S, by rw [e, hx]⟩
  unfold m_law b_law
  walk_at "fn"
  walk_at "ww"
  refine w_rng1 ?_
  walk_at "ww"
  rw [List.length_map]
  generalize hM : (if (if (ns.length : Int) < 5 then (ns.length : Int) else 5) > 1 then (if (ns.length : Int) < 5 then (ns.length : Int) else 5) else 1) = M
  have hM1 : 1 ≤ M := by rw [← hM]; split <;> omega
  have hM2 : M ≤ 5 := by rw [← hM]; split <;> (try split) <;> omega
  refine ⟨M, rfl, by omega, by omega, ?_⟩
  refine for_inv (I := fun i G S' => Cln S' ∧ ∃ o1 o2 o3 o4 o5 o6 o7 o8 o9 o10 o11 o12 o13, G = [some (.frz ns), o1, o2, o3, o4, o5, o6, o7, o8, o9, o10, o11, o12, o13, none, none, none]) _ 0 ⟨cln_nil, _, _, _, _, _, _, _, _, _, _, _, _, _, rfl⟩ ?_ ?_
  · rintro i x G T hx ⟨hT, o1, o2, o3, o4, o5, o6, o7, o8, o9, o10, o11, o12, o13, rfl⟩
    obtain ⟨hi, rfl⟩ := range_get hx
    walk_at "ww"
    refine box_ok (by omega) (by omega) hl fun c hB => ?_
    walk_at "ww"
    refine w_rng1 ?_
    walk_at "ww"
    refine ⟨5, rfl, by decide, by decide, ?_⟩
    refine for_inv (I := fun j G S' => Cln S' ∧ ∃ c o3 o4 o5 o6 o7 o8 o9 o10 o11 o12 o13, S'[T.length]? = some c ∧ Bx (60000 * j) c ∧ G = [some (.frz ns), some (.int (0 + (i : Int))), some (.loc T.length), o3, o4, o5, o6, o7, o8, o9, o10, o11, o12, o13, none, none, none]) _ 0 ⟨cln_push hT hB.cln, c, _, _, _, _, _, _, _, _, _, _, _, get_last, hB, rfl⟩ ?_ ?_
    · rintro j x G S hx ⟨hC, c, o3, o4, o5, o6, o7, o8, o9, o10, o11, o12, o13, hS, hB, rfl⟩
      obtain ⟨hj, rfl⟩ := range_get hx
      have hj5 : j < 5 := hj
      walk_at "ww"
      refine raw_ok hS hB (by decide) (by decide) (by decide) (by decide) (by omega) fun few st p rs c1 R hB1 => ?_
      walk_at "ww"
      refine raw_ok (get_set hS) hB1 (by decide) (by decide) (by decide) (by decide) (by omega) fun few2 st2 p2 rs2 c2 R2 hB2 => ?_
      rw [List.set_set]
      walk_at "ww"
      refine ⟨by simp, ?_⟩
      have hC2 : Cln (S.set T.length c2) := cln_set hC hB2.cln
      have hS2 : (S.set T.length c2)[T.length]? = some c2 := get_set hS
      generalize S.set T.length c2 = S2 at hC2 hS2 ⊢
      clear hB1 hB hS hC
      walk_at "ww"
      refine w_par ?_
      walk_at "ww"
      obtain ⟨s1, s2, p1, p2', bf, br, lf, lr⟩ := R
      obtain ⟨t1, t2, q1, q2, cf, cr, kf, kr⟩ := R2
      refine calof_ok (.inl rfl) (.inl rfl) hC2 s1 (by omega) p1 (by omega) (by omega) (by omega) bf br fun x hx => ?_
      walk_at "ww"
      refine calof_ok (.inl rfl) (.inl rfl) hC2 t1 (by omega) q1 (by omega) (by omega) (by omega) cf cr fun y hy => ?_
      walk_at "ww"
      refine ⟨_, _, rfl, ?_⟩
      walk_at "ww"
      refine w_par ?_
      walk_at "ww"
      refine (take_ok hS2 hB2 (by decide) (by decide) (by omega)).mono ?_
      rintro _ S3 ⟨r1, c3, rfl, r10, r11, rfl, hB3⟩
      walk_at "ww"
      refine (take_ok (get_set hS2) hB3 (by decide) (by decide) (by omega)).mono ?_
      rintro _ S3 ⟨r2, c4, rfl, r20, r21, rfl, hB4⟩
      rw [List.set_set]
      walk_at "ww"
      refine ⟨_, _, rfl, ?_⟩
      have hC3 : Cln (S2.set T.length c4) := cln_set hC2 hB4.cln
      have hS3 : (S2.set T.length c4)[T.length]? = some c4 := get_set hS2
      generalize S2.set T.length c4 = S3 at hC3 hS3 ⊢
      clear hB2 hB3 hS2 hC2
      walk_at "ww"
      have hA : hasR few st p rs = hasR few st p rs := rfl
      refine w_lc (p := fun x => match x with | .int r => hasR few st p rs r | _ => false) (f := id) (w_rng2 ?_)
      walk_at "ww"
      refine ⟨1, st + r1, rfl, by decide, by decide, by omega, by omega, by rw [range_len]; omega, fun x hx => ?_, ?_⟩
      · obtain ⟨m, hm, rfl⟩ := range_mem hx
        walk_at "ww"
        refine ⟨rfl, ?_⟩
        walk_at "ww"
        refine has_ok (.inl rfl) (.inl rfl) p1 ?_
        walk_at "ww"
        refine ⟨rfl, rfl, fun _ => ?_⟩
        walk_at "ww"
        exact ⟨rfl, rfl⟩
      rw [List.map_id, range_iseq, filter_int (p := hasR few st p rs) (fun _ => rfl)]
      walk_at "ww"
      have hpp : p * (1 + r2) ≤ p * 3 := Int.mul_le_mul_of_nonneg_left (by omega) (by omega)
      have hpp0 : p * 1 ≤ p * (1 + r2) := Int.mul_le_mul_of_nonneg_left (by omega) (by omega)
      refine w_lc (p := fun x => match x with | .int r => decide (r % p ∈ rs) | _ => false) (f := id) (w_rng1 ?_)
      walk_at "ww"
      refine ⟨p * (1 + r2), rfl, by omega, by omega, by rw [range_len]; omega, fun x hx => ?_, ?_⟩
      · obtain ⟨m, hm, rfl⟩ := range_mem hx
        walk_at "ww"
        refine ⟨rfl, ?_⟩
        walk_at "ww"
        refine w_in (.inl rfl) ?_
        walk_at "ww"
        refine ⟨rfl, rfl, fun _ => ?_⟩
        walk_at "ww"
        exact ⟨rfl, rfl⟩
      rw [List.map_id, range_iseq, filter_int (p := fun r => decide (r % p ∈ rs)) (fun _ => rfl)]
      walk_at "ww"
      have l1 := List.length_filter_le (hasR few st p rs) (iseq 1 (st + r1 - 1).toNat)
      have l2 := List.length_filter_le (fun r => decide (r % p ∈ rs)) (iseq 0 (p * (1 + r2)).toNat)
      rw [iseq_len] at l1 l2
      refine mk_ok (.inl rfl) (.inl rfl) hC3 (by omega) (by omega) (by omega) (by omega) (by omega) (by omega) (fun v hv => ?_) (fun v hv => ?_) fun z hz => ?_
      · have := mem_iseq.mp (List.mem_filter.mp hv).1
        omega
      · have := mem_iseq.mp (List.mem_filter.mp hv).1
        omega
      walk_at "ww"
      have hz := hz.congr fun n hn => told_same s1 (by omega) p1 (by omega) hn
      have hx : Cl 12 6 _ x := hx.mono s2 p2'
      have hy : Cl 12 6 _ y := hy.mono t2 q2
      have hz : Cl 16 18 _ z := hz.mono (by omega) (by omega)
      generalize hasR few st p rs = A at *
      generalize hasR few2 st2 p2 rs2 = B at *
      obtain ⟨fz, sz, dz, rz, rfl, Cz, z1, z2⟩ := id hz
      obtain ⟨f', s', d', r', rfl, Cx, z3, z4⟩ := id hx
      obtain ⟨rfl, rfl, rfl, rfl⟩ := Cz.uniq Cx fun n hn => rfl
      refine one hz hx (by decide) (by decide) (by decide) (by decide) fun b hb => ?_
      rw [hb.mpr fun n hn => rfl]
      clear hb b
      walk_at "ww"
      refine w_strO rfl rfl (str_ok Cx (by omega) (by omega) ⟨_, rfl, ?_⟩)
      walk_at "ww"
      refine w_strO rfl rfl (str_ok Cx (by omega) (by omega) ⟨_, rfl, w_ownNeN rfl (w_neSS ?_)⟩)
      walk_at "ww"
      refine ⟨_, _, _, rfl, rfl, rfl, ?_⟩
      walk_at "ww"
      refine ⟨_, _, _, rfl, rfl, rfl, ?_⟩
      walk_at "ww"
      refine ⟨by simp, ?_⟩
      walk_at "ww"
      refine ⟨_, _, _, rfl, rfl, rfl, ?_⟩
      walk_at "ww"
      refine ⟨_, _, _, rfl, rfl, rfl, ?_⟩
      walk_at "ww"
      refine ⟨by simp, w_ownNeN rfl (ne_t2 ?_)⟩
      rw [decide_eq_true rfl, decide_eq_true rfl]
      walk_at "ww"
      refine oinv hx hC3 (by decide) (by decide) fun v1 h1 => ?_
      walk_at "ww"
      refine oand hx hy hC3 (s := 12) (d := 36) (by decide) (by decide) (by decide) (by decide) (by decide) fun v2 h2 => ?_
      walk_at "ww"
      refine oor hx hy hC3 (s := 12) (d := 36) (by decide) (by decide) (by decide) (by decide) (by decide) fun v3 h3 => ?_
      walk_at "ww"
      refine osub hx hy hC3 (s := 12) (d := 36) (by decide) (by decide) (by decide) (by decide) (by decide) fun v4 h4 => ?_
      walk_at "ww"
      refine oxor hx hy hC3 (s := 12) (d := 36) (by decide) (by decide) (by decide) (by decide) (by decide) fun v5 h5 => ?_
      walk_at "ww"
      refine ⟨by simp, ?_⟩
      walk_at "ww"
      have hall : ∀ u ∈ [calObj fz sz dz rz, y, v1, v2, v3, v4, v5], ∃ A, Cl 12 36 A u := fun u hu => by
        simp only [List.mem_cons, List.not_mem_nil, or_false] at hu
        rcases hu with rfl | rfl | rfl | rfl | rfl | rfl | rfl
        · exact ⟨_, hx.mono (by decide) (by decide)⟩
        · exact ⟨_, hy.mono (by decide) (by decide)⟩
        · exact ⟨_, h1.mono (by decide) (by decide)⟩
        · exact ⟨_, h2⟩
        · exact ⟨_, h3⟩
        · exact ⟨_, h4⟩
        · exact ⟨_, h5⟩
      refine w_lc (p := fun _ => false) (f := id) (w_any ?_)
      walk_at "ww"
      refine ⟨_, rfl, (fun z h => nomatch h), by simp, fun u hu => ?_, ?_⟩
      · obtain ⟨A, hA⟩ := hall u hu
        walk_at "ww"
        refine ⟨rfl, ?_⟩
        walk_at "ww"
        refine cis_least_ok hA (by decide) (by decide) ?_
        walk_at "ww"
        exact ⟨rfl, rfl, (fun h => nomatch h)⟩
      have e0 : ∀ l : List Dt, (l.filter fun _ => false) = [] := fun l => by simp
      rw [e0]
      walk_at "ww"
      refine ⟨by decide, w_ownNeN rfl (w_neLI (is := []) (js := []) ?_)⟩
      walk_at "ww"
      obtain ⟨f', s', d', r', rfl, Cy, z5, z6⟩ := id hy
      refine oeq hx hy (by decide) (by decide) (by decide) (by decide) fun u hu => ?_
      walk_at "ww"
      refine w_strO rfl rfl (str_ok Cx (by omega) (by omega) ⟨_, rfl, ?_⟩)
      walk_at "ww"
      refine w_strO rfl rfl (str_ok Cy (by omega) (by omega) ⟨_, rfl, w_ownN rfl (w_eqSS (w_ownNeN rfl (w_neBB ?_)))⟩)
      rw [le_b hu (b := decide _) (by rw [decide_eq_true_iff]; exact Cx.text Cy (by omega) (by omega) (by omega) (by omega)), bne_self_eq_false]
      clear hu u
      walk_at "ww"
      refine oeq hx hy (by decide) (by decide) (by decide) (by decide) fun u hu => ?_
      walk_at "ww"
      refine oxor hx hy hC3 (s := 12) (d := 36) (by decide) (by decide) (by decide) (by decide) (by decide) fun w hw => ?_
      walk_at "ww"
      refine mk_ok (few := []) (rs := []) (.inr rfl) (.inr rfl) hC3 (by decide) (by decide) (by decide) (by decide) (by decide) (by decide) (fun v hv => nomatch hv) (fun v hv => nomatch hv) fun e he => ?_
      refine oeq hw he (by decide) (by decide) (by decide) (by decide) fun v hv => ?_
      refine w_ownNeN rfl (w_neBB ?_)
      rw [le_b hu (hv.trans xor_same), bne_self_eq_false]
      walk_at "ww"
      exact ⟨hC3, c4, _, _, _, _, _, _, _, _, _, _, _, hS3, hB4.mono (by omega), rfl⟩
    · rintro G S' ⟨hC, c, o3, o4, o5, o6, o7, o8, o9, o10, o11, o12, o13, hS, hB, rfl⟩
      walk_at "ww"
      exact ⟨hC, _, _, _, _, _, _, _, _, _, _, _, _, _, rfl⟩
  · rintro G S' ⟨hS, o1, o2, o3, o4, o5, o6, o7, o8, o9, o10, o11, o12, o13, rfl⟩
    walk_at "ww"
    exact w_exitD (S := []) (T := S') (p := .bool true) rfl (Nat.succ_pos _) cln_nil rfl

end K36

set_option Elab.async false
set_option linter.all false
set_option maxRecDepth 100000
set_option maxHeartbeats 4000000
namespace K36
open PySem PySem.Spec PyProof.Rows L2 RS RX
def relabelS (scope sc : Scope) : Scope := { scope with names := scope.names.map fun (n, k) => if (k == .free && sc.kind == .function && sc.names.lookup n == some .cell) then (n, .cell) else (n, k) }
theorem blkN {N : List Str} {sc0 scope' scope : Scope} {own : List (Str × Nat)} {env : Env} (he : env.scope = sc0) (h : blkC N (relabelS scope' sc0) scope own = true) : BlkOk N (relabel scope' env) scope own := by
  subst he
  exact blkOk_by h
def top (i : Nat) : Stmt := PySem.Challenge.pw_ringsums_k36_whole_least_forms.main.body.getD i (.Pass ⟨0, 0, 0, 0⟩)
abbrev s_L_box : Stmt := top 21
abbrev N_L_box : List Str := ["_law_script", "_law_k", "_law_cell", "_law_seed", "_law_wide"]
abbrev p_L_box : List Str := ["_law_script", "_law_k"]
theorem sc_L_box : FnScope N_L_box p_L_box (defScope s_L_box) := ⟨rfl, rfl, rfl, by decide +kernel, rfl, by decide +kernel, by decide +kernel⟩
abbrev s_L_take : Stmt := top 22
abbrev N_L_take : List Str := ["_law_box_here", "_law_many", "_law_digit", "_law_near"]
abbrev p_L_take : List Str := ["_law_box_here", "_law_many"]
theorem sc_L_take : FnScope N_L_take p_L_take (defScope s_L_take) := ⟨rfl, rfl, rfl, by decide +kernel, rfl, by decide +kernel, by decide +kernel⟩
abbrev s_L_pick : Stmt := top 23
abbrev N_L_pick : List Str := ["_law_box_here", "_law_some"]
abbrev p_L_pick : List Str := ["_law_box_here", "_law_some"]
theorem sc_L_pick : FnScope N_L_pick p_L_pick (defScope s_L_pick) := ⟨rfl, rfl, rfl, by decide +kernel, rfl, by decide +kernel, by decide +kernel⟩
abbrev s_L_raw : Stmt := top 24
abbrev N_L_raw : List Str := ["_law_box_here", "_law_far", "_law_wide", "_law_start", "_law_period", "_law_few", "_law_rests", "_law_turn"]
abbrev p_L_raw : List Str := ["_law_box_here", "_law_far", "_law_wide"]
theorem sc_L_raw : FnScope N_L_raw p_L_raw (defScope s_L_raw) := ⟨rfl, rfl, rfl, by decide +kernel, rfl, by decide +kernel, by decide +kernel⟩
abbrev s_is_integer : Stmt := top 5
abbrev N_is_integer : List Str := ["value"]
abbrev p_is_integer : List Str := ["value"]
theorem sc_is_integer : FnScope N_is_integer p_is_integer (defScope s_is_integer) := ⟨rfl, rfl, rfl, by decide +kernel, rfl, by decide +kernel, by decide +kernel⟩
abbrev s_is_sequence : Stmt := top 6
abbrev N_is_sequence : List Str := ["value"]
abbrev p_is_sequence : List Str := ["value"]
theorem sc_is_sequence : FnScope N_is_sequence p_is_sequence (defScope s_is_sequence) := ⟨rfl, rfl, rfl, by decide +kernel, rfl, by decide +kernel, by decide +kernel⟩
abbrev s_are_between : Stmt := top 8
abbrev N_are_between : List Str := ["value", "low", "high", "one"]
abbrev p_are_between : List Str := ["value", "low", "high"]
theorem sc_are_between : FnScope N_are_between p_are_between (defScope s_are_between) := ⟨rfl, rfl, rfl, by decide +kernel, rfl, by decide +kernel, by decide +kernel⟩
abbrev s_least_period : Stmt := top 9
abbrev N_least_period : List Str := ["bits", "many", "period"]
abbrev p_least_period : List Str := ["bits"]
theorem sc_least_period : FnScope N_least_period p_least_period (defScope s_least_period) := ⟨rfl, rfl, rfl, by decide +kernel, rfl, by decide +kernel, by decide +kernel⟩
abbrev s_least_form : Stmt := top 10
abbrev N_least_form : List Str := ["few", "start", "period", "rests", "told", "known", "bits", "least", "one", "rest"]
abbrev p_least_form : List Str := ["few", "start", "period", "rests"]
theorem sc_least_form : FnScope N_least_form p_least_form (defScope s_least_form) := ⟨rfl, rfl, rfl, by decide +kernel, rfl, by decide +kernel, by decide +kernel⟩
abbrev s_Calendar___init__ : Stmt := inClass (top 19) 0
abbrev N_Calendar___init__ : List Str := ["self", "few", "start", "period", "rests"]
abbrev p_Calendar___init__ : List Str := ["self", "few", "start", "period", "rests"]
theorem sc_Calendar___init__ : FnScope N_Calendar___init__ p_Calendar___init__ (defScope s_Calendar___init__) := ⟨rfl, rfl, rfl, by decide +kernel, rfl, by decide +kernel, by decide +kernel⟩
abbrev s_L_cal_of : Stmt := top 26
abbrev N_L_cal_of : List Str := ["_law_raw_here"]
abbrev p_L_cal_of : List Str := ["_law_raw_here"]
theorem sc_L_cal_of : FnScope N_L_cal_of p_L_cal_of (defScope s_L_cal_of) := ⟨rfl, rfl, rfl, by decide +kernel, rfl, by decide +kernel, by decide +kernel⟩
abbrev s_L_has : Stmt := top 25
abbrev N_L_has : List Str := ["_law_raw_here", "_law_number", "_law_few", "_law_start", "_law_period", "_law_rests"]
abbrev p_L_has : List Str := ["_law_raw_here", "_law_number"]
theorem sc_L_has : FnScope N_L_has p_L_has (defScope s_L_has) := ⟨rfl, rfl, rfl, by decide +kernel, rfl, by decide +kernel, by decide +kernel⟩
abbrev s_Calendar___str__ : Stmt := inClass (top 19) 16
abbrev N_Calendar___str__ : List Str := ["self", "text", "one", "rest"]
abbrev p_Calendar___str__ : List Str := ["self"]
theorem sc_Calendar___str__ : FnScope N_Calendar___str__ p_Calendar___str__ (defScope s_Calendar___str__) := ⟨rfl, rfl, rfl, by decide +kernel, rfl, by decide +kernel, by decide +kernel⟩
abbrev s_Calendar___eq__ : Stmt := inClass (top 19) 15
abbrev N_Calendar___eq__ : List Str := ["self", "other"]
abbrev p_Calendar___eq__ : List Str := ["self", "other"]
theorem sc_Calendar___eq__ : FnScope N_Calendar___eq__ p_Calendar___eq__ (defScope s_Calendar___eq__) := ⟨rfl, rfl, rfl, by decide +kernel, rfl, by decide +kernel, by decide +kernel⟩
abbrev s_greatest_part : Stmt := top 11
abbrev N_greatest_part : List Str := ["one", "other"]
abbrev p_greatest_part : List Str := ["one", "other"]
theorem sc_greatest_part : FnScope N_greatest_part p_greatest_part (defScope s_greatest_part) := ⟨rfl, rfl, rfl, by decide +kernel, rfl, by decide +kernel, by decide +kernel⟩
abbrev s_common : Stmt := top 12
abbrev N_common : List Str := ["one", "other"]
abbrev p_common : List Str := ["one", "other"]
theorem sc_common : FnScope N_common p_common (defScope s_common) := ⟨rfl, rfl, rfl, by decide +kernel, rfl, by decide +kernel, by decide +kernel⟩
abbrev s_later_start : Stmt := top 15
abbrev N_later_start : List Str := ["one", "other"]
abbrev p_later_start : List Str := ["one", "other"]
theorem sc_later_start : FnScope N_later_start p_later_start (defScope s_later_start) := ⟨rfl, rfl, rfl, by decide +kernel, rfl, by decide +kernel, by decide +kernel⟩
abbrev s_is_in_by : Stmt := top 14
abbrev N_is_in_by : List Str := ["sign", "here", "there"]
abbrev p_is_in_by : List Str := ["sign", "here", "there"]
theorem sc_is_in_by : FnScope N_is_in_by p_is_in_by (defScope s_is_in_by) := ⟨rfl, rfl, rfl, by decide +kernel, rfl, by decide +kernel, by decide +kernel⟩
abbrev s_has : Stmt := top 13
abbrev N_has : List Str := ["calendar", "number"]
abbrev p_has : List Str := ["calendar", "number"]
theorem sc_has : FnScope N_has p_has (defScope s_has) := ⟨rfl, rfl, rfl, by decide +kernel, rfl, by decide +kernel, by decide +kernel⟩
abbrev s_joined : Stmt := top 16
abbrev N_joined : List Str := ["one", "other", "sign", "start", "period", "found", "rests", "at"]
abbrev p_joined : List Str := ["one", "other", "sign"]
theorem sc_joined : FnScope N_joined p_joined (defScope s_joined) := ⟨rfl, rfl, rfl, by decide +kernel, rfl, by decide +kernel, by decide +kernel⟩
abbrev s_Calendar___xor__ : Stmt := inClass (top 19) 10
abbrev N_Calendar___xor__ : List Str := ["self", "other", "few", "start", "period", "rests"]
abbrev p_Calendar___xor__ : List Str := ["self", "other"]
theorem sc_Calendar___xor__ : FnScope N_Calendar___xor__ p_Calendar___xor__ (defScope s_Calendar___xor__) := ⟨rfl, rfl, rfl, by decide +kernel, rfl, by decide +kernel, by decide +kernel⟩
abbrev s_Calendar___sub__ : Stmt := inClass (top 19) 9
abbrev N_Calendar___sub__ : List Str := ["self", "other", "few", "start", "period", "rests"]
abbrev p_Calendar___sub__ : List Str := ["self", "other"]
theorem sc_Calendar___sub__ : FnScope N_Calendar___sub__ p_Calendar___sub__ (defScope s_Calendar___sub__) := ⟨rfl, rfl, rfl, by decide +kernel, rfl, by decide +kernel, by decide +kernel⟩
abbrev s_Calendar___or__ : Stmt := inClass (top 19) 8
abbrev N_Calendar___or__ : List Str := ["self", "other", "few", "start", "period", "rests"]
abbrev p_Calendar___or__ : List Str := ["self", "other"]
theorem sc_Calendar___or__ : FnScope N_Calendar___or__ p_Calendar___or__ (defScope s_Calendar___or__) := ⟨rfl, rfl, rfl, by decide +kernel, rfl, by decide +kernel, by decide +kernel⟩
abbrev s_Calendar___and__ : Stmt := inClass (top 19) 7
abbrev N_Calendar___and__ : List Str := ["self", "other", "few", "start", "period", "rests"]
abbrev p_Calendar___and__ : List Str := ["self", "other"]
theorem sc_Calendar___and__ : FnScope N_Calendar___and__ p_Calendar___and__ (defScope s_Calendar___and__) := ⟨rfl, rfl, rfl, by decide +kernel, rfl, by decide +kernel, by decide +kernel⟩
abbrev s_contrary : Stmt := top 18
abbrev N_contrary : List Str := ["one", "few", "at", "rest"]
abbrev p_contrary : List Str := ["one"]
theorem sc_contrary : FnScope N_contrary p_contrary (defScope s_contrary) := ⟨rfl, rfl, rfl, by decide +kernel, rfl, by decide +kernel, by decide +kernel⟩
abbrev s_Calendar___invert__ : Stmt := inClass (top 19) 6
abbrev N_Calendar___invert__ : List Str := ["self", "few", "start", "period", "rests"]
abbrev p_Calendar___invert__ : List Str := ["self"]
theorem sc_Calendar___invert__ : FnScope N_Calendar___invert__ p_Calendar___invert__ (defScope s_Calendar___invert__) := ⟨rfl, rfl, rfl, by decide +kernel, rfl, by decide +kernel, by decide +kernel⟩
abbrev s_Calendar___contains__ : Stmt := inClass (top 19) 4
abbrev N_Calendar___contains__ : List Str := ["self", "value"]
abbrev p_Calendar___contains__ : List Str := ["self", "value"]
theorem sc_Calendar___contains__ : FnScope N_Calendar___contains__ p_Calendar___contains__ (defScope s_Calendar___contains__) := ⟨rfl, rfl, rfl, by decide +kernel, rfl, by decide +kernel, by decide +kernel⟩
abbrev s_L_is_least : Stmt := top 27
abbrev N_L_is_least : List Str := ["_law_made", "_law_period", "_law_some", "_law_last", "_law_rest", "_law_one"]
abbrev p_L_is_least : List Str := ["_law_made"]
theorem sc_L_is_least : FnScope N_L_is_least p_L_is_least (defScope s_L_is_least) := ⟨rfl, rfl, rfl, by decide +kernel, rfl, by decide +kernel, by decide +kernel⟩
abbrev s_law : Stmt := top 28
abbrev N_law : List Str := ["_law_script", "_law_k", "_law_box_here", "_law_turn", "_law_raw_here", "_law_other", "_law_one", "_law_two", "_law_later", "_law_times", "_law_few", "_law_rests", "_law_again", "_law_some", "_law_number", "_law_rest", "_law_made"]
abbrev p_law : List Str := ["_law_script"]
theorem sc_law : FnScope N_law p_law (defScope s_law) := ⟨rfl, rfl, rfl, by decide +kernel, rfl, by decide +kernel, by decide +kernel⟩
section
variable {P : Program} {w : World} {K : PySem.W.Frag} {κ : Nat → Addr} {mg : Str → Option Value} {base : Heap}
theorem ok_L_box {f : Addr} {fd : FuncData} {dvs : List V} {kws : List (Str × V)} (T : Bl mg) (F : FunD K "_law_box" "_law_box" (defArgs s_L_box) (defBody s_L_box) (defScope s_L_box) dvs kws f fd) : FnA P w K mg base CX0 1 f fd p_L_box (spOf K (spX κ m_L_box)) := by
  unfold m_L_box
  refine fn_k (b := b_L_box) F sc_L_box rfl rfl fun cdv A outer s H E hG hr => ?_
  exact (bm K κ (pss_cons (sm K κ (ps_set (i := 2) sc_L_box.nd rfl (by first | exact Or.inl rfl | exact Or.inr rfl) (pm K κ (pe_op (op_addX K) (pm K κ (pe_op op_mulU (pm K κ pe_int em_int) (pm K κ (pv 1) em_var)) (em_op ox_mul te_self te_self)) (pm K κ pe_int em_int)) (em_op ox_add te_self te_self))) (st_asg te_self tgx_name))
  (bm K κ (pss_cons (sm K κ (ps_if (tm K κ (pt_cmpR op_ltU (pm K κ (pv 1) em_var) (pm K κ (pe_callB (cr_lenK K) (by rfl) T.len (by decide +kernel) (am K κ (pa_cons (pm K κ (pv 0) em_var) (am K κ pa_nil ar_nil)) (ar_cons te_self ta_self))) (em_cb cx_len ta_self)) (nomark _)) (ts_test (em_op ox_lt te_self te_self))) (bm K κ (pss_one (sm K κ (ps_set (i := 2) sc_L_box.nd rfl (by first | exact Or.inl rfl | exact Or.inr rfl) (pm K κ (pe_callB cr_abs (by rfl) T.abs (by decide +kernel) (am K κ (pa_cons (pm K κ (pe_callTy cr_intX (by rfl) T.int (by decide +kernel) (am K κ (pa_cons (pm K κ (pe_ix (ix_K K) (pm K κ (pv 0) em_var) (pm K κ (pv 1) em_var) (fun _ _ => rfl)) (em_op ox_ix te_self te_self)) (am K κ pa_nil ar_nil)) (ar_cons te_self ta_self))) (em_cb cx_intX ta_self)) (am K κ pa_nil ar_nil)) (ar_cons te_self ta_self))) (em_cb cx_abs ta_self))) (st_asg te_self tgx_name))) ts_self) (bm K κ (pss_one (sm K κ (ps_if (tm K κ (pt_cmpR op_gtU (pm K κ (pe_callB (cr_lenK K) (by rfl) T.len (by decide +kernel) (am K κ (pa_cons (pm K κ (pv 0) em_var) (am K κ pa_nil ar_nil)) (ar_cons te_self ta_self))) (em_cb cx_len ta_self)) (pm K κ pe_int em_int) (nomark _)) (ts_test (em_op ox_gt te_self te_self))) (bm K κ (pss_one (sm K κ (ps_set (i := 2) sc_L_box.nd rfl (by first | exact Or.inl rfl | exact Or.inr rfl) (pm K κ (pe_op (op_addX K) (pm K κ (pv 2) em_var) (pm K κ (pe_op op_mulU (pm K κ (pe_op op_modU (pm K κ (pe_callTy cr_intX (by rfl) T.int (by decide +kernel) (am K κ (pa_cons (pm K κ (pe_ix (ix_K K) (pm K κ (pv 0) em_var) (pm K κ (pe_op op_modU (pm K κ (pe_callTy cr_intX (by rfl) T.int (by decide +kernel) (am K κ (pa_cons (pm K κ (pv 1) em_var) (am K κ pa_nil ar_nil)) (ar_cons te_self ta_self))) (em_cb cx_intX ta_self)) (pm K κ (pe_callB (cr_lenK K) (by rfl) T.len (by decide +kernel) (am K κ (pa_cons (pm K κ (pv 0) em_var) (am K κ pa_nil ar_nil)) (ar_cons te_self ta_self))) (em_cb cx_len ta_self))) (em_op ox_mod te_self te_self)) (fun _ _ => rfl)) (em_op ox_ix te_self te_self)) (am K κ pa_nil ar_nil)) (ar_cons te_self ta_self))) (em_cb cx_intX ta_self)) (pm K κ pe_int em_int)) (em_op ox_mod te_self te_self)) (pm K κ pe_int em_int)) (em_op ox_mul te_self te_self))) (em_op ox_add te_self te_self))) (st_asg te_self tgx_name))) ts_self) (bm K κ pss_nil st_next)) (st_if tt_self ts_self ts_self))) ts_self)) (st_if tt_self ts_self ts_self))
  (bm K κ (pss_cons (sm K κ (ps_set (i := 3) sc_L_box.nd rfl (by first | exact Or.inl rfl | exact Or.inr rfl) (pm K κ (pe_op (op_addX K) (pm K κ (pe_op op_modU (pm K κ (pe_callTy cr_intX (by rfl) T.int (by decide +kernel) (am K κ (pa_cons (pm K κ (pe_op (op_addX K) (pm K κ (pe_op (op_addX K) (pm K κ (pe_op op_mulU (pm K κ (pe_op op_modU (pm K κ (pe_callTy cr_intX (by rfl) T.int (by decide +kernel) (am K κ (pa_cons (pm K κ (pv 2) em_var) (am K κ pa_nil ar_nil)) (ar_cons te_self ta_self))) (em_cb cx_intX ta_self)) (pm K κ pe_int em_int)) (em_op ox_mod te_self te_self)) (pm K κ pe_int em_int)) (em_op ox_mul te_self te_self)) (pm K κ (pe_op op_mulU (pm K κ pe_int em_int) (pm K κ (pv 1) em_var)) (em_op ox_mul te_self te_self))) (em_op ox_add te_self te_self)) (pm K κ pe_int em_int)) (em_op ox_add te_self te_self)) (am K κ pa_nil ar_nil)) (ar_cons te_self ta_self))) (em_cb cx_intX ta_self)) (pm K κ pe_int em_int)) (em_op ox_mod te_self te_self)) (pm K κ pe_int em_int)) (em_op ox_add te_self te_self))) (st_asg te_self tgx_name))
  (bm K κ (pss_cons (sm K κ (ps_set (i := 4) sc_L_box.nd rfl (by first | exact Or.inl rfl | exact Or.inr rfl) (pm K κ (pe_ifExp (tm K κ (pt_cmpR op_geU (pm K κ (pv 2) em_var) (pm K κ (pe_op op_powU (pm K κ pe_int em_int) (pm K κ pe_int em_int)) (em_op ox_pow te_self te_self)) (nomark _)) (ts_test (em_op ox_ge te_self te_self))) (pm K κ (pv 2) em_var) (pm K κ pe_int em_int)) (em_if tt_self te_self te_self))) (st_asg te_self tgx_name))
  (bm K κ (pss_one (sm K κ (ps_ret (pm K κ (pe_lst (am K κ (pa_cons (pm K κ (pv 4) em_var) (am K κ (pa_cons (pm K κ (pv 3) em_var) (am K κ (pa_cons (pm K κ pe_int em_int) (am K κ pa_nil ar_nil)) (ar_cons te_self ta_self))) (ar_cons te_self ta_self))) (ar_cons te_self ta_self))) (em_lstC ta_self))) (st_ret te_self))) ts_self)) (st_seq ts_self ts_self))) (st_seq ts_self ts_self))) (st_seq ts_self ts_self))) (st_seq ts_self ts_self))
theorem ok_L_take {f : Addr} {fd : FuncData} {dvs : List V} {kws : List (Str × V)} (T : Bl mg) (F : FunD K "_law_take" "_law_take" (defArgs s_L_take) (defBody s_L_take) (defScope s_L_take) dvs kws f fd) : FnA P w K mg base CX0 1 f fd p_L_take (spOf K (spX κ m_L_take)) := by
  unfold m_L_take
  refine fn_x (b := b_L_take) F sc_L_take rfl rfl fun cdv A outer s H E hG hr => ?_
  exact (bm K κ (pss_cons (sm K κ (ps_if (tm K κ (pt_cmpR op_gtU (pm K κ (pe_ix (ix_K K) (pm K κ (pv 0) em_var) (pm K κ pe_int em_int) (fun _ _ => rfl)) (em_op ox_ix te_self te_self)) (pm K κ pe_int em_int) (nomark _)) (ts_test (em_op ox_gt te_self te_self))) (bm K κ (pss_cons (sm K κ (ps_set (i := 2) sc_L_take.nd rfl (by first | exact Or.inl rfl | exact Or.inr rfl) (pm K κ (pe_op op_modU (pm K κ (pe_callTy cr_intX (by rfl) T.int (by decide +kernel) (am K κ (pa_cons (pm K κ (pe_ix (ix_K K) (pm K κ (pv 0) em_var) (pm K κ pe_int em_int) (fun _ _ => rfl)) (em_op ox_ix te_self te_self)) (am K κ pa_nil ar_nil)) (ar_cons te_self ta_self))) (em_cb cx_intX ta_self)) (pm K κ (pv 1) em_var)) (em_op ox_mod te_self te_self))) (st_asg te_self tgx_name))
  (bm K κ (pss_cons (sm K κ (ps_asg (pm K κ (pe_op op_fdivW (pm K κ (pe_ix (ix_K K) (pm K κ (pv 0) em_var) (pm K κ pe_int em_int) (fun _ _ => rfl)) (em_op ox_ix te_self te_self)) (pm K κ (pv 1) em_var)) (em_op ox_div te_self te_self)) (gm K κ (pg_sub (pm K κ (pv 0) em_var) (pm K κ pe_int em_int) set_list) (tgx_sub te_self te_self))) (st_asg te_self tg_self))
  (bm K κ (pss_one (sm K κ (ps_ret (pm K κ (pv 2) em_var)) (st_ret te_self))) ts_self)) (st_seq ts_self ts_self))) (st_seq ts_self ts_self)) (bm K κ pss_nil st_next)) (st_if tt_self ts_self ts_self))
  (bm K κ (pss_cons (sm K κ (ps_asg (pm K κ (pe_op (op_addX K) (pm K κ (pe_ix (ix_K K) (pm K κ (pv 0) em_var) (pm K κ pe_int em_int) (fun _ _ => rfl)) (em_op ox_ix te_self te_self)) (pm K κ pe_int em_int)) (em_op ox_add te_self te_self)) (gm K κ (pg_sub (pm K κ (pv 0) em_var) (pm K κ pe_int em_int) set_list) (tgx_sub te_self te_self))) (st_asg te_self tg_self))
  (bm K κ (pss_cons (sm K κ (ps_set (i := 3) sc_L_take.nd rfl (by first | exact Or.inl rfl | exact Or.inr rfl) (pm K κ (pe_op op_modU (pm K κ (pe_callTy cr_intX (by rfl) T.int (by decide +kernel) (am K κ (pa_cons (pm K κ (pe_op op_mulU (pm K κ (pe_op (op_addX K) (pm K κ (pe_ix (ix_K K) (pm K κ (pv 0) em_var) (pm K κ pe_int em_int) (fun _ _ => rfl)) (em_op ox_ix te_self te_self)) (pm K κ (pe_op op_mulU (pm K κ pe_int em_int) (pm K κ (pe_ix (ix_K K) (pm K κ (pv 0) em_var) (pm K κ pe_int em_int) (fun _ _ => rfl)) (em_op ox_ix te_self te_self))) (em_op ox_mul te_self te_self))) (em_op ox_add te_self te_self)) (pm K κ pe_int em_int)) (em_op ox_mul te_self te_self)) (am K κ pa_nil ar_nil)) (ar_cons te_self ta_self))) (em_cb cx_intX ta_self)) (pm K κ pe_int em_int)) (em_op ox_mod te_self te_self))) (st_asg te_self tgx_name))
  (bm K κ (pss_cons (sm K κ (ps_asg (pm K κ (pe_op (op_addX K) (pm K κ (pe_op op_modU (pm K κ (pe_callTy cr_intX (by rfl) T.int (by decide +kernel) (am K κ (pa_cons (pm K κ (pe_op (op_addX K) (pm K κ (pe_op op_mulU (pm K κ (pv 3) em_var) (pm K κ pe_int em_int)) (em_op ox_mul te_self te_self)) (pm K κ pe_int em_int)) (em_op ox_add te_self te_self)) (am K κ pa_nil ar_nil)) (ar_cons te_self ta_self))) (em_cb cx_intX ta_self)) (pm K κ pe_int em_int)) (em_op ox_mod te_self te_self)) (pm K κ pe_int em_int)) (em_op ox_add te_self te_self)) (gm K κ (pg_sub (pm K κ (pv 0) em_var) (pm K κ pe_int em_int) set_list) (tgx_sub te_self te_self))) (st_asg te_self tg_self))
  (bm K κ (pss_one (sm K κ (ps_ret (pm K κ (pe_op op_modU (pm K κ (pe_callTy cr_intX (by rfl) T.int (by decide +kernel) (am K κ (pa_cons (pm K κ (pe_op op_fdivW (pm K κ (pe_op (op_addX K) (pm K κ (pe_op op_mulU (pm K κ (pv 3) em_var) (pm K κ pe_int em_int)) (em_op ox_mul te_self te_self)) (pm K κ (pe_ix (ix_K K) (pm K κ (pv 0) em_var) (pm K κ pe_int em_int) (fun _ _ => rfl)) (em_op ox_ix te_self te_self))) (em_op ox_add te_self te_self)) (pm K κ pe_int em_int)) (em_op ox_div te_self te_self)) (am K κ pa_nil ar_nil)) (ar_cons te_self ta_self))) (em_cb cx_intX ta_self)) (pm K κ (pv 1) em_var)) (em_op ox_mod te_self te_self))) (st_ret te_self))) ts_self)) (st_seq ts_self ts_self))) (st_seq ts_self ts_self))) (st_seq ts_self ts_self))) (st_seq ts_self ts_self))
theorem ok_L_pick {f : Addr} {fd : FuncData} {dvs : List V} {kws : List (Str × V)} (T : Bl mg) (c_L_take : Cx' P w K κ mg base "_law_take" p_L_take 1 m_L_take) (F : FunD K "_law_pick" "_law_pick" (defArgs s_L_pick) (defBody s_L_pick) (defScope s_L_pick) dvs kws f fd) : FnA P w K mg base CX0 2 f fd p_L_pick (spOf K (spX κ m_L_pick)) := by
  unfold m_L_pick
  refine fn_x (b := b_L_pick) F sc_L_pick rfl rfl fun cdv A outer s H E hG hr => ?_
  exact (bm K κ (pss_one (sm K κ (ps_ret (pm K κ (pe_ix (ix_K K) (pm K κ (pv 1) em_var) (px_call c_L_take (hr.mono (by decide)) hG rfl (am K κ (pa_cons (pm K κ (pv 0) em_var) (am K κ (pa_cons (pm K κ (pe_callB (cr_lenK K) (by rfl) T.len (by decide +kernel) (am K κ (pa_cons (pm K κ (pv 1) em_var) (am K κ pa_nil ar_nil)) (ar_cons te_self ta_self))) (em_cb cx_len ta_self)) (am K κ pa_nil ar_nil)) (ar_cons te_self ta_self))) (ar_cons te_self ta_self))) (fun _ _ => rfl)) (em_op ox_ix te_self te_self))) (st_ret te_self))) ts_self)
theorem ok_L_raw {f : Addr} {fd : FuncData} {dvs : List V} {kws : List (Str × V)} (T : Bl mg) (c_L_pick : Cx' P w K κ mg base "_law_pick" p_L_pick 2 m_L_pick) (c_L_take : Cx' P w K κ mg base "_law_take" p_L_take 1 m_L_take) (F : FunD K "_law_raw" "_law_raw" (defArgs s_L_raw) (defBody s_L_raw) (defScope s_L_raw) dvs kws f fd) : FnA P w K mg base CX0 3 f fd p_L_raw (spOf K (spX κ m_L_raw)) := by
  unfold m_L_raw
  refine fn_x (b := b_L_raw) F sc_L_raw rfl rfl fun cdv A outer s H E hG hr => ?_
  exact (bm K κ (pss_cons (sm K κ (ps_set (i := 3) sc_L_raw.nd rfl (by first | exact Or.inl rfl | exact Or.inr rfl) (pm K κ (pe_op (op_addX K) (pm K κ pe_int em_int) (px_call c_L_take (hr.mono (by decide)) hG rfl (am K κ (pa_cons (pm K κ (pv 0) em_var) (am K κ (pa_cons (pm K κ (pv 1) em_var) (am K κ pa_nil ar_nil)) (ar_cons te_self ta_self))) (ar_cons te_self ta_self)))) (em_op ox_add te_self te_self))) (st_asg te_self tgx_name))
  (bm K κ (pss_cons (sm K κ (ps_set (i := 4) sc_L_raw.nd rfl (by first | exact Or.inl rfl | exact Or.inr rfl) (pm K κ (pe_op (op_addX K) (pm K κ pe_int em_int) (px_call c_L_take (hr.mono (by decide)) hG rfl (am K κ (pa_cons (pm K κ (pv 0) em_var) (am K κ (pa_cons (pm K κ (pv 2) em_var) (am K κ pa_nil ar_nil)) (ar_cons te_self ta_self))) (ar_cons te_self ta_self)))) (em_op ox_add te_self te_self))) (st_asg te_self tgx_name))
  (bm K κ (pss_cons (sm K κ (ps_set (i := 5) sc_L_raw.nd rfl (by first | exact Or.inl rfl | exact Or.inr rfl) (pm K κ (pe_ifExp (tm K κ (pt_cmpR op_gtU (pm K κ (pv 3) em_var) (pm K κ pe_int em_int) (nomark _)) (ts_test (em_op ox_gt te_self te_self))) (pm K κ (pe_lc (own := [("_law_turn", 7)]) (by rfl) sc_L_raw.nd (im K κ (pi_range1 (by rfl) T.range (am K κ (pa_cons (px_call c_L_take (hr.mono (by decide)) hG rfl (am K κ (pa_cons (pm K κ (pv 0) em_var) (am K κ (pa_cons (pm K κ pe_int em_int) (am K κ pa_nil ar_nil)) (ar_cons te_self ta_self))) (ar_cons te_self ta_self))) (am K κ pa_nil ar_nil)) (ar_cons te_self ta_self))) (it_rng1 ta_self)) (blkOk_by (own := [("_law_turn", 7)]) (N := N_L_raw) (sc := defScope s_L_raw) (by decide +kernel)) (fun _ _ _ _ _ => (pg_name (i := 7) sc_L_raw.nd rfl (by first | exact Or.inl rfl | exact Or.inr rfl))) (fun _ _ _ _ _ => (ptsm K κ pts_nil ts_yes)) (fun _ _ _ _ _ => (pm K κ (pe_op (op_addX K) (pm K κ pe_int em_int) (px_call c_L_take (hr.mono (by decide)) hG rfl (am K κ (pa_cons (pm K κ (pv 0) em_var) (am K κ (pa_cons (pm K κ (pe_op op_subU (pm K κ (pv 3) em_var) (pm K κ pe_int em_int)) (em_op ox_sub te_self te_self)) (am K κ pa_nil ar_nil)) (ar_cons te_self ta_self))) (ar_cons te_self ta_self)))) (em_op ox_add te_self te_self)))) (em_lc (wo_name (by decide)) ti_self tgx_name tt_self te_self)) (pm K κ (pe_lst (am K κ pa_nil ar_nil)) (em_lst ta_self))) (em_if tt_self te_self te_self))) (st_asg te_self tgx_name))
  (bm K κ (pss_cons (sm K κ (ps_setLc (i := 6) (own := [("_law_turn", 7)]) (by rfl) sc_L_raw.nd rfl rfl (sw_true rfl rfl rfl (by decide +kernel)) (im K κ (pi_range1 (by rfl) T.range (am K κ (pa_cons (px_call c_L_pick (hr.mono (by decide)) hG rfl (am K κ (pa_cons (pm K κ (pv 0) em_var) (am K κ (pa_cons (pm K κ (pe_lst (am K κ (pa_cons (pm K κ pe_int em_int) (am K κ (pa_cons (pm K κ pe_int em_int) (am K κ (pa_cons (pm K κ pe_int em_int) (am K κ (pa_cons (pm K κ pe_int em_int) (am K κ (pa_cons (pm K κ pe_int em_int) (am K κ (pa_cons (pm K κ (pv 4) em_var) (am K κ pa_nil ar_nil)) (ar_cons te_self ta_self))) (ar_cons te_self ta_self))) (ar_cons te_self ta_self))) (ar_cons te_self ta_self))) (ar_cons te_self ta_self))) (ar_cons te_self ta_self))) (em_lst ta_self)) (am K κ pa_nil ar_nil)) (ar_cons te_self ta_self))) (ar_cons te_self ta_self))) (am K κ pa_nil ar_nil)) (ar_cons te_self ta_self))) (it_rng1 ta_self)) (blkOk_by (own := [("_law_turn", 7)]) (N := N_L_raw) (sc := defScope s_L_raw) (by decide +kernel)) (fun _ _ _ _ _ => (pg_name (i := 7) sc_L_raw.nd rfl (by first | exact Or.inl rfl | exact Or.inr rfl))) (fun _ _ _ _ _ => (ptsm K κ pts_nil ts_yes)) (fun _ _ _ _ _ => (px_call c_L_take (hr.mono (by decide)) hG rfl (am K κ (pa_cons (pm K κ (pv 0) em_var) (am K κ (pa_cons (pm K κ (pv 4) em_var) (am K κ pa_nil ar_nil)) (ar_cons te_self ta_self))) (ar_cons te_self ta_self))))) (st_asg (em_lc (wo_name (by decide)) ti_self tgx_name tt_self te_self) tgx_name))
  (bm K κ (pss_one (sm K κ (ps_ret (pm K κ (pe_tup (am K κ (pa_cons (pm K κ (pv 5) em_var) (am K κ (pa_cons (pm K κ (pv 3) em_var) (am K κ (pa_cons (pm K κ (pv 4) em_var) (am K κ (pa_cons (pm K κ (pv 6) em_var) (am K κ pa_nil ar_nil)) (ar_cons te_self ta_self))) (ar_cons te_self ta_self))) (ar_cons te_self ta_self))) (ar_cons te_self ta_self))) (em_tup ta_self))) (st_ret te_self))) ts_self)) (st_seq ts_self ts_self))) (st_seq ts_self ts_self))) (st_seq ts_self ts_self))) (st_seq ts_self ts_self))
theorem ok_is_integer {f : Addr} {fd : FuncData} {dvs : List V} {kws : List (Str × V)} (T : Bl mg) (O : Ow K κ 1) (O2 : Ow2 K κ 1) (F : FunD K "is_integer" "is_integer" (defArgs s_is_integer) (defBody s_is_integer) (defScope s_is_integer) dvs kws f fd) : FnA P w K mg base CX0 1 f fd p_is_integer (spOf K (spX κ m_is_integer)) := by
  unfold m_is_integer
  refine fn_x (b := b_is_integer) F sc_is_integer rfl rfl fun cdv A outer s H E hG hr => ?_
  exact (bm K κ (pss_one (sm K κ (ps_ret (pm K κ (pe_and (pm K κ (pe_callB (cr_isiX K) (by rfl) T.isinstance (by decide +kernel) (am K κ (pa_cons (pm K κ (pv 0) em_var) (am K κ (pa_cons (pm K κ (pe_bltn (v := .ty "int") (by rfl) T.int (by decide +kernel) rfl) em_ty) (am K κ pa_nil ar_nil)) (ar_cons te_self ta_self))) (ar_cons te_self ta_self))) (em_cb (cx_isiN O) ta_self)) (pm K κ (pe_one (pm K κ (pe_not (pm K κ (pe_callB (cr_isiX K) (by rfl) T.isinstance (by decide +kernel) (am K κ (pa_cons (pm K κ (pv 0) em_var) (am K κ (pa_cons (pm K κ (pe_bltn (v := .ty "bool") (by rfl) T.bool (by decide +kernel) rfl) em_ty) (am K κ pa_nil ar_nil)) (ar_cons te_self ta_self))) (ar_cons te_self ta_self))) (em_cb (cx_isiN O) ta_self))) (em_not te_self))) te_self)) (em_and te_self te_self))) (st_ret te_self))) ts_self)
theorem ok_is_sequence {f : Addr} {fd : FuncData} {dvs : List V} {kws : List (Str × V)} (T : Bl mg) (O : Ow K κ 1) (O2 : Ow2 K κ 1) (F : FunD K "is_sequence" "is_sequence" (defArgs s_is_sequence) (defBody s_is_sequence) (defScope s_is_sequence) dvs kws f fd) : FnA P w K mg base CX0 1 f fd p_is_sequence (spOf K (spX κ m_is_sequence)) := by
  unfold m_is_sequence
  refine fn_x (b := b_is_sequence) F sc_is_sequence rfl rfl fun cdv A outer s H E hG hr => ?_
  exact (bm K κ (pss_one (sm K κ (ps_ret (pm K κ (pe_callB (cr_isiX K) (by rfl) T.isinstance (by decide +kernel) (am K κ (pa_cons (pm K κ (pv 0) em_var) (am K κ (pa_cons (pm K κ (pe_tup (am K κ (pa_cons (pm K κ (pe_bltn (v := .ty "list") (by rfl) T.list (by decide +kernel) rfl) em_ty) (am K κ (pa_cons (pm K κ (pe_bltn (v := .ty "tuple") (by rfl) T.tuple (by decide +kernel) rfl) em_ty) (am K κ pa_nil ar_nil)) (ar_cons te_self ta_self))) (ar_cons te_self ta_self))) (em_tup ta_self)) (am K κ pa_nil ar_nil)) (ar_cons te_self ta_self))) (ar_cons te_self ta_self))) (em_cb (cx_isiN O) ta_self))) (st_ret te_self))) ts_self)
theorem ok_are_between {f : Addr} {fd : FuncData} {dvs : List V} {kws : List (Str × V)} (T : Bl mg) (c_is_integer : Cx' P w K κ mg base "is_integer" p_is_integer 1 m_is_integer) (c_is_sequence : Cx' P w K κ mg base "is_sequence" p_is_sequence 1 m_is_sequence) (F : FunD K "are_between" "are_between" (defArgs s_are_between) (defBody s_are_between) (defScope s_are_between) dvs kws f fd) : FnA P w K mg base CX0 2 f fd p_are_between (spOf K (spX κ m_are_between)) := by
  unfold m_are_between
  refine fn_x (b := b_are_between) F sc_are_between rfl rfl fun cdv A outer s H E hG hr => ?_
  exact (bm K κ (pss_one (sm K κ (ps_ret (pm K κ (pe_and (px_call c_is_sequence (hr.mono (by decide)) hG rfl (am K κ (pa_cons (pm K κ (pv 0) em_var) (am K κ pa_nil ar_nil)) (ar_cons te_self ta_self))) (pm K κ (pe_one (pm K κ (pe_callB (cr_allX K) (by rfl) T.all (by decide +kernel) (am K κ (pa_cons (pm K κ (pe_lc (own := [("one", 3)]) (by rfl) sc_are_between.nd (im K κ (pi_any K (pm K κ (pv 0) em_var)) (it_any te_self)) (blkOk_by (own := [("one", 3)]) (N := N_are_between) (sc := defScope s_are_between) (by decide +kernel)) (fun _ _ _ _ _ => (pg_name (i := 3) sc_are_between.nd rfl (by first | exact Or.inl rfl | exact Or.inr rfl))) (fun _ _ _ _ _ => (ptsm K κ pts_nil ts_yes)) (fun _ _ _ _ _ => (pm K κ (pe_and (px_call c_is_integer (hr.mono (by decide)) hG rfl (am K κ (pa_cons (pm K κ (pv 3) em_var) (am K κ pa_nil ar_nil)) (ar_cons te_self ta_self))) (pm K κ (pe_one (pm K κ (pe_chain op_leU op_leU (pm K κ (pv 1) em_var) (pm K κ (pv 3) em_var) (pm K κ (pv 2) em_var)) (em_chain ox_le ox_le te_self te_self te_self))) te_self)) (em_and te_self te_self)))) (em_lc (wo_name (by decide)) ti_self tgx_name tt_self te_self)) (am K κ pa_nil ar_nil)) (ar_cons te_self ta_self))) (em_cb cx_all ta_self))) te_self)) (em_and te_self te_self))) (st_ret te_self))) ts_self)
theorem ok_least_period {f : Addr} {fd : FuncData} {dvs : List V} {kws : List (Str × V)} (T : Bl mg) (F : FunD K "least_period" "least_period" (defArgs s_least_period) (defBody s_least_period) (defScope s_least_period) dvs kws f fd) : FnA P w K mg base CX0 1 f fd p_least_period (spOf K (spX κ m_least_period)) := by
  unfold m_least_period
  refine fn_x (b := b_least_period) F sc_least_period rfl rfl fun cdv A outer s H E hG hr => ?_
  exact (bm K κ (pss_cons (sm K κ (ps_set (i := 1) sc_least_period.nd rfl (by first | exact Or.inl rfl | exact Or.inr rfl) (pm K κ (pe_callB (cr_lenK K) (by rfl) T.len (by decide +kernel) (am K κ (pa_cons (pm K κ (pv 0) em_var) (am K κ pa_nil ar_nil)) (ar_cons te_self ta_self))) (em_cb cx_len ta_self))) (st_asg te_self tgx_name))
  (bm K κ (pss_cons (sm K κ (ps_for PassesOwn.never rfl (im K κ (pi_range2 (by rfl) T.range (am K κ (pa_cons (pm K κ pe_int em_int) (am K κ (pa_cons (pm K κ (pv 1) em_var) (am K κ pa_nil ar_nil)) (ar_cons te_self ta_self))) (ar_cons te_self ta_self))) (it_rng2 ta_self)) (gm K κ (pg_name (i := 2) sc_least_period.nd rfl (by first | exact Or.inl rfl | exact Or.inr rfl)) tgx_name)
  (bm K κ (pss_one (sm K κ (ps_if (PW.pt (wm K κ (pw_and (tm K κ (pt_cmpR (op_eqK K hr.units) (pm K κ (pe_op op_modU (pm K κ (pv 1) em_var) (pm K κ (pv 2) em_var)) (em_op ox_mod te_self te_self)) (pm K κ pe_int em_int) (nomark _)) (ts_test (em_op ox_eq te_self te_self))) (wm K κ (pw_and1 (tm K κ (pt_cmpR (op_eqK K hr.units) (pm K κ (pv 0) em_var) (pm K κ (pe_op op_mulU (px_sl (pm K κ (pv 0) em_var) po_none ot_none (po_some (pm K κ (pv 2) em_var)) (ot_some te_self)) (pm K κ (pe_op op_fdivW (pm K κ (pv 1) em_var) (pm K κ (pv 2) em_var)) (em_op ox_div te_self te_self))) (em_op ox_mul te_self te_self)) (nomark _)) (ts_test (em_op ox_eq te_self te_self)))) tt_self)) (ts_and tt_self tt_self))) (bm K κ (pss_one (sm K κ (ps_ret (pm K κ (pv 2) em_var)) (st_ret te_self))) ts_self) (bm K κ pss_nil st_next)) (st_if tt_self ts_self ts_self))) ts_self)) (st_for ti_self tg_self ts_self))
  (bm K κ (pss_one (sm K κ (ps_ret (pm K κ (pv 1) em_var)) (st_ret te_self))) ts_self)) (st_seq ts_self ts_self))) (st_seq ts_self ts_self))
theorem ok_least_form {f : Addr} {fd : FuncData} {dvs : List V} {kws : List (Str × V)} (T : Bl mg) (c_least_period : Cx' P w K κ mg base "least_period" p_least_period 1 m_least_period) (F : FunD K "least_form" "least_form" (defArgs s_least_form) (defBody s_least_form) (defScope s_least_form) dvs kws f fd) : FnA P w K mg base CX0 2 f fd p_least_form (spOf K (spX κ m_least_form)) := by
  unfold m_least_form
  refine fn_x (b := b_least_form) F sc_least_form rfl rfl fun cdv A outer s H E hG hr => ?_
  exact (bm K κ (pss_cons (sm K κ (ps_asg (pm K κ (pe_tup (am K κ (pa_cons (pm K κ (pe_dc (own := [("one", 8)]) (by rfl) sc_least_form.nd (im K κ (pi_any K (pm K κ (pv 0) em_var)) (it_any te_self)) (blkOk_by (own := [("one", 8)]) (N := N_least_form) (sc := defScope s_least_form) (by decide +kernel)) (fun _ _ _ _ _ => (pg_name (i := 8) sc_least_form.nd rfl (by first | exact Or.inl rfl | exact Or.inr rfl))) (fun _ _ _ _ _ => (ptsm K κ pts_nil ts_yes)) (fun _ _ _ _ _ => (pm K κ (pe_callTy cr_intX (by rfl) T.int (by decide +kernel) (am K κ (pa_cons (pm K κ (pv 8) em_var) (am K κ pa_nil ar_nil)) (ar_cons te_self ta_self))) (em_cb cx_intX ta_self))) (fun _ _ _ _ _ => (pm K κ pe_bl em_bl))) (em_dc (wo_name (by decide)) ti_self tgx_name tt_self te_self te_self)) (am K κ (pa_cons (pm K κ (pe_dc (own := [("rest", 9)]) (by rfl) sc_least_form.nd (im K κ (pi_any K (pm K κ (pv 3) em_var)) (it_any te_self)) (blkOk_by (own := [("rest", 9)]) (N := N_least_form) (sc := defScope s_least_form) (by decide +kernel)) (fun _ _ _ _ _ => (pg_name (i := 9) sc_least_form.nd rfl (by first | exact Or.inl rfl | exact Or.inr rfl))) (fun _ _ _ _ _ => (ptsm K κ pts_nil ts_yes)) (fun _ _ _ _ _ => (pm K κ (pe_callTy cr_intX (by rfl) T.int (by decide +kernel) (am K κ (pa_cons (pm K κ (pv 9) em_var) (am K κ pa_nil ar_nil)) (ar_cons te_self ta_self))) (em_cb cx_intX ta_self))) (fun _ _ _ _ _ => (pm K κ pe_bl em_bl))) (em_dc (wo_name (by decide)) ti_self tgx_name tt_self te_self te_self)) (am K κ pa_nil ar_nil)) (ar_cons te_self ta_self))) (ar_cons te_self ta_self))) (em_tup ta_self)) (gm K κ (pg_tupK K (n := 2) (by rfl) (pgs_cons (gm K κ (pg_name (i := 4) sc_least_form.nd rfl (by first | exact Or.inl rfl | exact Or.inr rfl)) tgx_name) (pgs_cons (gm K κ (pg_name (i := 5) sc_least_form.nd rfl (by first | exact Or.inl rfl | exact Or.inr rfl)) tgx_name) pgs_nil))) (tgx_tup (tgx_cons tg_self (tgx_cons tg_self tgx_nil))))) (st_asg te_self tg_self))
  (bm K κ (pss_cons (sm K κ (ps_set (i := 6) sc_least_form.nd rfl (by first | exact Or.inl rfl | exact Or.inr rfl) (pm K κ (pe_lc (own := [("rest", 9)]) (by rfl) sc_least_form.nd (im K κ (pi_range1 (by rfl) T.range (am K κ (pa_cons (pm K κ (pv 2) em_var) (am K κ pa_nil ar_nil)) (ar_cons te_self ta_self))) (it_rng1 ta_self)) (blkOk_by (own := [("rest", 9)]) (N := N_least_form) (sc := defScope s_least_form) (by decide +kernel)) (fun _ _ _ _ _ => (pg_name (i := 9) sc_least_form.nd rfl (by first | exact Or.inl rfl | exact Or.inr rfl))) (fun _ _ _ _ _ => (ptsm K κ pts_nil ts_yes)) (fun _ _ _ _ _ => (pm K κ (pe_cmp (pc_inX K (u1 hr.units) (pm K κ (pv 9) em_var) (pm K κ (pv 5) em_var))) (em_din te_self te_self)))) (em_lc (wo_name (by decide)) ti_self tgx_name tt_self te_self))) (st_asg te_self tgx_name))
  (bm K κ (pss_cons (sm K κ (ps_set (i := 7) sc_least_form.nd rfl (by first | exact Or.inl rfl | exact Or.inr rfl) (px_call c_least_period (hr.mono (by decide)) hG rfl (am K κ (pa_cons (pm K κ (pv 6) em_var) (am K κ pa_nil ar_nil)) (ar_cons te_self ta_self)))) (st_asg te_self tgx_name))
  (bm K κ (pss_cons (sm K κ (ps_while PassesOwn.never (PW.pt (wm K κ (pw_and (tm K κ (pt_cmpR op_gtU (pm K κ (pv 1) em_var) (pm K κ pe_int em_int) (nomark _)) (ts_test (em_op ox_gt te_self te_self))) (wm K κ (pw_and1 (tm K κ (pt_cmpR (op_eqK K hr.units) (pm K κ (pe_cmp (pc_inX K (u1 hr.units) (pm K κ (pe_op op_subU (pm K κ (pv 1) em_var) (pm K κ pe_int em_int)) (em_op ox_sub te_self te_self)) (pm K κ (pv 4) em_var))) (em_din te_self te_self)) (pm K κ (pe_ix (ix_K K) (pm K κ (pv 6) em_var) (pm K κ (pe_op op_modU (pm K κ (pe_op op_subU (pm K κ (pv 1) em_var) (pm K κ pe_int em_int)) (em_op ox_sub te_self te_self)) (pm K κ (pv 7) em_var)) (em_op ox_mod te_self te_self)) (fun _ _ => rfl)) (em_op ox_ix te_self te_self)) (nomark _)) (ts_test (em_op ox_eq te_self te_self)))) tt_self)) (ts_and tt_self tt_self))) (bm K κ (pss_one (sm K κ (ps_set (i := 1) sc_least_form.nd rfl (by first | exact Or.inl rfl | exact Or.inr rfl) (pm K κ (pe_op op_subU (pm K κ (pv 1) em_var) (pm K κ pe_int em_int)) (em_op ox_sub te_self te_self))) (st_asg te_self tgx_name))) ts_self)) (st_while tt_self ts_self))
  (bm K κ (pss_one (sm K κ (ps_ret (pm K κ (pe_tup (am K κ (pa_cons (pm K κ (pe_callTy (cr_tupleK K) (by rfl) T.tuple (by decide +kernel) (am K κ (pa_cons (pm K κ (pe_lc (own := [("one", 8)]) (by rfl) sc_least_form.nd (im K κ (pi_range2 (by rfl) T.range (am K κ (pa_cons (pm K κ pe_int em_int) (am K κ (pa_cons (pm K κ (pv 1) em_var) (am K κ pa_nil ar_nil)) (ar_cons te_self ta_self))) (ar_cons te_self ta_self))) (it_rng2 ta_self)) (blkOk_by (own := [("one", 8)]) (N := N_least_form) (sc := defScope s_least_form) (by decide +kernel)) (fun _ _ _ _ _ => (pg_name (i := 8) sc_least_form.nd rfl (by first | exact Or.inl rfl | exact Or.inr rfl))) (fun _ _ _ _ _ => (ptsm K κ (pts_one (tm K κ (pt_cmp (pc_inX K (u1 hr.units) (pm K κ (pv 8) em_var) (pm K κ (pv 4) em_var))) (ts_b (em_din te_self te_self)))) tt_self)) (fun _ _ _ _ _ => (pm K κ (pv 8) em_var))) (em_lc (wo_name (by decide)) ti_self tgx_name tt_self te_self)) (am K κ pa_nil ar_nil)) (ar_cons te_self ta_self))) (em_cb cx_tuple ta_self)) (am K κ (pa_cons (pm K κ (pv 1) em_var) (am K κ (pa_cons (pm K κ (pv 7) em_var) (am K κ (pa_cons (pm K κ (pe_callTy (cr_tupleK K) (by rfl) T.tuple (by decide +kernel) (am K κ (pa_cons (pm K κ (pe_lc (own := [("rest", 9)]) (by rfl) sc_least_form.nd (im K κ (pi_range1 (by rfl) T.range (am K κ (pa_cons (pm K κ (pv 7) em_var) (am K κ pa_nil ar_nil)) (ar_cons te_self ta_self))) (it_rng1 ta_self)) (blkOk_by (own := [("rest", 9)]) (N := N_least_form) (sc := defScope s_least_form) (by decide +kernel)) (fun _ _ _ _ _ => (pg_name (i := 9) sc_least_form.nd rfl (by first | exact Or.inl rfl | exact Or.inr rfl))) (fun _ _ _ _ _ => (ptsm K κ (pts_one (tm K κ (pt_val (pm K κ (pe_ix (ix_K K) (pm K κ (pv 6) em_var) (pm K κ (pv 9) em_var) (fun _ _ => rfl)) (em_op ox_ix te_self te_self))) (ts_b te_self))) tt_self)) (fun _ _ _ _ _ => (pm K κ (pv 9) em_var))) (em_lc (wo_name (by decide)) ti_self tgx_name tt_self te_self)) (am K κ pa_nil ar_nil)) (ar_cons te_self ta_self))) (em_cb cx_tuple ta_self)) (am K κ pa_nil ar_nil)) (ar_cons te_self ta_self))) (ar_cons te_self ta_self))) (ar_cons te_self ta_self))) (ar_cons te_self ta_self))) (em_tup ta_self))) (st_ret te_self))) ts_self)) (st_seq ts_self ts_self))) (st_seq ts_self ts_self))) (st_seq ts_self ts_self))) (st_seq ts_self ts_self))
theorem ok_Calendar___init__ {f : Addr} {fd : FuncData} {dvs : List V} {kws : List (Str × V)} (T : Bl mg) (c_are_between : Cx' P w K κ mg base "are_between" p_are_between 2 m_are_between) (c_is_integer : Cx' P w K κ mg base "is_integer" p_is_integer 1 m_is_integer) (c_least_form : Cx' P w K κ mg base "least_form" p_least_form 2 m_least_form) (fld_few : ∀ c ∈ ([0] : List Nat), FldOk K (κ c) "few") (fld_period : ∀ c ∈ ([0] : List Nat), FldOk K (κ c) "period") (fld_rests : ∀ c ∈ ([0] : List Nat), FldOk K (κ c) "rests") (fld_start : ∀ c ∈ ([0] : List Nat), FldOk K (κ c) "start") (F : FunD K "__init__" "Calendar.__init__" (defArgs s_Calendar___init__) (defBody s_Calendar___init__) (defScope s_Calendar___init__) dvs kws f fd) : FnA P w K mg base CX0 3 f fd p_Calendar___init__ (spOf K (spX κ m_Calendar___init__)) := by
  unfold m_Calendar___init__
  refine fn_x (b := b_Calendar___init__) F sc_Calendar___init__ rfl rfl fun cdv A outer s H E hG hr => ?_
  exact (bm K κ (pss_cons (sm K κ (ps_if (PW.pt (wm K κ (pw_or (tm K κ (pt_not (tm K κ (pt_val (px_call c_is_integer (hr.mono (by decide)) hG rfl (am K κ (pa_cons (pm K κ (pv 2) em_var) (am K κ pa_nil ar_nil)) (ar_cons te_self ta_self)))) (ts_b te_self))) (ts_not tt_self)) (wm K κ (pw_or1 (tm K κ (pt_cmpR op_ltU (pm K κ (pv 2) em_var) (pm K κ pe_int em_int) (nomark _)) (ts_test (em_op ox_lt te_self te_self)))) tt_self)) (ts_or tt_self tt_self))) (bm K κ (pss_one sx_bad) ts_self) (bm K κ pss_nil st_next)) (st_if tt_self ts_self ts_self))
  (bm K κ (pss_cons (sm K κ (ps_if (PW.pt (wm K κ (pw_or (tm K κ (pt_not (tm K κ (pt_val (px_call c_is_integer (hr.mono (by decide)) hG rfl (am K κ (pa_cons (pm K κ (pv 3) em_var) (am K κ pa_nil ar_nil)) (ar_cons te_self ta_self)))) (ts_b te_self))) (ts_not tt_self)) (wm K κ (pw_or1 (tm K κ (pt_cmpR op_ltU (pm K κ (pv 3) em_var) (pm K κ pe_int em_int) (nomark _)) (ts_test (em_op ox_lt te_self te_self)))) tt_self)) (ts_or tt_self tt_self))) (bm K κ (pss_one sx_bad) ts_self) (bm K κ pss_nil st_next)) (st_if tt_self ts_self ts_self))
  (bm K κ (pss_cons (sm K κ (ps_if (tm K κ (pt_not (tm K κ (pt_val (px_call c_are_between (hr.mono (by decide)) hG rfl (am K κ (pa_cons (pm K κ (pv 1) em_var) (am K κ (pa_cons (pm K κ pe_int em_int) (am K κ (pa_cons (pm K κ (pe_op op_subU (pm K κ (pv 2) em_var) (pm K κ pe_int em_int)) (em_op ox_sub te_self te_self)) (am K κ pa_nil ar_nil)) (ar_cons te_self ta_self))) (ar_cons te_self ta_self))) (ar_cons te_self ta_self)))) (ts_b te_self))) (ts_not tt_self)) (bm K κ (pss_one sx_bad) ts_self) (bm K κ pss_nil st_next)) (st_if tt_self ts_self ts_self))
  (bm K κ (pss_cons (sm K κ (ps_if (tm K κ (pt_not (tm K κ (pt_val (px_call c_are_between (hr.mono (by decide)) hG rfl (am K κ (pa_cons (pm K κ (pv 4) em_var) (am K κ (pa_cons (pm K κ pe_int em_int) (am K κ (pa_cons (pm K κ (pe_op op_subU (pm K κ (pv 3) em_var) (pm K κ pe_int em_int)) (em_op ox_sub te_self te_self)) (am K κ pa_nil ar_nil)) (ar_cons te_self ta_self))) (ar_cons te_self ta_self))) (ar_cons te_self ta_self)))) (ts_b te_self))) (ts_not tt_self)) (bm K κ (pss_one sx_bad) ts_self) (bm K κ pss_nil st_next)) (st_if tt_self ts_self ts_self))
  (bm K κ (pss_one (sm K κ (ps_asg (px_call c_least_form (hr.mono (by decide)) hG rfl (am K κ (pa_cons (pm K κ (pv 1) em_var) (am K κ (pa_cons (pm K κ (pv 2) em_var) (am K κ (pa_cons (pm K κ (pv 3) em_var) (am K κ (pa_cons (pm K κ (pv 4) em_var) (am K κ pa_nil ar_nil)) (ar_cons te_self ta_self))) (ar_cons te_self ta_self))) (ar_cons te_self ta_self))) (ar_cons te_self ta_self))) (gm K κ (pg_tupK K (n := 4) (by rfl) (pgs_cons (gm K κ (pg_fld K (pm K κ (pv 0) em_var)) (tgx_fld fld_few te_self)) (pgs_cons (gm K κ (pg_fld K (pm K κ (pv 0) em_var)) (tgx_fld fld_start te_self)) (pgs_cons (gm K κ (pg_fld K (pm K κ (pv 0) em_var)) (tgx_fld fld_period te_self)) (pgs_cons (gm K κ (pg_fld K (pm K κ (pv 0) em_var)) (tgx_fld fld_rests te_self)) pgs_nil))))) (tgx_tup (tgx_cons tg_self (tgx_cons tg_self (tgx_cons tg_self (tgx_cons tg_self tgx_nil))))))) (st_asg te_self tg_self))) ts_self)) (st_seq ts_self ts_self))) (st_seq ts_self ts_self))) (st_seq ts_self ts_self))) (st_seq ts_self ts_self))
theorem ok_L_cal_of {f : Addr} {fd : FuncData} {dvs : List V} {kws : List (Str × V)} (T : Bl mg) (mk_Calendar_0 : Kx P w K κ mg base "Calendar" 0 3 m_Calendar___init__ []) (F : FunD K "_law_cal_of" "_law_cal_of" (defArgs s_L_cal_of) (defBody s_L_cal_of) (defScope s_L_cal_of) dvs kws f fd) : FnA P w K mg base CX0 5 f fd p_L_cal_of (spOf K (spX κ m_L_cal_of)) := by
  unfold m_L_cal_of
  refine fn_x (b := b_L_cal_of) F sc_L_cal_of rfl rfl fun cdv A outer s H E hG hr => ?_
  exact (bm K κ (pss_one (sm K κ (ps_ret (px_make mk_Calendar_0 (hr.mono (by decide)) hG rfl (am K κ (pa_cons (pm K κ (pe_ix (ix_K K) (pm K κ (pv 0) em_var) (pm K κ pe_int em_int) (fun _ _ => rfl)) (em_op ox_ix te_self te_self)) (am K κ (pa_cons (pm K κ (pe_ix (ix_K K) (pm K κ (pv 0) em_var) (pm K κ pe_int em_int) (fun _ _ => rfl)) (em_op ox_ix te_self te_self)) (am K κ (pa_cons (pm K κ (pe_ix (ix_K K) (pm K κ (pv 0) em_var) (pm K κ pe_int em_int) (fun _ _ => rfl)) (em_op ox_ix te_self te_self)) (am K κ (pa_cons (pm K κ (pe_ix (ix_K K) (pm K κ (pv 0) em_var) (pm K κ pe_int em_int) (fun _ _ => rfl)) (em_op ox_ix te_self te_self)) (am K κ pa_nil ar_nil)) (ar_cons te_self ta_self))) (ar_cons te_self ta_self))) (ar_cons te_self ta_self))) (ar_cons te_self ta_self)))) (st_ret te_self))) ts_self)
theorem ok_L_has {f : Addr} {fd : FuncData} {dvs : List V} {kws : List (Str × V)} (T : Bl mg) (F : FunD K "_law_has" "_law_has" (defArgs s_L_has) (defBody s_L_has) (defScope s_L_has) dvs kws f fd) : FnA P w K mg base CX0 1 f fd p_L_has (spOf K (spX κ m_L_has)) := by
  unfold m_L_has
  refine fn_x (b := b_L_has) F sc_L_has rfl rfl fun cdv A outer s H E hG hr => ?_
  exact (bm K κ (pss_cons (sm K κ (ps_asg (pm K κ (pv 0) em_var) (gm K κ (pg_tupK K (n := 4) (by rfl) (pgs_cons (gm K κ (pg_name (i := 2) sc_L_has.nd rfl (by first | exact Or.inl rfl | exact Or.inr rfl)) tgx_name) (pgs_cons (gm K κ (pg_name (i := 3) sc_L_has.nd rfl (by first | exact Or.inl rfl | exact Or.inr rfl)) tgx_name) (pgs_cons (gm K κ (pg_name (i := 4) sc_L_has.nd rfl (by first | exact Or.inl rfl | exact Or.inr rfl)) tgx_name) (pgs_cons (gm K κ (pg_name (i := 5) sc_L_has.nd rfl (by first | exact Or.inl rfl | exact Or.inr rfl)) tgx_name) pgs_nil))))) (tgx_tup (tgx_cons tg_self (tgx_cons tg_self (tgx_cons tg_self (tgx_cons tg_self tgx_nil))))))) (st_asg te_self tg_self))
  (bm K κ (pss_cons (sm K κ (ps_if (tm K κ (pt_cmpR op_ltU (pm K κ (pv 1) em_var) (pm K κ pe_int em_int) (nomark _)) (ts_test (em_op ox_lt te_self te_self))) (bm K κ (pss_one (sm K κ (ps_ret (pm K κ pe_bl em_bl)) (st_ret te_self))) ts_self) (bm K κ pss_nil st_next)) (st_if tt_self ts_self ts_self))
  (bm K κ (pss_one (sm K κ (ps_ret (pm K κ (pe_ifExp (tm K κ (pt_cmpR op_ltU (pm K κ (pv 1) em_var) (pm K κ (pv 3) em_var) (nomark _)) (ts_test (em_op ox_lt te_self te_self))) (pm K κ (pe_cmpR (op_inX K) (pm K κ (pv 1) em_var) (pm K κ (pv 2) em_var) (by rfl)) (em_op ox_in te_self te_self)) (pm K κ (pe_cmpR (op_inX K) (pm K κ (pe_op op_modU (pm K κ (pv 1) em_var) (pm K κ (pv 4) em_var)) (em_op ox_mod te_self te_self)) (pm K κ (pv 5) em_var) (by rfl)) (em_op ox_in te_self te_self))) (em_if tt_self te_self te_self))) (st_ret te_self))) ts_self)) (st_seq ts_self ts_self))) (st_seq ts_self ts_self))
theorem ok_Calendar___str__ {f : Addr} {fd : FuncData} {dvs : List V} {kws : List (Str × V)} (T : Bl mg) (fld_few : ∀ c ∈ ([0] : List Nat), FldOk K (κ c) "few") (fld_period : ∀ c ∈ ([0] : List Nat), FldOk K (κ c) "period") (fld_rests : ∀ c ∈ ([0] : List Nat), FldOk K (κ c) "rests") (fld_start : ∀ c ∈ ([0] : List Nat), FldOk K (κ c) "start") (F : FunD K "__str__" "Calendar.__str__" (defArgs s_Calendar___str__) (defBody s_Calendar___str__) (defScope s_Calendar___str__) dvs kws f fd) : FnA P w K mg base CX0 1 f fd p_Calendar___str__ (spOf K (spX κ m_Calendar___str__)) := by
  unfold m_Calendar___str__
  refine fn_x (b := b_Calendar___str__) F sc_Calendar___str__ rfl rfl fun cdv A outer s H E hG hr => ?_
  exact (bm K κ (pss_cons (sm K κ (ps_set (i := 1) sc_Calendar___str__.nd rfl (by first | exact Or.inl rfl | exact Or.inr rfl) (pm K κ (pe_ifExp (tm K κ (pt_cmpR op_gtU (pm K κ (pe_callB (cr_lenK K) (by rfl) T.len (by decide +kernel) (am K κ (pa_cons (pm K κ (pe_fldK K (pm K κ (pv 0) em_var) rfl) (em_fld fld_few te_self)) (am K κ pa_nil ar_nil)) (ar_cons te_self ta_self))) (em_cb cx_len ta_self)) (pm K κ pe_int em_int) (nomark _)) (ts_test (em_op ox_gt te_self te_self))) (pm K κ (pe_bmK K PySem.F.plainAttrs_str PySem.F.slot_str_join PySem.F.type_str_join (mt_joinX K) (pm K κ pe_str em_str) (am K κ (pa_cons (pm K κ (pe_lc (own := [("one", 2)]) (by rfl) sc_Calendar___str__.nd (im K κ (pi_any K (pm K κ (pe_fldK K (pm K κ (pv 0) em_var) rfl) (em_fld fld_few te_self))) (it_any te_self)) (blkOk_by (own := [("one", 2)]) (N := N_Calendar___str__) (sc := defScope s_Calendar___str__) (by decide +kernel)) (fun _ _ _ _ _ => (pg_name (i := 2) sc_Calendar___str__.nd rfl (by first | exact Or.inl rfl | exact Or.inr rfl))) (fun _ _ _ _ _ => (ptsm K κ pts_nil ts_yes)) (fun _ _ _ _ _ => (pm K κ (pe_callTy cr_strX (by rfl) T.str (by decide +kernel) (am K κ (pa_cons (pm K κ (pv 2) em_var) (am K κ pa_nil ar_nil)) (ar_cons te_self ta_self))) (em_cb cx_str ta_self)))) (em_lc (wo_name (by decide)) ti_self tgx_name tt_self te_self)) (am K κ pa_nil ar_nil)) (ar_cons te_self ta_self))) (em_bm (by decide) mx_join te_self ta_self)) (pm K κ pe_str em_str)) (em_if tt_self te_self te_self))) (st_asg te_self tgx_name))
  (bm K κ (pss_cons (sm K κ (ps_if (tm K κ (pt_cmpR (op_eqK K hr.units) (pm K κ (pe_callB (cr_lenK K) (by rfl) T.len (by decide +kernel) (am K κ (pa_cons (pm K κ (pe_fldK K (pm K κ (pv 0) em_var) rfl) (em_fld fld_rests te_self)) (am K κ pa_nil ar_nil)) (ar_cons te_self ta_self))) (em_cb cx_len ta_self)) (pm K κ pe_int em_int) (nomark _)) (ts_test (em_op ox_eq te_self te_self))) (bm K κ (pss_one (sm K κ (ps_ret (px_joined1 (px_fmt0 (pm K κ (pv 1) em_var)))) (st_ret te_self))) ts_self) (bm K κ pss_nil st_next)) (st_if tt_self ts_self ts_self))
  (bm K κ (pss_one (sm K κ (ps_ret (px_joined (.cons (px_fmt0 (pm K κ (pv 1) em_var)) (.cons (pm K κ pe_str em_str) (.cons (px_fmt0 (pm K κ (pe_fldK K (pm K κ (pv 0) em_var) rfl) (em_fld fld_start te_self))) (.cons (pm K κ pe_str em_str) (.cons (px_fmt0 (pm K κ (pe_fldK K (pm K κ (pv 0) em_var) rfl) (em_fld fld_period te_self))) (.cons (pm K κ pe_str em_str) (.cons (px_fmt0 (pm K κ (pe_bmK K PySem.F.plainAttrs_str PySem.F.slot_str_join PySem.F.type_str_join (mt_joinX K) (pm K κ pe_str em_str) (am K κ (pa_cons (pm K κ (pe_lc (own := [("rest", 3)]) (by rfl) sc_Calendar___str__.nd (im K κ (pi_any K (pm K κ (pe_fldK K (pm K κ (pv 0) em_var) rfl) (em_fld fld_rests te_self))) (it_any te_self)) (blkOk_by (own := [("rest", 3)]) (N := N_Calendar___str__) (sc := defScope s_Calendar___str__) (by decide +kernel)) (fun _ _ _ _ _ => (pg_name (i := 3) sc_Calendar___str__.nd rfl (by first | exact Or.inl rfl | exact Or.inr rfl))) (fun _ _ _ _ _ => (ptsm K κ pts_nil ts_yes)) (fun _ _ _ _ _ => (pm K κ (pe_callTy cr_strX (by rfl) T.str (by decide +kernel) (am K κ (pa_cons (pm K κ (pv 3) em_var) (am K κ pa_nil ar_nil)) (ar_cons te_self ta_self))) (em_cb cx_str ta_self)))) (em_lc (wo_name (by decide)) ti_self tgx_name tt_self te_self)) (am K κ pa_nil ar_nil)) (ar_cons te_self ta_self))) (em_bm (by decide) mx_join te_self ta_self))) .nil))))))))) (st_ret te_self))) ts_self)) (st_seq ts_self ts_self))) (st_seq ts_self ts_self))
theorem ok_Calendar___eq__ {f : Addr} {fd : FuncData} {dvs : List V} {kws : List (Str × V)} (T : Bl mg) (O : Ow K κ 1) (O2 : Ow2 K κ 1) (kc_Calendar : Kst K κ mg "Calendar" (.cls 0)) (spstr : ∀ p ∈ ([(0, m_Calendar___str__)] : List (Nat × Mf)), Sx P w K κ mg base p.1 "__str__" 1 p.2) (F : FunD K "__eq__" "Calendar.__eq__" (defArgs s_Calendar___eq__) (defBody s_Calendar___eq__) (defScope s_Calendar___eq__) dvs kws f fd) : FnA P w K mg base CX0 4 f fd p_Calendar___eq__ (spOf K (spX κ m_Calendar___eq__)) := by
  unfold m_Calendar___eq__
  refine fn_x (b := b_Calendar___eq__) F sc_Calendar___eq__ rfl rfl fun cdv A outer s H E hG hr => ?_
  exact (bm K κ (pss_one (sm K κ (ps_ret (pm K κ (pe_and (pm K κ (pe_callB (cr_isiX K) (by rfl) T.isinstance (by decide +kernel) (am K κ (pa_cons (pm K κ (pv 1) em_var) (am K κ (pa_cons (px_kst kc_Calendar rfl) (am K κ pa_nil ar_nil)) (ar_cons te_self ta_self))) (ar_cons te_self ta_self))) (em_cb (cx_isiN O) ta_self)) (pm K κ (pe_one (pm K κ (pe_cmpR (op_eqK K hr.units) (pm K κ (pe_callTy (cr_strL K spstr (hr.mono (by decide)) hG) (by rfl) T.str (by decide +kernel) (am K κ (pa_cons (pm K κ (pv 0) em_var) (am K κ pa_nil ar_nil)) (ar_cons te_self ta_self))) (em_cb cx_strL ta_self)) (pm K κ (pe_callTy (cr_strL K spstr (hr.mono (by decide)) hG) (by rfl) T.str (by decide +kernel) (am K κ (pa_cons (pm K κ (pv 1) em_var) (am K κ pa_nil ar_nil)) (ar_cons te_self ta_self))) (em_cb cx_strL ta_self)) (nomark _)) (em_op ox_eq te_self te_self))) te_self)) (em_and te_self te_self))) (st_ret te_self))) ts_self)
theorem ok_greatest_part {f : Addr} {fd : FuncData} {dvs : List V} {kws : List (Str × V)} (T : Bl mg) (F : FunD K "greatest_part" "greatest_part" (defArgs s_greatest_part) (defBody s_greatest_part) (defScope s_greatest_part) dvs kws f fd) : FnA P w K mg base CX0 1 f fd p_greatest_part (spOf K (spX κ m_greatest_part)) := by
  unfold m_greatest_part
  refine fn_x (b := b_greatest_part) F sc_greatest_part rfl rfl fun cdv A outer s H E hG hr => ?_
  exact (bm K κ (pss_cons (sm K κ (ps_while PassesOwn.never (tm K κ (pt_cmpR op_gtU (pm K κ (pv 1) em_var) (pm K κ pe_int em_int) (nomark _)) (ts_test (em_op ox_gt te_self te_self))) (bm K κ (pss_one (sm K κ (ps_par (i := 0) (j := 1) (by rfl) sc_greatest_part.nd rfl rfl (by decide) rfl rfl (am K κ (pa_cons (pm K κ (pv 1) em_var) (am K κ (pa_cons (pm K κ (pe_op op_modU (pm K κ (pv 0) em_var) (pm K κ (pv 1) em_var)) (em_op ox_mod te_self te_self)) (am K κ pa_nil ar_nil)) (ar_cons te_self ta_self))) (ar_cons te_self ta_self)) (by rfl)) (st_par ta_self))) ts_self)) (st_while tt_self ts_self))
  (bm K κ (pss_one (sm K κ (ps_ret (pm K κ (pv 0) em_var)) (st_ret te_self))) ts_self)) (st_seq ts_self ts_self))
theorem ok_common {f : Addr} {fd : FuncData} {dvs : List V} {kws : List (Str × V)} (T : Bl mg) (c_greatest_part : Cx' P w K κ mg base "greatest_part" p_greatest_part 1 m_greatest_part) (F : FunD K "common" "common" (defArgs s_common) (defBody s_common) (defScope s_common) dvs kws f fd) : FnA P w K mg base CX0 2 f fd p_common (spOf K (spX κ m_common)) := by
  unfold m_common
  refine fn_x (b := b_common) F sc_common rfl rfl fun cdv A outer s H E hG hr => ?_
  exact (bm K κ (pss_one (sm K κ (ps_ret (pm K κ (pe_op op_fdivW (pm K κ (pe_op op_mulU (pm K κ (pv 0) em_var) (pm K κ (pv 1) em_var)) (em_op ox_mul te_self te_self)) (px_call c_greatest_part (hr.mono (by decide)) hG rfl (am K κ (pa_cons (pm K κ (pv 0) em_var) (am K κ (pa_cons (pm K κ (pv 1) em_var) (am K κ pa_nil ar_nil)) (ar_cons te_self ta_self))) (ar_cons te_self ta_self)))) (em_op ox_div te_self te_self))) (st_ret te_self))) ts_self)
theorem ok_later_start {f : Addr} {fd : FuncData} {dvs : List V} {kws : List (Str × V)} (T : Bl mg) (fld_start : ∀ c ∈ ([0] : List Nat), FldOk K (κ c) "start") (F : FunD K "later_start" "later_start" (defArgs s_later_start) (defBody s_later_start) (defScope s_later_start) dvs kws f fd) : FnA P w K mg base CX0 1 f fd p_later_start (spOf K (spX κ m_later_start)) := by
  unfold m_later_start
  refine fn_x (b := b_later_start) F sc_later_start rfl rfl fun cdv A outer s H E hG hr => ?_
  exact (bm K κ (pss_one (sm K κ (ps_ret (pm K κ (pe_ifExp (tm K κ (pt_cmpR op_gtU (pm K κ (pe_fldK K (pm K κ (pv 0) em_var) rfl) (em_fld fld_start te_self)) (pm K κ (pe_fldK K (pm K κ (pv 1) em_var) rfl) (em_fld fld_start te_self)) (nomark _)) (ts_test (em_op ox_gt te_self te_self))) (pm K κ (pe_fldK K (pm K κ (pv 0) em_var) rfl) (em_fld fld_start te_self)) (pm K κ (pe_fldK K (pm K κ (pv 1) em_var) rfl) (em_fld fld_start te_self))) (em_if tt_self te_self te_self))) (st_ret te_self))) ts_self)
theorem ok_is_in_by {f : Addr} {fd : FuncData} {dvs : List V} {kws : List (Str × V)} (T : Bl mg) (F : FunD K "is_in_by" "is_in_by" (defArgs s_is_in_by) (defBody s_is_in_by) (defScope s_is_in_by) dvs kws f fd) : FnA P w K mg base CX0 1 f fd p_is_in_by (spOf K (spX κ m_is_in_by)) := by
  unfold m_is_in_by
  refine fn_x (b := b_is_in_by) F sc_is_in_by rfl rfl fun cdv A outer s H E hG hr => ?_
  exact (bm K κ (pss_cons (sm K κ (ps_if (tm K κ (pt_cmpR (op_eqK K hr.units) (pm K κ (pv 0) em_var) (pm K κ pe_str em_str) (nomark _)) (ts_test (em_op ox_eq te_self te_self))) (bm K κ (pss_one (sm K κ (ps_ret (pm K κ (pe_and (pm K κ (pv 1) em_var) (pm K κ (pe_one (pm K κ (pv 2) em_var)) te_self)) (em_and te_self te_self))) (st_ret te_self))) ts_self) (bm K κ pss_nil st_next)) (st_if tt_self ts_self ts_self))
  (bm K κ (pss_cons (sm K κ (ps_if (tm K κ (pt_cmpR (op_eqK K hr.units) (pm K κ (pv 0) em_var) (pm K κ pe_str em_str) (nomark _)) (ts_test (em_op ox_eq te_self te_self))) (bm K κ (pss_one (sm K κ (ps_ret (pm K κ (pe_or (pm K κ (pv 1) em_var) (pm K κ (pe_one (pm K κ (pv 2) em_var)) te_self)) (em_or te_self te_self))) (st_ret te_self))) ts_self) (bm K κ pss_nil st_next)) (st_if tt_self ts_self ts_self))
  (bm K κ (pss_one (sm K κ (ps_ret (pm K κ (pe_ifExp (tm K κ (pt_cmpR (op_eqK K hr.units) (pm K κ (pv 0) em_var) (pm K κ pe_str em_str) (nomark _)) (ts_test (em_op ox_eq te_self te_self))) (pm K κ (pe_and (pm K κ (pv 1) em_var) (pm K κ (pe_one (pm K κ (pe_not (pm K κ (pv 2) em_var)) (em_not te_self))) te_self)) (em_and te_self te_self)) (pm K κ (pe_cmpR (op_neK K hr.units) (pm K κ (pv 1) em_var) (pm K κ (pv 2) em_var) (nomark _)) (em_op ox_ne te_self te_self))) (em_if tt_self te_self te_self))) (st_ret te_self))) ts_self)) (st_seq ts_self ts_self))) (st_seq ts_self ts_self))
theorem ok_has {f : Addr} {fd : FuncData} {dvs : List V} {kws : List (Str × V)} (T : Bl mg) (fld_few : ∀ c ∈ ([0] : List Nat), FldOk K (κ c) "few") (fld_period : ∀ c ∈ ([0] : List Nat), FldOk K (κ c) "period") (fld_rests : ∀ c ∈ ([0] : List Nat), FldOk K (κ c) "rests") (fld_start : ∀ c ∈ ([0] : List Nat), FldOk K (κ c) "start") (F : FunD K "has" "has" (defArgs s_has) (defBody s_has) (defScope s_has) dvs kws f fd) : FnA P w K mg base CX0 1 f fd p_has (spOf K (spX κ m_has)) := by
  unfold m_has
  refine fn_x (b := b_has) F sc_has rfl rfl fun cdv A outer s H E hG hr => ?_
  exact (bm K κ (pss_cons (sm K κ (ps_if (tm K κ (pt_cmpR op_ltU (pm K κ (pv 1) em_var) (pm K κ (pe_fldK K (pm K κ (pv 0) em_var) rfl) (em_fld fld_start te_self)) (nomark _)) (ts_test (em_op ox_lt te_self te_self))) (bm K κ (pss_one (sm K κ (ps_ret (pm K κ (pe_cmpR (op_inX K) (pm K κ (pv 1) em_var) (pm K κ (pe_fldK K (pm K κ (pv 0) em_var) rfl) (em_fld fld_few te_self)) (by rfl)) (em_op ox_in te_self te_self))) (st_ret te_self))) ts_self) (bm K κ pss_nil st_next)) (st_if tt_self ts_self ts_self))
  (bm K κ (pss_one (sm K κ (ps_ret (pm K κ (pe_cmpR (op_inX K) (pm K κ (pe_op op_modU (pm K κ (pv 1) em_var) (pm K κ (pe_fldK K (pm K κ (pv 0) em_var) rfl) (em_fld fld_period te_self))) (em_op ox_mod te_self te_self)) (pm K κ (pe_fldK K (pm K κ (pv 0) em_var) rfl) (em_fld fld_rests te_self)) (by rfl)) (em_op ox_in te_self te_self))) (st_ret te_self))) ts_self)) (st_seq ts_self ts_self))
theorem ok_joined {f : Addr} {fd : FuncData} {dvs : List V} {kws : List (Str × V)} (T : Bl mg) (c_common : Cx' P w K κ mg base "common" p_common 2 m_common) (c_has : Cx' P w K κ mg base "has" p_has 1 m_has) (c_is_in_by : Cx' P w K κ mg base "is_in_by" p_is_in_by 1 m_is_in_by) (c_later_start : Cx' P w K κ mg base "later_start" p_later_start 1 m_later_start) (fld_period : ∀ c ∈ ([0] : List Nat), FldOk K (κ c) "period") (F : FunD K "joined" "joined" (defArgs s_joined) (defBody s_joined) (defScope s_joined) dvs kws f fd) : FnA P w K mg base CX0 3 f fd p_joined (spOf K (spX κ m_joined)) := by
  unfold m_joined
  refine fn_x (b := b_joined) F sc_joined rfl rfl fun cdv A outer s H E hG hr => ?_
  exact (bm K κ (pss_cons (sm K κ (ps_asg (pm K κ (pe_tup (am K κ (pa_cons (px_call c_later_start (hr.mono (by decide)) hG rfl (am K κ (pa_cons (pm K κ (pv 0) em_var) (am K κ (pa_cons (pm K κ (pv 1) em_var) (am K κ pa_nil ar_nil)) (ar_cons te_self ta_self))) (ar_cons te_self ta_self))) (am K κ (pa_cons (px_call c_common (hr.mono (by decide)) hG rfl (am K κ (pa_cons (pm K κ (pe_fldK K (pm K κ (pv 0) em_var) rfl) (em_fld fld_period te_self)) (am K κ (pa_cons (pm K κ (pe_fldK K (pm K κ (pv 1) em_var) rfl) (em_fld fld_period te_self)) (am K κ pa_nil ar_nil)) (ar_cons te_self ta_self))) (ar_cons te_self ta_self))) (am K κ pa_nil ar_nil)) (ar_cons te_self ta_self))) (ar_cons te_self ta_self))) (em_tup ta_self)) (gm K κ (pg_tupK K (n := 2) (by rfl) (pgs_cons (gm K κ (pg_name (i := 3) sc_joined.nd rfl (by first | exact Or.inl rfl | exact Or.inr rfl)) tgx_name) (pgs_cons (gm K κ (pg_name (i := 4) sc_joined.nd rfl (by first | exact Or.inl rfl | exact Or.inr rfl)) tgx_name) pgs_nil))) (tgx_tup (tgx_cons tg_self (tgx_cons tg_self tgx_nil))))) (st_asg te_self tg_self))
  (bm K κ (pss_cons (sm K κ (ps_setLc (i := 5) (own := [("at", 7)]) (by rfl) sc_joined.nd rfl rfl (sw_true rfl rfl rfl (by decide +kernel)) (im K κ (pi_range2 (by rfl) T.range (am K κ (pa_cons (pm K κ pe_int em_int) (am K κ (pa_cons (pm K κ (pe_op (op_addX K) (pm K κ (pv 3) em_var) (pm K κ (pv 4) em_var)) (em_op ox_add te_self te_self)) (am K κ pa_nil ar_nil)) (ar_cons te_self ta_self))) (ar_cons te_self ta_self))) (it_rng2 ta_self)) (blkOk_by (own := [("at", 7)]) (N := N_joined) (sc := defScope s_joined) (by decide +kernel)) (fun _ _ _ _ _ => (pg_name (i := 7) sc_joined.nd rfl (by first | exact Or.inl rfl | exact Or.inr rfl))) (fun _ _ _ _ _ => (ptsm K κ (pts_one (tm K κ (pt_val (px_call c_is_in_by (hr.mono (by decide)) hG rfl (am K κ (pa_cons (pm K κ (pv 2) em_var) (am K κ (pa_cons (px_call c_has (hr.mono (by decide)) hG rfl (am K κ (pa_cons (pm K κ (pv 0) em_var) (am K κ (pa_cons (pm K κ (pv 7) em_var) (am K κ pa_nil ar_nil)) (ar_cons te_self ta_self))) (ar_cons te_self ta_self))) (am K κ (pa_cons (px_call c_has (hr.mono (by decide)) hG rfl (am K κ (pa_cons (pm K κ (pv 1) em_var) (am K κ (pa_cons (pm K κ (pv 7) em_var) (am K κ pa_nil ar_nil)) (ar_cons te_self ta_self))) (ar_cons te_self ta_self))) (am K κ pa_nil ar_nil)) (ar_cons te_self ta_self))) (ar_cons te_self ta_self))) (ar_cons te_self ta_self)))) (ts_b te_self))) tt_self)) (fun _ _ _ _ _ => (pm K κ (pv 7) em_var))) (st_asg (em_lc (wo_name (by decide)) ti_self tgx_name tt_self te_self) tgx_name))
  (bm K κ (pss_cons (sm K κ (ps_setLc (i := 6) (own := [("at", 7)]) (by rfl) sc_joined.nd rfl rfl (sw_true rfl rfl rfl (by decide +kernel)) (im K κ (pi_any K (pm K κ (pv 5) em_var)) (it_any te_self)) (blkOk_by (own := [("at", 7)]) (N := N_joined) (sc := defScope s_joined) (by decide +kernel)) (fun _ _ _ _ _ => (pg_name (i := 7) sc_joined.nd rfl (by first | exact Or.inl rfl | exact Or.inr rfl))) (fun _ _ _ _ _ => (ptsm K κ (pts_one (tm K κ (pt_cmpR op_geU (pm K κ (pv 7) em_var) (pm K κ (pv 3) em_var) (nomark _)) (ts_test (em_op ox_ge te_self te_self)))) tt_self)) (fun _ _ _ _ _ => (pm K κ (pe_op op_modU (pm K κ (pv 7) em_var) (pm K κ (pv 4) em_var)) (em_op ox_mod te_self te_self)))) (st_asg (em_lc (wo_name (by decide)) ti_self tgx_name tt_self te_self) tgx_name))
  (bm K κ (pss_one (sm K κ (ps_ret (pm K κ (pe_tup (am K κ (pa_cons (pm K κ (pe_lc (own := [("at", 7)]) (by rfl) sc_joined.nd (im K κ (pi_any K (pm K κ (pv 5) em_var)) (it_any te_self)) (blkOk_by (own := [("at", 7)]) (N := N_joined) (sc := defScope s_joined) (by decide +kernel)) (fun _ _ _ _ _ => (pg_name (i := 7) sc_joined.nd rfl (by first | exact Or.inl rfl | exact Or.inr rfl))) (fun _ _ _ _ _ => (ptsm K κ (pts_one (tm K κ (pt_cmpR op_ltU (pm K κ (pv 7) em_var) (pm K κ (pv 3) em_var) (nomark _)) (ts_test (em_op ox_lt te_self te_self)))) tt_self)) (fun _ _ _ _ _ => (pm K κ (pv 7) em_var))) (em_lc (wo_name (by decide)) ti_self tgx_name tt_self te_self)) (am K κ (pa_cons (pm K κ (pv 3) em_var) (am K κ (pa_cons (pm K κ (pv 4) em_var) (am K κ (pa_cons (pm K κ (pv 6) em_var) (am K κ pa_nil ar_nil)) (ar_cons te_self ta_self))) (ar_cons te_self ta_self))) (ar_cons te_self ta_self))) (ar_cons te_self ta_self))) (em_tup ta_self))) (st_ret te_self))) ts_self)) (st_seq ts_self ts_self))) (st_seq ts_self ts_self))) (st_seq ts_self ts_self))
theorem ok_Calendar___xor__ {f : Addr} {fd : FuncData} {dvs : List V} {kws : List (Str × V)} (T : Bl mg) (O : Ow K κ 1) (O2 : Ow2 K κ 1) (c_joined : Cx' P w K κ mg base "joined" p_joined 3 m_joined) (kc_Calendar : Kst K κ mg "Calendar" (.cls 0)) (mk_Calendar_0 : Kx P w K κ mg base "Calendar" 0 3 m_Calendar___init__ []) (F : FunD K "__xor__" "Calendar.__xor__" (defArgs s_Calendar___xor__) (defBody s_Calendar___xor__) (defScope s_Calendar___xor__) dvs kws f fd) : FnA P w K mg base CX0 5 f fd p_Calendar___xor__ (spOf K (spX κ m_Calendar___xor__)) := by
  unfold m_Calendar___xor__
  refine fn_x (b := b_Calendar___xor__) F sc_Calendar___xor__ rfl rfl fun cdv A outer s H E hG hr => ?_
  exact (bm K κ (pss_cons (sm K κ (ps_if (tm K κ (pt_not (tm K κ (pt_val (pm K κ (pe_callB (cr_isiX K) (by rfl) T.isinstance (by decide +kernel) (am K κ (pa_cons (pm K κ (pv 1) em_var) (am K κ (pa_cons (px_kst kc_Calendar rfl) (am K κ pa_nil ar_nil)) (ar_cons te_self ta_self))) (ar_cons te_self ta_self))) (em_cb (cx_isiN O) ta_self))) (ts_b te_self))) (ts_not tt_self)) (bm K κ (pss_one (sm K κ (ps_ret px_bad) (st_ret te_self))) ts_self) (bm K κ pss_nil st_next)) (st_if tt_self ts_self ts_self))
  (bm K κ (pss_cons (sm K κ (ps_asg (px_call c_joined (hr.mono (by decide)) hG rfl (am K κ (pa_cons (pm K κ (pv 0) em_var) (am K κ (pa_cons (pm K κ (pv 1) em_var) (am K κ (pa_cons (pm K κ pe_str em_str) (am K κ pa_nil ar_nil)) (ar_cons te_self ta_self))) (ar_cons te_self ta_self))) (ar_cons te_self ta_self))) (gm K κ (pg_tupK K (n := 4) (by rfl) (pgs_cons (gm K κ (pg_name (i := 2) sc_Calendar___xor__.nd rfl (by first | exact Or.inl rfl | exact Or.inr rfl)) tgx_name) (pgs_cons (gm K κ (pg_name (i := 3) sc_Calendar___xor__.nd rfl (by first | exact Or.inl rfl | exact Or.inr rfl)) tgx_name) (pgs_cons (gm K κ (pg_name (i := 4) sc_Calendar___xor__.nd rfl (by first | exact Or.inl rfl | exact Or.inr rfl)) tgx_name) (pgs_cons (gm K κ (pg_name (i := 5) sc_Calendar___xor__.nd rfl (by first | exact Or.inl rfl | exact Or.inr rfl)) tgx_name) pgs_nil))))) (tgx_tup (tgx_cons tg_self (tgx_cons tg_self (tgx_cons tg_self (tgx_cons tg_self tgx_nil))))))) (st_asg te_self tg_self))
  (bm K κ (pss_one (sm K κ (ps_ret (px_make mk_Calendar_0 (hr.mono (by decide)) hG rfl (am K κ (pa_cons (pm K κ (pv 2) em_var) (am K κ (pa_cons (pm K κ (pv 3) em_var) (am K κ (pa_cons (pm K κ (pv 4) em_var) (am K κ (pa_cons (pm K κ (pv 5) em_var) (am K κ pa_nil ar_nil)) (ar_cons te_self ta_self))) (ar_cons te_self ta_self))) (ar_cons te_self ta_self))) (ar_cons te_self ta_self)))) (st_ret te_self))) ts_self)) (st_seq ts_self ts_self))) (st_seq ts_self ts_self))
theorem ok_Calendar___sub__ {f : Addr} {fd : FuncData} {dvs : List V} {kws : List (Str × V)} (T : Bl mg) (O : Ow K κ 1) (O2 : Ow2 K κ 1) (c_joined : Cx' P w K κ mg base "joined" p_joined 3 m_joined) (kc_Calendar : Kst K κ mg "Calendar" (.cls 0)) (mk_Calendar_0 : Kx P w K κ mg base "Calendar" 0 3 m_Calendar___init__ []) (F : FunD K "__sub__" "Calendar.__sub__" (defArgs s_Calendar___sub__) (defBody s_Calendar___sub__) (defScope s_Calendar___sub__) dvs kws f fd) : FnA P w K mg base CX0 5 f fd p_Calendar___sub__ (spOf K (spX κ m_Calendar___sub__)) := by
  unfold m_Calendar___sub__
  refine fn_x (b := b_Calendar___sub__) F sc_Calendar___sub__ rfl rfl fun cdv A outer s H E hG hr => ?_
  exact (bm K κ (pss_cons (sm K κ (ps_if (tm K κ (pt_not (tm K κ (pt_val (pm K κ (pe_callB (cr_isiX K) (by rfl) T.isinstance (by decide +kernel) (am K κ (pa_cons (pm K κ (pv 1) em_var) (am K κ (pa_cons (px_kst kc_Calendar rfl) (am K κ pa_nil ar_nil)) (ar_cons te_self ta_self))) (ar_cons te_self ta_self))) (em_cb (cx_isiN O) ta_self))) (ts_b te_self))) (ts_not tt_self)) (bm K κ (pss_one (sm K κ (ps_ret px_bad) (st_ret te_self))) ts_self) (bm K κ pss_nil st_next)) (st_if tt_self ts_self ts_self))
  (bm K κ (pss_cons (sm K κ (ps_asg (px_call c_joined (hr.mono (by decide)) hG rfl (am K κ (pa_cons (pm K κ (pv 0) em_var) (am K κ (pa_cons (pm K κ (pv 1) em_var) (am K κ (pa_cons (pm K κ pe_str em_str) (am K κ pa_nil ar_nil)) (ar_cons te_self ta_self))) (ar_cons te_self ta_self))) (ar_cons te_self ta_self))) (gm K κ (pg_tupK K (n := 4) (by rfl) (pgs_cons (gm K κ (pg_name (i := 2) sc_Calendar___sub__.nd rfl (by first | exact Or.inl rfl | exact Or.inr rfl)) tgx_name) (pgs_cons (gm K κ (pg_name (i := 3) sc_Calendar___sub__.nd rfl (by first | exact Or.inl rfl | exact Or.inr rfl)) tgx_name) (pgs_cons (gm K κ (pg_name (i := 4) sc_Calendar___sub__.nd rfl (by first | exact Or.inl rfl | exact Or.inr rfl)) tgx_name) (pgs_cons (gm K κ (pg_name (i := 5) sc_Calendar___sub__.nd rfl (by first | exact Or.inl rfl | exact Or.inr rfl)) tgx_name) pgs_nil))))) (tgx_tup (tgx_cons tg_self (tgx_cons tg_self (tgx_cons tg_self (tgx_cons tg_self tgx_nil))))))) (st_asg te_self tg_self))
  (bm K κ (pss_one (sm K κ (ps_ret (px_make mk_Calendar_0 (hr.mono (by decide)) hG rfl (am K κ (pa_cons (pm K κ (pv 2) em_var) (am K κ (pa_cons (pm K κ (pv 3) em_var) (am K κ (pa_cons (pm K κ (pv 4) em_var) (am K κ (pa_cons (pm K κ (pv 5) em_var) (am K κ pa_nil ar_nil)) (ar_cons te_self ta_self))) (ar_cons te_self ta_self))) (ar_cons te_self ta_self))) (ar_cons te_self ta_self)))) (st_ret te_self))) ts_self)) (st_seq ts_self ts_self))) (st_seq ts_self ts_self))
theorem ok_Calendar___or__ {f : Addr} {fd : FuncData} {dvs : List V} {kws : List (Str × V)} (T : Bl mg) (O : Ow K κ 1) (O2 : Ow2 K κ 1) (c_joined : Cx' P w K κ mg base "joined" p_joined 3 m_joined) (kc_Calendar : Kst K κ mg "Calendar" (.cls 0)) (mk_Calendar_0 : Kx P w K κ mg base "Calendar" 0 3 m_Calendar___init__ []) (F : FunD K "__or__" "Calendar.__or__" (defArgs s_Calendar___or__) (defBody s_Calendar___or__) (defScope s_Calendar___or__) dvs kws f fd) : FnA P w K mg base CX0 5 f fd p_Calendar___or__ (spOf K (spX κ m_Calendar___or__)) := by
  unfold m_Calendar___or__
  refine fn_x (b := b_Calendar___or__) F sc_Calendar___or__ rfl rfl fun cdv A outer s H E hG hr => ?_
  exact (bm K κ (pss_cons (sm K κ (ps_if (tm K κ (pt_not (tm K κ (pt_val (pm K κ (pe_callB (cr_isiX K) (by rfl) T.isinstance (by decide +kernel) (am K κ (pa_cons (pm K κ (pv 1) em_var) (am K κ (pa_cons (px_kst kc_Calendar rfl) (am K κ pa_nil ar_nil)) (ar_cons te_self ta_self))) (ar_cons te_self ta_self))) (em_cb (cx_isiN O) ta_self))) (ts_b te_self))) (ts_not tt_self)) (bm K κ (pss_one (sm K κ (ps_ret px_bad) (st_ret te_self))) ts_self) (bm K κ pss_nil st_next)) (st_if tt_self ts_self ts_self))
  (bm K κ (pss_cons (sm K κ (ps_asg (px_call c_joined (hr.mono (by decide)) hG rfl (am K κ (pa_cons (pm K κ (pv 0) em_var) (am K κ (pa_cons (pm K κ (pv 1) em_var) (am K κ (pa_cons (pm K κ pe_str em_str) (am K κ pa_nil ar_nil)) (ar_cons te_self ta_self))) (ar_cons te_self ta_self))) (ar_cons te_self ta_self))) (gm K κ (pg_tupK K (n := 4) (by rfl) (pgs_cons (gm K κ (pg_name (i := 2) sc_Calendar___or__.nd rfl (by first | exact Or.inl rfl | exact Or.inr rfl)) tgx_name) (pgs_cons (gm K κ (pg_name (i := 3) sc_Calendar___or__.nd rfl (by first | exact Or.inl rfl | exact Or.inr rfl)) tgx_name) (pgs_cons (gm K κ (pg_name (i := 4) sc_Calendar___or__.nd rfl (by first | exact Or.inl rfl | exact Or.inr rfl)) tgx_name) (pgs_cons (gm K κ (pg_name (i := 5) sc_Calendar___or__.nd rfl (by first | exact Or.inl rfl | exact Or.inr rfl)) tgx_name) pgs_nil))))) (tgx_tup (tgx_cons tg_self (tgx_cons tg_self (tgx_cons tg_self (tgx_cons tg_self tgx_nil))))))) (st_asg te_self tg_self))
  (bm K κ (pss_one (sm K κ (ps_ret (px_make mk_Calendar_0 (hr.mono (by decide)) hG rfl (am K κ (pa_cons (pm K κ (pv 2) em_var) (am K κ (pa_cons (pm K κ (pv 3) em_var) (am K κ (pa_cons (pm K κ (pv 4) em_var) (am K κ (pa_cons (pm K κ (pv 5) em_var) (am K κ pa_nil ar_nil)) (ar_cons te_self ta_self))) (ar_cons te_self ta_self))) (ar_cons te_self ta_self))) (ar_cons te_self ta_self)))) (st_ret te_self))) ts_self)) (st_seq ts_self ts_self))) (st_seq ts_self ts_self))
theorem ok_Calendar___and__ {f : Addr} {fd : FuncData} {dvs : List V} {kws : List (Str × V)} (T : Bl mg) (O : Ow K κ 1) (O2 : Ow2 K κ 1) (c_joined : Cx' P w K κ mg base "joined" p_joined 3 m_joined) (kc_Calendar : Kst K κ mg "Calendar" (.cls 0)) (mk_Calendar_0 : Kx P w K κ mg base "Calendar" 0 3 m_Calendar___init__ []) (F : FunD K "__and__" "Calendar.__and__" (defArgs s_Calendar___and__) (defBody s_Calendar___and__) (defScope s_Calendar___and__) dvs kws f fd) : FnA P w K mg base CX0 5 f fd p_Calendar___and__ (spOf K (spX κ m_Calendar___and__)) := by
  unfold m_Calendar___and__
  refine fn_x (b := b_Calendar___and__) F sc_Calendar___and__ rfl rfl fun cdv A outer s H E hG hr => ?_
  exact (bm K κ (pss_cons (sm K κ (ps_if (tm K κ (pt_not (tm K κ (pt_val (pm K κ (pe_callB (cr_isiX K) (by rfl) T.isinstance (by decide +kernel) (am K κ (pa_cons (pm K κ (pv 1) em_var) (am K κ (pa_cons (px_kst kc_Calendar rfl) (am K κ pa_nil ar_nil)) (ar_cons te_self ta_self))) (ar_cons te_self ta_self))) (em_cb (cx_isiN O) ta_self))) (ts_b te_self))) (ts_not tt_self)) (bm K κ (pss_one (sm K κ (ps_ret px_bad) (st_ret te_self))) ts_self) (bm K κ pss_nil st_next)) (st_if tt_self ts_self ts_self))
  (bm K κ (pss_cons (sm K κ (ps_asg (px_call c_joined (hr.mono (by decide)) hG rfl (am K κ (pa_cons (pm K κ (pv 0) em_var) (am K κ (pa_cons (pm K κ (pv 1) em_var) (am K κ (pa_cons (pm K κ pe_str em_str) (am K κ pa_nil ar_nil)) (ar_cons te_self ta_self))) (ar_cons te_self ta_self))) (ar_cons te_self ta_self))) (gm K κ (pg_tupK K (n := 4) (by rfl) (pgs_cons (gm K κ (pg_name (i := 2) sc_Calendar___and__.nd rfl (by first | exact Or.inl rfl | exact Or.inr rfl)) tgx_name) (pgs_cons (gm K κ (pg_name (i := 3) sc_Calendar___and__.nd rfl (by first | exact Or.inl rfl | exact Or.inr rfl)) tgx_name) (pgs_cons (gm K κ (pg_name (i := 4) sc_Calendar___and__.nd rfl (by first | exact Or.inl rfl | exact Or.inr rfl)) tgx_name) (pgs_cons (gm K κ (pg_name (i := 5) sc_Calendar___and__.nd rfl (by first | exact Or.inl rfl | exact Or.inr rfl)) tgx_name) pgs_nil))))) (tgx_tup (tgx_cons tg_self (tgx_cons tg_self (tgx_cons tg_self (tgx_cons tg_self tgx_nil))))))) (st_asg te_self tg_self))
  (bm K κ (pss_one (sm K κ (ps_ret (px_make mk_Calendar_0 (hr.mono (by decide)) hG rfl (am K κ (pa_cons (pm K κ (pv 2) em_var) (am K κ (pa_cons (pm K κ (pv 3) em_var) (am K κ (pa_cons (pm K κ (pv 4) em_var) (am K κ (pa_cons (pm K κ (pv 5) em_var) (am K κ pa_nil ar_nil)) (ar_cons te_self ta_self))) (ar_cons te_self ta_self))) (ar_cons te_self ta_self))) (ar_cons te_self ta_self)))) (st_ret te_self))) ts_self)) (st_seq ts_self ts_self))) (st_seq ts_self ts_self))
theorem ok_contrary {f : Addr} {fd : FuncData} {dvs : List V} {kws : List (Str × V)} (T : Bl mg) (fld_few : ∀ c ∈ ([0] : List Nat), FldOk K (κ c) "few") (fld_period : ∀ c ∈ ([0] : List Nat), FldOk K (κ c) "period") (fld_rests : ∀ c ∈ ([0] : List Nat), FldOk K (κ c) "rests") (fld_start : ∀ c ∈ ([0] : List Nat), FldOk K (κ c) "start") (F : FunD K "contrary" "contrary" (defArgs s_contrary) (defBody s_contrary) (defScope s_contrary) dvs kws f fd) : FnA P w K mg base CX0 1 f fd p_contrary (spOf K (spX κ m_contrary)) := by
  unfold m_contrary
  refine fn_x (b := b_contrary) F sc_contrary rfl rfl fun cdv A outer s H E hG hr => ?_
  exact (bm K κ (pss_cons (sm K κ (ps_setLc (i := 1) (own := [("at", 2)]) (by rfl) sc_contrary.nd rfl rfl (sw_true rfl rfl rfl (by decide +kernel)) (im K κ (pi_range2 (by rfl) T.range (am K κ (pa_cons (pm K κ pe_int em_int) (am K κ (pa_cons (pm K κ (pe_fldK K (pm K κ (pv 0) em_var) rfl) (em_fld fld_start te_self)) (am K κ pa_nil ar_nil)) (ar_cons te_self ta_self))) (ar_cons te_self ta_self))) (it_rng2 ta_self)) (blkOk_by (own := [("at", 2)]) (N := N_contrary) (sc := defScope s_contrary) (by decide +kernel)) (fun _ _ _ _ _ => (pg_name (i := 2) sc_contrary.nd rfl (by first | exact Or.inl rfl | exact Or.inr rfl))) (fun _ _ _ _ _ => (ptsm K κ (pts_one (tm K κ (pt_cmpR (op_notInX K) (pm K κ (pv 2) em_var) (pm K κ (pe_fldK K (pm K κ (pv 0) em_var) rfl) (em_fld fld_few te_self)) (by rfl)) (ts_test (em_op ox_notIn te_self te_self)))) tt_self)) (fun _ _ _ _ _ => (pm K κ (pv 2) em_var))) (st_asg (em_lc (wo_name (by decide)) ti_self tgx_name tt_self te_self) tgx_name))
  (bm K κ (pss_one (sm K κ (ps_ret (pm K κ (pe_tup (am K κ (pa_cons (pm K κ (pv 1) em_var) (am K κ (pa_cons (pm K κ (pe_fldK K (pm K κ (pv 0) em_var) rfl) (em_fld fld_start te_self)) (am K κ (pa_cons (pm K κ (pe_fldK K (pm K κ (pv 0) em_var) rfl) (em_fld fld_period te_self)) (am K κ (pa_cons (pm K κ (pe_lc (own := [("rest", 3)]) (by rfl) sc_contrary.nd (im K κ (pi_range1 (by rfl) T.range (am K κ (pa_cons (pm K κ (pe_fldK K (pm K κ (pv 0) em_var) rfl) (em_fld fld_period te_self)) (am K κ pa_nil ar_nil)) (ar_cons te_self ta_self))) (it_rng1 ta_self)) (blkOk_by (own := [("rest", 3)]) (N := N_contrary) (sc := defScope s_contrary) (by decide +kernel)) (fun _ _ _ _ _ => (pg_name (i := 3) sc_contrary.nd rfl (by first | exact Or.inl rfl | exact Or.inr rfl))) (fun _ _ _ _ _ => (ptsm K κ (pts_one (tm K κ (pt_cmpR (op_notInX K) (pm K κ (pv 3) em_var) (pm K κ (pe_fldK K (pm K κ (pv 0) em_var) rfl) (em_fld fld_rests te_self)) (by rfl)) (ts_test (em_op ox_notIn te_self te_self)))) tt_self)) (fun _ _ _ _ _ => (pm K κ (pv 3) em_var))) (em_lc (wo_name (by decide)) ti_self tgx_name tt_self te_self)) (am K κ pa_nil ar_nil)) (ar_cons te_self ta_self))) (ar_cons te_self ta_self))) (ar_cons te_self ta_self))) (ar_cons te_self ta_self))) (em_tup ta_self))) (st_ret te_self))) ts_self)) (st_seq ts_self ts_self))
theorem ok_Calendar___invert__ {f : Addr} {fd : FuncData} {dvs : List V} {kws : List (Str × V)} (T : Bl mg) (c_contrary : Cx' P w K κ mg base "contrary" p_contrary 1 m_contrary) (mk_Calendar_0 : Kx P w K κ mg base "Calendar" 0 3 m_Calendar___init__ []) (F : FunD K "__invert__" "Calendar.__invert__" (defArgs s_Calendar___invert__) (defBody s_Calendar___invert__) (defScope s_Calendar___invert__) dvs kws f fd) : FnA P w K mg base CX0 5 f fd p_Calendar___invert__ (spOf K (spX κ m_Calendar___invert__)) := by
  unfold m_Calendar___invert__
  refine fn_x (b := b_Calendar___invert__) F sc_Calendar___invert__ rfl rfl fun cdv A outer s H E hG hr => ?_
  exact (bm K κ (pss_cons (sm K κ (ps_asg (px_call c_contrary (hr.mono (by decide)) hG rfl (am K κ (pa_cons (pm K κ (pv 0) em_var) (am K κ pa_nil ar_nil)) (ar_cons te_self ta_self))) (gm K κ (pg_tupK K (n := 4) (by rfl) (pgs_cons (gm K κ (pg_name (i := 1) sc_Calendar___invert__.nd rfl (by first | exact Or.inl rfl | exact Or.inr rfl)) tgx_name) (pgs_cons (gm K κ (pg_name (i := 2) sc_Calendar___invert__.nd rfl (by first | exact Or.inl rfl | exact Or.inr rfl)) tgx_name) (pgs_cons (gm K κ (pg_name (i := 3) sc_Calendar___invert__.nd rfl (by first | exact Or.inl rfl | exact Or.inr rfl)) tgx_name) (pgs_cons (gm K κ (pg_name (i := 4) sc_Calendar___invert__.nd rfl (by first | exact Or.inl rfl | exact Or.inr rfl)) tgx_name) pgs_nil))))) (tgx_tup (tgx_cons tg_self (tgx_cons tg_self (tgx_cons tg_self (tgx_cons tg_self tgx_nil))))))) (st_asg te_self tg_self))
  (bm K κ (pss_one (sm K κ (ps_ret (px_make mk_Calendar_0 (hr.mono (by decide)) hG rfl (am K κ (pa_cons (pm K κ (pv 1) em_var) (am K κ (pa_cons (pm K κ (pv 2) em_var) (am K κ (pa_cons (pm K κ (pv 3) em_var) (am K κ (pa_cons (pm K κ (pv 4) em_var) (am K κ pa_nil ar_nil)) (ar_cons te_self ta_self))) (ar_cons te_self ta_self))) (ar_cons te_self ta_self))) (ar_cons te_self ta_self)))) (st_ret te_self))) ts_self)) (st_seq ts_self ts_self))
theorem ok_Calendar___contains__ {f : Addr} {fd : FuncData} {dvs : List V} {kws : List (Str × V)} (T : Bl mg) (c_has : Cx' P w K κ mg base "has" p_has 1 m_has) (c_is_integer : Cx' P w K κ mg base "is_integer" p_is_integer 1 m_is_integer) (F : FunD K "__contains__" "Calendar.__contains__" (defArgs s_Calendar___contains__) (defBody s_Calendar___contains__) (defScope s_Calendar___contains__) dvs kws f fd) : FnA P w K mg base CX0 2 f fd p_Calendar___contains__ (spOf K (spX κ m_Calendar___contains__)) := by
  unfold m_Calendar___contains__
  refine fn_x (b := b_Calendar___contains__) F sc_Calendar___contains__ rfl rfl fun cdv A outer s H E hG hr => ?_
  exact (bm K κ (pss_one (sm K κ (ps_ret (pm K κ (pe_and (px_call c_is_integer (hr.mono (by decide)) hG rfl (am K κ (pa_cons (pm K κ (pv 1) em_var) (am K κ pa_nil ar_nil)) (ar_cons te_self ta_self))) (pm K κ (pe_and (pm K κ (pe_cmpR op_gtU (pm K κ (pv 1) em_var) (pm K κ pe_int em_int) (nomark _)) (em_op ox_gt te_self te_self)) (pm K κ (pe_one (px_call c_has (hr.mono (by decide)) hG rfl (am K κ (pa_cons (pm K κ (pv 0) em_var) (am K κ (pa_cons (pm K κ (pv 1) em_var) (am K κ pa_nil ar_nil)) (ar_cons te_self ta_self))) (ar_cons te_self ta_self)))) te_self)) (em_and te_self te_self))) (em_and te_self te_self))) (st_ret te_self))) ts_self)
theorem ok_L_is_least {f : Addr} {fd : FuncData} {dvs : List V} {kws : List (Str × V)} (T : Bl mg) (O : Ow K κ 1) (O2 : Ow2 K κ 1) (fld_few : ∀ c ∈ ([0] : List Nat), FldOk K (κ c) "few") (fld_period : ∀ c ∈ ([0] : List Nat), FldOk K (κ c) "period") (fld_rests : ∀ c ∈ ([0] : List Nat), FldOk K (κ c) "rests") (fld_start : ∀ c ∈ ([0] : List Nat), FldOk K (κ c) "start") (spcontains : ∀ p ∈ ([(0, m_Calendar___contains__)] : List (Nat × Mf)), Sx P w K κ mg base p.1 "__contains__" 2 p.2) (F : FunD K "_law_is_least" "_law_is_least" (defArgs s_L_is_least) (defBody s_L_is_least) (defScope s_L_is_least) dvs kws f fd) : FnA P w K mg base CX0 3 f fd p_L_is_least (spOf K (spX κ m_L_is_least)) := by
  unfold m_L_is_least
  refine fn_x (b := b_L_is_least) F sc_L_is_least rfl rfl fun cdv A outer s H E hG hr => ?_
  exact (bm K κ (pss_cons (sm K κ (ps_for PassesOwn.never rfl (im K κ (pi_range2 (by rfl) T.range (am K κ (pa_cons (pm K κ pe_int em_int) (am K κ (pa_cons (pm K κ (pe_fldK K (pm K κ (pv 0) em_var) rfl) (em_fld fld_period te_self)) (am K κ pa_nil ar_nil)) (ar_cons te_self ta_self))) (ar_cons te_self ta_self))) (it_rng2 ta_self)) (gm K κ (pg_name (i := 1) sc_L_is_least.nd rfl (by first | exact Or.inl rfl | exact Or.inr rfl)) tgx_name)
  (bm K κ (pss_one (sm K κ (ps_if (tm K κ (pt_cmpR (op_eqK K hr.units) (pm K κ (pe_op op_modU (pm K κ (pe_fldK K (pm K κ (pv 0) em_var) rfl) (em_fld fld_period te_self)) (pm K κ (pv 1) em_var)) (em_op ox_mod te_self te_self)) (pm K κ pe_int em_int) (nomark _)) (ts_test (em_op ox_eq te_self te_self))) (bm K κ (pss_cons (sm K κ (ps_setLc (i := 2) (own := [("_law_rest", 4)]) (by rfl) sc_L_is_least.nd rfl rfl (sw_true rfl rfl rfl (by decide +kernel)) (im K κ (pi_range1 (by rfl) T.range (am K κ (pa_cons (pm K κ (pe_fldK K (pm K κ (pv 0) em_var) rfl) (em_fld fld_period te_self)) (am K κ pa_nil ar_nil)) (ar_cons te_self ta_self))) (it_rng1 ta_self)) (blkOk_by (own := [("_law_rest", 4)]) (N := N_L_is_least) (sc := defScope s_L_is_least) (by decide +kernel)) (fun _ _ _ _ _ => (pg_name (i := 4) sc_L_is_least.nd rfl (by first | exact Or.inl rfl | exact Or.inr rfl))) (fun _ _ _ _ _ => (ptsm K κ (pts_one (tm K κ (pt_cmpR (op_inL K spcontains (hr.mono (by decide)) hG (op_inX K)) (pm K κ (pe_op op_modU (pm K κ (pv 4) em_var) (pm K κ (pv 1) em_var)) (em_op ox_mod te_self te_self)) (pm K κ (pe_lc (own := [("_law_one", 5)]) (by rfl) sc_L_is_least.nd (im K κ (pi_any K (pm K κ (pe_fldK K (pm K κ (pv 0) em_var) rfl) (em_fld fld_rests te_self))) (it_any te_self)) (by dsimp only [Cx.blk, Cx.nox, compEnvC]; exact blkN (own := [("_law_one", 5)]) (N := N_L_is_least) (sc0 := defScope s_L_is_least) rfl (by decide +kernel)) (fun _ _ _ _ _ => (pg_name (i := 5) sc_L_is_least.nd rfl (by first | exact Or.inl rfl | exact Or.inr rfl))) (fun _ _ _ _ _ => (ptsm K κ pts_nil ts_yes)) (fun _ _ _ _ _ => (pm K κ (pe_op op_modU (pm K κ (pv 5) em_var) (pm K κ (pv 1) em_var)) (em_op ox_mod te_self te_self)))) (em_lc (wo_name (by decide)) ti_self tgx_name tt_self te_self)) (by rfl)) (ts_test (em_op (ox_ownIn ox_in) te_self te_self)))) tt_self)) (fun _ _ _ _ _ => (pm K κ (pv 4) em_var))) (st_asg (em_lc (wo_name (by decide)) ti_self tgx_name tt_self te_self) tgx_name))
  (bm K κ (pss_one (sm K κ (ps_if (tm K κ (pt_cmpR (op_eqK K hr.units) (pm K κ (pe_callTy (cr_listK K) (by rfl) T.list (by decide +kernel) (am K κ (pa_cons (pm K κ (pe_fldK K (pm K κ (pv 0) em_var) rfl) (em_fld fld_rests te_self)) (am K κ pa_nil ar_nil)) (ar_cons te_self ta_self))) (em_cb cx_list ta_self)) (pm K κ (pv 2) em_var) (nomark _)) (ts_test (em_op ox_eq te_self te_self))) (bm K κ (pss_one (sm K κ (ps_ret (pm K κ pe_bl em_bl)) (st_ret te_self))) ts_self) (bm K κ pss_nil st_next)) (st_if tt_self ts_self ts_self))) ts_self)) (st_seq ts_self ts_self)) (bm K κ pss_nil st_next)) (st_if tt_self ts_self ts_self))) ts_self)) (st_for ti_self tg_self ts_self))
  (bm K κ (pss_cons (sm K κ (ps_if (tm K κ (pt_cmpR op_gtU (pm K κ (pe_fldK K (pm K κ (pv 0) em_var) rfl) (em_fld fld_start te_self)) (pm K κ pe_int em_int) (nomark _)) (ts_test (em_op ox_gt te_self te_self))) (bm K κ (pss_cons (sm K κ (ps_set (i := 3) sc_L_is_least.nd rfl (by first | exact Or.inl rfl | exact Or.inr rfl) (pm K κ (pe_op op_subU (pm K κ (pe_fldK K (pm K κ (pv 0) em_var) rfl) (em_fld fld_start te_self)) (pm K κ pe_int em_int)) (em_op ox_sub te_self te_self))) (st_asg te_self tgx_name))
  (bm K κ (pss_one (sm K κ (ps_if (tm K κ (pt_cmpR (op_eqK K hr.units) (pm K κ (pe_cmpR (op_inL K spcontains (hr.mono (by decide)) hG (op_inX K)) (pm K κ (pv 3) em_var) (pm K κ (pe_fldK K (pm K κ (pv 0) em_var) rfl) (em_fld fld_few te_self)) (by rfl)) (em_op (ox_ownIn ox_in) te_self te_self)) (pm K κ (pe_cmpR (op_inL K spcontains (hr.mono (by decide)) hG (op_inX K)) (pm K κ (pe_op op_modU (pm K κ (pv 3) em_var) (pm K κ (pe_fldK K (pm K κ (pv 0) em_var) rfl) (em_fld fld_period te_self))) (em_op ox_mod te_self te_self)) (pm K κ (pe_fldK K (pm K κ (pv 0) em_var) rfl) (em_fld fld_rests te_self)) (by rfl)) (em_op (ox_ownIn ox_in) te_self te_self)) (nomark _)) (ts_test (em_op ox_eq te_self te_self))) (bm K κ (pss_one (sm K κ (ps_ret (pm K κ pe_bl em_bl)) (st_ret te_self))) ts_self) (bm K κ pss_nil st_next)) (st_if tt_self ts_self ts_self))) ts_self)) (st_seq ts_self ts_self)) (bm K κ pss_nil st_next)) (st_if tt_self ts_self ts_self))
  (bm K κ (pss_one (sm K κ (ps_ret (pm K κ (pe_cmpR (op_eqK K hr.units) (pm K κ (pe_callTy (cr_listK K) (by rfl) T.list (by decide +kernel) (am K κ (pa_cons (pm K κ (pe_fldK K (pm K κ (pv 0) em_var) rfl) (em_fld fld_few te_self)) (am K κ pa_nil ar_nil)) (ar_cons te_self ta_self))) (em_cb cx_list ta_self)) (pm K κ (pe_lc (own := [("_law_one", 5)]) (by rfl) sc_L_is_least.nd (im K κ (pi_range2 (by rfl) T.range (am K κ (pa_cons (pm K κ pe_int em_int) (am K κ (pa_cons (pm K κ (pe_fldK K (pm K κ (pv 0) em_var) rfl) (em_fld fld_start te_self)) (am K κ pa_nil ar_nil)) (ar_cons te_self ta_self))) (ar_cons te_self ta_self))) (it_rng2 ta_self)) (blkOk_by (own := [("_law_one", 5)]) (N := N_L_is_least) (sc := defScope s_L_is_least) (by decide +kernel)) (fun _ _ _ _ _ => (pg_name (i := 5) sc_L_is_least.nd rfl (by first | exact Or.inl rfl | exact Or.inr rfl))) (fun _ _ _ _ _ => (ptsm K κ (pts_one (tm K κ (pt_cmpR (op_inL K spcontains (hr.mono (by decide)) hG (op_inX K)) (pm K κ (pv 5) em_var) (pm K κ (pv 0) em_var) (by rfl)) (ts_test (em_op (ox_ownIn ox_in) te_self te_self)))) tt_self)) (fun _ _ _ _ _ => (pm K κ (pv 5) em_var))) (em_lc (wo_name (by decide)) ti_self tgx_name tt_self te_self)) (nomark _)) (em_op ox_eq te_self te_self))) (st_ret te_self))) ts_self)) (st_seq ts_self ts_self))) (st_seq ts_self ts_self))
theorem ok_law {f : Addr} {fd : FuncData} {dvs : List V} {kws : List (Str × V)} (T : Bl mg) (O : Ow K κ 1) (O2 : Ow2 K κ 1) (c_L_box : Cx' P w K κ mg base "_law_box" p_L_box 1 m_L_box) (c_L_cal_of : Cx' P w K κ mg base "_law_cal_of" p_L_cal_of 5 m_L_cal_of) (c_L_has : Cx' P w K κ mg base "_law_has" p_L_has 1 m_L_has) (c_L_is_least : Cx' P w K κ mg base "_law_is_least" p_L_is_least 3 m_L_is_least) (c_L_raw : Cx' P w K κ mg base "_law_raw" p_L_raw 3 m_L_raw) (c_L_take : Cx' P w K κ mg base "_law_take" p_L_take 1 m_L_take) (fld_period : ∀ c ∈ ([0] : List Nat), FldOk K (κ c) "period") (fld_start : ∀ c ∈ ([0] : List Nat), FldOk K (κ c) "start") (mk_Calendar_0 : Kx P w K κ mg base "Calendar" 0 3 m_Calendar___init__ []) (mk_Calendar_4 : Kx P w K κ mg base "Calendar" 0 3 m_Calendar___init__ [.tup [], .int 1, .int 1, .tup []]) (spand : ∀ p ∈ ([(0, m_Calendar___and__)] : List (Nat × Mf)), Sx P w K κ mg base p.1 "__and__" 5 p.2) (speq : ∀ p ∈ ([(0, m_Calendar___eq__)] : List (Nat × Mf)), Sx P w K κ mg base p.1 "__eq__" 4 p.2) (spinvert : ∀ p ∈ ([(0, m_Calendar___invert__)] : List (Nat × Mf)), Sx P w K κ mg base p.1 "__invert__" 5 p.2) (spor : ∀ p ∈ ([(0, m_Calendar___or__)] : List (Nat × Mf)), Sx P w K κ mg base p.1 "__or__" 5 p.2) (spstr : ∀ p ∈ ([(0, m_Calendar___str__)] : List (Nat × Mf)), Sx P w K κ mg base p.1 "__str__" 1 p.2) (spsub : ∀ p ∈ ([(0, m_Calendar___sub__)] : List (Nat × Mf)), Sx P w K κ mg base p.1 "__sub__" 5 p.2) (spxor : ∀ p ∈ ([(0, m_Calendar___xor__)] : List (Nat × Mf)), Sx P w K κ mg base p.1 "__xor__" 5 p.2) (F : FunD K "law" "law" (defArgs s_law) (defBody s_law) (defScope s_law) dvs kws f fd) : FnA P w K mg base CX0 6 f fd p_law (spOf K (spX κ m_law)) := by
  unfold m_law
  refine fn_x (b := b_law) F sc_law rfl rfl fun cdv A outer s H E hG hr => ?_
  exact (bm K κ (pss_cons (sm K κ (ps_for PassesOwn.never rfl (im K κ (pi_range1 (by rfl) T.range (am K κ (pa_cons (pm K κ (pe_callB (cr_maxK K) (by rfl) T.max (by decide +kernel) (am K κ (pa_cons (pm K κ pe_int em_int) (am K κ (pa_cons (pm K κ (pe_callB (cr_minK K) (by rfl) T.min (by decide +kernel) (am K κ (pa_cons (pm K κ pe_int em_int) (am K κ (pa_cons (pm K κ (pe_callB (cr_lenK K) (by rfl) T.len (by decide +kernel) (am K κ (pa_cons (pm K κ (pv 0) em_var) (am K κ pa_nil ar_nil)) (ar_cons te_self ta_self))) (em_cb cx_len ta_self)) (am K κ pa_nil ar_nil)) (ar_cons te_self ta_self))) (ar_cons te_self ta_self))) (em_cb cx_min ta_self)) (am K κ pa_nil ar_nil)) (ar_cons te_self ta_self))) (ar_cons te_self ta_self))) (em_cb cx_max ta_self)) (am K κ pa_nil ar_nil)) (ar_cons te_self ta_self))) (it_rng1 ta_self)) (gm K κ (pg_name (i := 1) sc_law.nd rfl (by first | exact Or.inl rfl | exact Or.inr rfl)) tgx_name)
  (bm K κ (pss_cons (sm K κ (ps_set (i := 2) sc_law.nd rfl (by first | exact Or.inl rfl | exact Or.inr rfl) (px_call c_L_box (hr.mono (by decide)) hG rfl (am K κ (pa_cons (pm K κ (pv 0) em_var) (am K κ (pa_cons (pm K κ (pv 1) em_var) (am K κ pa_nil ar_nil)) (ar_cons te_self ta_self))) (ar_cons te_self ta_self)))) (st_asg te_self tgx_name))
  (bm K κ (pss_one (sm K κ (ps_for PassesOwn.never rfl (im K κ (pi_range1 (by rfl) T.range (am K κ (pa_cons (pm K κ pe_int em_int) (am K κ pa_nil ar_nil)) (ar_cons te_self ta_self))) (it_rng1 ta_self)) (gm K κ (pg_name (i := 3) sc_law.nd rfl (by first | exact Or.inl rfl | exact Or.inr rfl)) tgx_name)
  (bm K κ (pss_cons (sm K κ (ps_asg (pm K κ (pe_tup (am K κ (pa_cons (px_call c_L_raw (hr.mono (by decide)) hG rfl (am K κ (pa_cons (pm K κ (pv 2) em_var) (am K κ (pa_cons (pm K κ pe_int em_int) (am K κ (pa_cons (pm K κ pe_int em_int) (am K κ pa_nil ar_nil)) (ar_cons te_self ta_self))) (ar_cons te_self ta_self))) (ar_cons te_self ta_self))) (am K κ (pa_cons (px_call c_L_raw (hr.mono (by decide)) hG rfl (am K κ (pa_cons (pm K κ (pv 2) em_var) (am K κ (pa_cons (pm K κ pe_int em_int) (am K κ (pa_cons (pm K κ pe_int em_int) (am K κ pa_nil ar_nil)) (ar_cons te_self ta_self))) (ar_cons te_self ta_self))) (ar_cons te_self ta_self))) (am K κ pa_nil ar_nil)) (ar_cons te_self ta_self))) (ar_cons te_self ta_self))) (em_tup ta_self)) (gm K κ (pg_tupK K (n := 2) (by rfl) (pgs_cons (gm K κ (pg_name (i := 4) sc_law.nd rfl (by first | exact Or.inl rfl | exact Or.inr rfl)) tgx_name) (pgs_cons (gm K κ (pg_name (i := 5) sc_law.nd rfl (by first | exact Or.inl rfl | exact Or.inr rfl)) tgx_name) pgs_nil))) (tgx_tup (tgx_cons tg_self (tgx_cons tg_self tgx_nil))))) (st_asg te_self tg_self))
  (bm K κ (pss_cons (sm K κ (ps_par (i := 6) (j := 7) (by rfl) sc_law.nd rfl rfl (by decide) rfl rfl (am K κ (pa_cons (px_call c_L_cal_of (hr.mono (by decide)) hG rfl (am K κ (pa_cons (pm K κ (pv 4) em_var) (am K κ pa_nil ar_nil)) (ar_cons te_self ta_self))) (am K κ (pa_cons (px_call c_L_cal_of (hr.mono (by decide)) hG rfl (am K κ (pa_cons (pm K κ (pv 5) em_var) (am K κ pa_nil ar_nil)) (ar_cons te_self ta_self))) (am K κ pa_nil ar_nil)) (ar_cons te_self ta_self))) (ar_cons te_self ta_self)) (by rfl)) (st_par ta_self))
  (bm K κ (pss_cons (sm K κ (ps_par (i := 8) (j := 9) (by rfl) sc_law.nd rfl rfl (by decide) rfl rfl (am K κ (pa_cons (pm K κ (pe_op (op_addX K) (pm K κ (pe_ix (ix_K K) (pm K κ (pv 4) em_var) (pm K κ pe_int em_int) (fun _ _ => rfl)) (em_op ox_ix te_self te_self)) (px_call c_L_take (hr.mono (by decide)) hG rfl (am K κ (pa_cons (pm K κ (pv 2) em_var) (am K κ (pa_cons (pm K κ pe_int em_int) (am K κ pa_nil ar_nil)) (ar_cons te_self ta_self))) (ar_cons te_self ta_self)))) (em_op ox_add te_self te_self)) (am K κ (pa_cons (pm K κ (pe_op (op_addX K) (pm K κ pe_int em_int) (px_call c_L_take (hr.mono (by decide)) hG rfl (am K κ (pa_cons (pm K κ (pv 2) em_var) (am K κ (pa_cons (pm K κ pe_int em_int) (am K κ pa_nil ar_nil)) (ar_cons te_self ta_self))) (ar_cons te_self ta_self)))) (em_op ox_add te_self te_self)) (am K κ pa_nil ar_nil)) (ar_cons te_self ta_self))) (ar_cons te_self ta_self)) (by rfl)) (st_par ta_self))
  (bm K κ (pss_cons (sm K κ (ps_setLc (i := 10) (own := [("_law_number", 14)]) (by rfl) sc_law.nd rfl rfl (sw_true rfl rfl rfl (by decide +kernel)) (im K κ (pi_range2 (by rfl) T.range (am K κ (pa_cons (pm K κ pe_int em_int) (am K κ (pa_cons (pm K κ (pv 8) em_var) (am K κ pa_nil ar_nil)) (ar_cons te_self ta_self))) (ar_cons te_self ta_self))) (it_rng2 ta_self)) (blkOk_by (own := [("_law_number", 14)]) (N := N_law) (sc := defScope s_law) (by decide +kernel)) (fun _ _ _ _ _ => (pg_name (i := 14) sc_law.nd rfl (by first | exact Or.inl rfl | exact Or.inr rfl))) (fun _ _ _ _ _ => (ptsm K κ (pts_one (tm K κ (pt_val (px_call c_L_has (hr.mono (by decide)) hG rfl (am K κ (pa_cons (pm K κ (pv 4) em_var) (am K κ (pa_cons (pm K κ (pv 14) em_var) (am K κ pa_nil ar_nil)) (ar_cons te_self ta_self))) (ar_cons te_self ta_self)))) (ts_b te_self))) tt_self)) (fun _ _ _ _ _ => (pm K κ (pv 14) em_var))) (st_asg (em_lc (wo_name (by decide)) ti_self tgx_name tt_self te_self) tgx_name))
  (bm K κ (pss_cons (sm K κ (ps_setLc (i := 11) (own := [("_law_rest", 15)]) (by rfl) sc_law.nd rfl rfl (sw_true rfl rfl rfl (by decide +kernel)) (im K κ (pi_range1 (by rfl) T.range (am K κ (pa_cons (pm K κ (pe_op op_mulU (pm K κ (pe_ix (ix_K K) (pm K κ (pv 4) em_var) (pm K κ pe_int em_int) (fun _ _ => rfl)) (em_op ox_ix te_self te_self)) (pm K κ (pv 9) em_var)) (em_op ox_mul te_self te_self)) (am K κ pa_nil ar_nil)) (ar_cons te_self ta_self))) (it_rng1 ta_self)) (blkOk_by (own := [("_law_rest", 15)]) (N := N_law) (sc := defScope s_law) (by decide +kernel)) (fun _ _ _ _ _ => (pg_name (i := 15) sc_law.nd rfl (by first | exact Or.inl rfl | exact Or.inr rfl))) (fun _ _ _ _ _ => (ptsm K κ (pts_one (tm K κ (pt_cmpR (op_inX K) (pm K κ (pe_op op_modU (pm K κ (pe_callTy cr_intX (by rfl) T.int (by decide +kernel) (am K κ (pa_cons (pm K κ (pv 15) em_var) (am K κ pa_nil ar_nil)) (ar_cons te_self ta_self))) (em_cb cx_intX ta_self)) (pm K κ (pe_ix (ix_K K) (pm K κ (pv 4) em_var) (pm K κ pe_int em_int) (fun _ _ => rfl)) (em_op ox_ix te_self te_self))) (em_op ox_mod te_self te_self)) (pm K κ (pe_ix (ix_K K) (pm K κ (pv 4) em_var) (pm K κ pe_int em_int) (fun _ _ => rfl)) (em_op ox_ix te_self te_self)) (by rfl)) (ts_test (em_op ox_in te_self te_self)))) tt_self)) (fun _ _ _ _ _ => (pm K κ (pv 15) em_var))) (st_asg (em_lc (wo_name (by decide)) ti_self tgx_name tt_self te_self) tgx_name))
  (bm K κ (pss_cons (sm K κ (ps_set (i := 12) sc_law.nd rfl (by first | exact Or.inl rfl | exact Or.inr rfl) (px_make mk_Calendar_0 (hr.mono (by decide)) hG rfl (am K κ (pa_cons (pm K κ (pv 10) em_var) (am K κ (pa_cons (pm K κ (pv 8) em_var) (am K κ (pa_cons (pm K κ (pe_op op_mulU (pm K κ (pe_ix (ix_K K) (pm K κ (pv 4) em_var) (pm K κ pe_int em_int) (fun _ _ => rfl)) (em_op ox_ix te_self te_self)) (pm K κ (pv 9) em_var)) (em_op ox_mul te_self te_self)) (am K κ (pa_cons (pm K κ (pv 11) em_var) (am K κ pa_nil ar_nil)) (ar_cons te_self ta_self))) (ar_cons te_self ta_self))) (ar_cons te_self ta_self))) (ar_cons te_self ta_self)))) (st_asg te_self tgx_name))
  (bm K κ (pss_cons (sm K κ (ps_if (PW.pt (wm K κ (pw_or (tm K κ (pt_cmpR (op_neL K speq (fun p hp => O2.ne p.1 ((show ∀ p ∈ ([(0, m_Calendar___eq__)] : List (Nat × Mf)), p.1 < 1 from (by simp only [List.mem_cons, List.not_mem_nil, or_false, forall_eq_or_imp, forall_eq]; decide)) p hp)) (hr.mono (by decide)) hG (op_neK K hr.units)) (pm K κ (pv 12) em_var) (pm K κ (pv 6) em_var) (nomark _)) (ts_test (em_op (ox_ownNe O (by simp only [List.mem_cons, List.not_mem_nil, or_false, forall_eq_or_imp, forall_eq]; decide) ox_ne) te_self te_self))) (wm K κ (pw_or (tm K κ (pt_cmpR (op_neL K speq (fun p hp => O2.ne p.1 ((show ∀ p ∈ ([(0, m_Calendar___eq__)] : List (Nat × Mf)), p.1 < 1 from (by simp only [List.mem_cons, List.not_mem_nil, or_false, forall_eq_or_imp, forall_eq]; decide)) p hp)) (hr.mono (by decide)) hG (op_neK K hr.units)) (pm K κ (pe_callTy (cr_strL K spstr (hr.mono (by decide)) hG) (by rfl) T.str (by decide +kernel) (am K κ (pa_cons (pm K κ (pv 12) em_var) (am K κ pa_nil ar_nil)) (ar_cons te_self ta_self))) (em_cb cx_strL ta_self)) (pm K κ (pe_callTy (cr_strL K spstr (hr.mono (by decide)) hG) (by rfl) T.str (by decide +kernel) (am K κ (pa_cons (pm K κ (pv 6) em_var) (am K κ pa_nil ar_nil)) (ar_cons te_self ta_self))) (em_cb cx_strL ta_self)) (nomark _)) (ts_test (em_op (ox_ownNe O (by simp only [List.mem_cons, List.not_mem_nil, or_false, forall_eq_or_imp, forall_eq]; decide) ox_ne) te_self te_self))) (wm K κ (pw_or1 (tm K κ (pt_cmpR (op_neL K speq (fun p hp => O2.ne p.1 ((show ∀ p ∈ ([(0, m_Calendar___eq__)] : List (Nat × Mf)), p.1 < 1 from (by simp only [List.mem_cons, List.not_mem_nil, or_false, forall_eq_or_imp, forall_eq]; decide)) p hp)) (hr.mono (by decide)) hG (op_neK K hr.units)) (pm K κ (pe_tup (am K κ (pa_cons (pm K κ (pe_fldK K (pm K κ (pv 12) em_var) rfl) (em_fld fld_start te_self)) (am K κ (pa_cons (pm K κ (pe_fldK K (pm K κ (pv 12) em_var) rfl) (em_fld fld_period te_self)) (am K κ pa_nil ar_nil)) (ar_cons te_self ta_self))) (ar_cons te_self ta_self))) (em_tup ta_self)) (pm K κ (pe_tup (am K κ (pa_cons (pm K κ (pe_fldK K (pm K κ (pv 6) em_var) rfl) (em_fld fld_start te_self)) (am K κ (pa_cons (pm K κ (pe_fldK K (pm K κ (pv 6) em_var) rfl) (em_fld fld_period te_self)) (am K κ pa_nil ar_nil)) (ar_cons te_self ta_self))) (ar_cons te_self ta_self))) (em_tup ta_self)) (nomark _)) (ts_test (em_op (ox_ownNe O (by simp only [List.mem_cons, List.not_mem_nil, or_false, forall_eq_or_imp, forall_eq]; decide) ox_ne) te_self te_self)))) tt_self)) (ts_or tt_self tt_self))) (ts_or tt_self tt_self))) (bm K κ (pss_one (sm K κ (ps_ret (pm K κ pe_bl em_bl)) (st_ret te_self))) ts_self) (bm K κ pss_nil st_next)) (st_if tt_self ts_self ts_self))
  (bm K κ (pss_cons (sm K κ (ps_set (i := 13) sc_law.nd rfl (by first | exact Or.inl rfl | exact Or.inr rfl) (pm K κ (pe_lst (am K κ (pa_cons (pm K κ (pv 6) em_var) (am K κ (pa_cons (pm K κ (pv 7) em_var) (am K κ (pa_cons (pm K κ (pe_un (un_invL K spinvert (hr.mono (by decide)) hG un_inv) (pm K κ (pv 6) em_var)) (em_un (ux_own ux_U) te_self)) (am K κ (pa_cons (pm K κ (pe_op (op_binL K spand (fun p hp => O2.sf p.1 ((show ∀ p ∈ ([(0, m_Calendar___and__)] : List (Nat × Mf)), p.1 < 1 from (by simp only [List.mem_cons, List.not_mem_nil, or_false, forall_eq_or_imp, forall_eq]; decide)) p hp)) (hr.mono (by decide)) hG op_and) (pm K κ (pv 6) em_var) (pm K κ (pv 7) em_var)) (em_op (ox_ownB O (by simp only [List.mem_cons, List.not_mem_nil, or_false, forall_eq_or_imp, forall_eq]; decide) ox_and) te_self te_self)) (am K κ (pa_cons (pm K κ (pe_op (op_binL K spor (fun p hp => O2.sf p.1 ((show ∀ p ∈ ([(0, m_Calendar___or__)] : List (Nat × Mf)), p.1 < 1 from (by simp only [List.mem_cons, List.not_mem_nil, or_false, forall_eq_or_imp, forall_eq]; decide)) p hp)) (hr.mono (by decide)) hG L2.op_or) (pm K κ (pv 6) em_var) (pm K κ (pv 7) em_var)) (em_op (ox_ownB O (by simp only [List.mem_cons, List.not_mem_nil, or_false, forall_eq_or_imp, forall_eq]; decide) ox_or) te_self te_self)) (am K κ (pa_cons (pm K κ (pe_op (op_binL K spsub (fun p hp => O2.sf p.1 ((show ∀ p ∈ ([(0, m_Calendar___sub__)] : List (Nat × Mf)), p.1 < 1 from (by simp only [List.mem_cons, List.not_mem_nil, or_false, forall_eq_or_imp, forall_eq]; decide)) p hp)) (hr.mono (by decide)) hG op_subU) (pm K κ (pv 6) em_var) (pm K κ (pv 7) em_var)) (em_op (ox_ownB O (by simp only [List.mem_cons, List.not_mem_nil, or_false, forall_eq_or_imp, forall_eq]; decide) ox_sub) te_self te_self)) (am K κ (pa_cons (pm K κ (pe_op (op_binL K spxor (fun p hp => O2.sf p.1 ((show ∀ p ∈ ([(0, m_Calendar___xor__)] : List (Nat × Mf)), p.1 < 1 from (by simp only [List.mem_cons, List.not_mem_nil, or_false, forall_eq_or_imp, forall_eq]; decide)) p hp)) (hr.mono (by decide)) hG op_xor) (pm K κ (pv 6) em_var) (pm K κ (pv 7) em_var)) (em_op (ox_ownB O (by simp only [List.mem_cons, List.not_mem_nil, or_false, forall_eq_or_imp, forall_eq]; decide) ox_xor) te_self te_self)) (am K κ pa_nil ar_nil)) (ar_cons te_self ta_self))) (ar_cons te_self ta_self))) (ar_cons te_self ta_self))) (ar_cons te_self ta_self))) (ar_cons te_self ta_self))) (ar_cons te_self ta_self))) (ar_cons te_self ta_self))) (em_lst ta_self))) (st_asg te_self tgx_name))
  (bm K κ (pss_cons (sm K κ (ps_if (tm K κ (pt_cmpR (op_neL K speq (fun p hp => O2.ne p.1 ((show ∀ p ∈ ([(0, m_Calendar___eq__)] : List (Nat × Mf)), p.1 < 1 from (by simp only [List.mem_cons, List.not_mem_nil, or_false, forall_eq_or_imp, forall_eq]; decide)) p hp)) (hr.mono (by decide)) hG (op_neK K hr.units)) (pm K κ (pe_lc (own := [("_law_made", 16)]) (by rfl) sc_law.nd (im K κ (pi_any K (pm K κ (pv 13) em_var)) (it_any te_self)) (blkOk_by (own := [("_law_made", 16)]) (N := N_law) (sc := defScope s_law) (by decide +kernel)) (fun _ _ _ _ _ => (pg_name (i := 16) sc_law.nd rfl (by first | exact Or.inl rfl | exact Or.inr rfl))) (fun _ _ _ _ _ => (ptsm K κ (pts_one (tm K κ (pt_not (tm K κ (pt_val (px_call c_L_is_least (hr.mono (by decide)) hG rfl (am K κ (pa_cons (pm K κ (pv 16) em_var) (am K κ pa_nil ar_nil)) (ar_cons te_self ta_self)))) (ts_b te_self))) (ts_not tt_self))) tt_self)) (fun _ _ _ _ _ => (pm K κ pe_int em_int))) (em_lc (wo_name (by decide)) ti_self tgx_name tt_self te_self)) (pm K κ (pe_lst (am K κ pa_nil ar_nil)) (em_lst ta_self)) (nomark _)) (ts_test (em_op (ox_ownNe O (by simp only [List.mem_cons, List.not_mem_nil, or_false, forall_eq_or_imp, forall_eq]; decide) ox_ne) te_self te_self))) (bm K κ (pss_one (sm K κ (ps_ret (pm K κ pe_bl em_bl)) (st_ret te_self))) ts_self) (bm K κ pss_nil st_next)) (st_if tt_self ts_self ts_self))
  (bm K κ (pss_one (sm K κ (ps_if (PW.pt (wm K κ (pw_or (tm K κ (pt_cmpR (op_neL K speq (fun p hp => O2.ne p.1 ((show ∀ p ∈ ([(0, m_Calendar___eq__)] : List (Nat × Mf)), p.1 < 1 from (by simp only [List.mem_cons, List.not_mem_nil, or_false, forall_eq_or_imp, forall_eq]; decide)) p hp)) (hr.mono (by decide)) hG (op_neK K hr.units)) (pm K κ (pe_cmpR (op_eqL K speq (hr.mono (by decide)) hG (op_eqK K hr.units)) (pm K κ (pv 6) em_var) (pm K κ (pv 7) em_var) (nomark _)) (em_op (ox_own O (by simp only [List.mem_cons, List.not_mem_nil, or_false, forall_eq_or_imp, forall_eq]; decide) ox_eq) te_self te_self)) (pm K κ (pe_cmpR (op_eqL K speq (hr.mono (by decide)) hG (op_eqK K hr.units)) (pm K κ (pe_callTy (cr_strL K spstr (hr.mono (by decide)) hG) (by rfl) T.str (by decide +kernel) (am K κ (pa_cons (pm K κ (pv 6) em_var) (am K κ pa_nil ar_nil)) (ar_cons te_self ta_self))) (em_cb cx_strL ta_self)) (pm K κ (pe_callTy (cr_strL K spstr (hr.mono (by decide)) hG) (by rfl) T.str (by decide +kernel) (am K κ (pa_cons (pm K κ (pv 7) em_var) (am K κ pa_nil ar_nil)) (ar_cons te_self ta_self))) (em_cb cx_strL ta_self)) (nomark _)) (em_op (ox_own O (by simp only [List.mem_cons, List.not_mem_nil, or_false, forall_eq_or_imp, forall_eq]; decide) ox_eq) te_self te_self)) (nomark _)) (ts_test (em_op (ox_ownNe O (by simp only [List.mem_cons, List.not_mem_nil, or_false, forall_eq_or_imp, forall_eq]; decide) ox_ne) te_self te_self))) (wm K κ (pw_or1 (tm K κ (pt_cmpR (op_neL K speq (fun p hp => O2.ne p.1 ((show ∀ p ∈ ([(0, m_Calendar___eq__)] : List (Nat × Mf)), p.1 < 1 from (by simp only [List.mem_cons, List.not_mem_nil, or_false, forall_eq_or_imp, forall_eq]; decide)) p hp)) (hr.mono (by decide)) hG (op_neK K hr.units)) (pm K κ (pe_cmpR (op_eqL K speq (hr.mono (by decide)) hG (op_eqK K hr.units)) (pm K κ (pv 6) em_var) (pm K κ (pv 7) em_var) (nomark _)) (em_op (ox_own O (by simp only [List.mem_cons, List.not_mem_nil, or_false, forall_eq_or_imp, forall_eq]; decide) ox_eq) te_self te_self)) (pm K κ (pe_cmpR (op_eqL K speq (hr.mono (by decide)) hG (op_eqK K hr.units)) (pm K κ (pe_op (op_binL K spxor (fun p hp => O2.sf p.1 ((show ∀ p ∈ ([(0, m_Calendar___xor__)] : List (Nat × Mf)), p.1 < 1 from (by simp only [List.mem_cons, List.not_mem_nil, or_false, forall_eq_or_imp, forall_eq]; decide)) p hp)) (hr.mono (by decide)) hG op_xor) (pm K κ (pv 6) em_var) (pm K κ (pv 7) em_var)) (em_op (ox_ownB O (by simp only [List.mem_cons, List.not_mem_nil, or_false, forall_eq_or_imp, forall_eq]; decide) ox_xor) te_self te_self)) (px_make0 mk_Calendar_4 (hr.mono (by decide)) hG rfl) (nomark _)) (em_op (ox_own O (by simp only [List.mem_cons, List.not_mem_nil, or_false, forall_eq_or_imp, forall_eq]; decide) ox_eq) te_self te_self)) (nomark _)) (ts_test (em_op (ox_ownNe O (by simp only [List.mem_cons, List.not_mem_nil, or_false, forall_eq_or_imp, forall_eq]; decide) ox_ne) te_self te_self)))) tt_self)) (ts_or tt_self tt_self))) (bm K κ (pss_one (sm K κ (ps_ret (pm K κ pe_bl em_bl)) (st_ret te_self))) ts_self) (bm K κ pss_nil st_next)) (st_if tt_self ts_self ts_self))) ts_self)) (st_seq ts_self ts_self))) (st_seq ts_self ts_self))) (st_seq ts_self ts_self))) (st_seq ts_self ts_self))) (st_seq ts_self ts_self))) (st_seq ts_self ts_self))) (st_seq ts_self ts_self))) (st_seq ts_self ts_self))) (st_seq ts_self ts_self))) (st_for ti_self tg_self ts_self))) ts_self)) (st_seq ts_self ts_self))) (st_for ti_self tg_self ts_self))
  (bm K κ (pss_one (sm K κ (ps_ret (pm K κ pe_bl em_bl)) (st_ret te_self))) ts_self)) (st_seq ts_self ts_self))
end
end K36

set_option Elab.async false
set_option linter.all false
set_option maxRecDepth 100000
set_option maxHeartbeats 4000000
namespace K36
open PySem PySem.Spec PyProof.Rows L2 RS RX
def clsN : List Str := ["Calendar"]
def kap (K : PySem.W.Frag) : Nat → Addr := fun i => He.ga K (clsN.getD i "")
def da_L_box : DefA := ⟨fun K => He.ga K "_law_box", "_law_box", "_law_box", defArgs s_L_box, defBody s_L_box, defScope s_L_box, []⟩
def da_L_take : DefA := ⟨fun K => He.ga K "_law_take", "_law_take", "_law_take", defArgs s_L_take, defBody s_L_take, defScope s_L_take, []⟩
def da_L_pick : DefA := ⟨fun K => He.ga K "_law_pick", "_law_pick", "_law_pick", defArgs s_L_pick, defBody s_L_pick, defScope s_L_pick, []⟩
def da_L_raw : DefA := ⟨fun K => He.ga K "_law_raw", "_law_raw", "_law_raw", defArgs s_L_raw, defBody s_L_raw, defScope s_L_raw, []⟩
def da_is_integer : DefA := ⟨fun K => He.ga K "is_integer", "is_integer", "is_integer", defArgs s_is_integer, defBody s_is_integer, defScope s_is_integer, []⟩
def da_is_sequence : DefA := ⟨fun K => He.ga K "is_sequence", "is_sequence", "is_sequence", defArgs s_is_sequence, defBody s_is_sequence, defScope s_is_sequence, []⟩
def da_are_between : DefA := ⟨fun K => He.ga K "are_between", "are_between", "are_between", defArgs s_are_between, defBody s_are_between, defScope s_are_between, []⟩
def da_least_period : DefA := ⟨fun K => He.ga K "least_period", "least_period", "least_period", defArgs s_least_period, defBody s_least_period, defScope s_least_period, []⟩
def da_least_form : DefA := ⟨fun K => He.ga K "least_form", "least_form", "least_form", defArgs s_least_form, defBody s_least_form, defScope s_least_form, []⟩
def da_Calendar___init__ : DefA := ⟨fun K => He.ma K (kap K 0) "__init__", "__init__", "Calendar.__init__", defArgs s_Calendar___init__, defBody s_Calendar___init__, defScope s_Calendar___init__, [.adr (He.dflAt ("Calendar", some "__init__") 0), .int 1, .int 1, .adr (He.dflAt ("Calendar", some "__init__") 3)]⟩
def da_L_cal_of : DefA := ⟨fun K => He.ga K "_law_cal_of", "_law_cal_of", "_law_cal_of", defArgs s_L_cal_of, defBody s_L_cal_of, defScope s_L_cal_of, []⟩
def da_L_has : DefA := ⟨fun K => He.ga K "_law_has", "_law_has", "_law_has", defArgs s_L_has, defBody s_L_has, defScope s_L_has, []⟩
def da_Calendar___str__ : DefA := ⟨fun K => He.ma K (kap K 0) "__str__", "__str__", "Calendar.__str__", defArgs s_Calendar___str__, defBody s_Calendar___str__, defScope s_Calendar___str__, []⟩
def da_Calendar___eq__ : DefA := ⟨fun K => He.ma K (kap K 0) "__eq__", "__eq__", "Calendar.__eq__", defArgs s_Calendar___eq__, defBody s_Calendar___eq__, defScope s_Calendar___eq__, []⟩
def da_greatest_part : DefA := ⟨fun K => He.ga K "greatest_part", "greatest_part", "greatest_part", defArgs s_greatest_part, defBody s_greatest_part, defScope s_greatest_part, []⟩
def da_common : DefA := ⟨fun K => He.ga K "common", "common", "common", defArgs s_common, defBody s_common, defScope s_common, []⟩
def da_later_start : DefA := ⟨fun K => He.ga K "later_start", "later_start", "later_start", defArgs s_later_start, defBody s_later_start, defScope s_later_start, []⟩
def da_is_in_by : DefA := ⟨fun K => He.ga K "is_in_by", "is_in_by", "is_in_by", defArgs s_is_in_by, defBody s_is_in_by, defScope s_is_in_by, []⟩
def da_has : DefA := ⟨fun K => He.ga K "has", "has", "has", defArgs s_has, defBody s_has, defScope s_has, []⟩
def da_joined : DefA := ⟨fun K => He.ga K "joined", "joined", "joined", defArgs s_joined, defBody s_joined, defScope s_joined, []⟩
def da_Calendar___xor__ : DefA := ⟨fun K => He.ma K (kap K 0) "__xor__", "__xor__", "Calendar.__xor__", defArgs s_Calendar___xor__, defBody s_Calendar___xor__, defScope s_Calendar___xor__, []⟩
def da_Calendar___sub__ : DefA := ⟨fun K => He.ma K (kap K 0) "__sub__", "__sub__", "Calendar.__sub__", defArgs s_Calendar___sub__, defBody s_Calendar___sub__, defScope s_Calendar___sub__, []⟩
def da_Calendar___or__ : DefA := ⟨fun K => He.ma K (kap K 0) "__or__", "__or__", "Calendar.__or__", defArgs s_Calendar___or__, defBody s_Calendar___or__, defScope s_Calendar___or__, []⟩
def da_Calendar___and__ : DefA := ⟨fun K => He.ma K (kap K 0) "__and__", "__and__", "Calendar.__and__", defArgs s_Calendar___and__, defBody s_Calendar___and__, defScope s_Calendar___and__, []⟩
def da_contrary : DefA := ⟨fun K => He.ga K "contrary", "contrary", "contrary", defArgs s_contrary, defBody s_contrary, defScope s_contrary, []⟩
def da_Calendar___invert__ : DefA := ⟨fun K => He.ma K (kap K 0) "__invert__", "__invert__", "Calendar.__invert__", defArgs s_Calendar___invert__, defBody s_Calendar___invert__, defScope s_Calendar___invert__, []⟩
def da_Calendar___contains__ : DefA := ⟨fun K => He.ma K (kap K 0) "__contains__", "__contains__", "Calendar.__contains__", defArgs s_Calendar___contains__, defBody s_Calendar___contains__, defScope s_Calendar___contains__, []⟩
def da_L_is_least : DefA := ⟨fun K => He.ga K "_law_is_least", "_law_is_least", "_law_is_least", defArgs s_L_is_least, defBody s_L_is_least, defScope s_L_is_least, []⟩
def da_law : DefA := ⟨fun K => He.ga K "law", "law", "law", defArgs s_law, defBody s_law, defScope s_law, []⟩
def fn : List DefA := [da_L_box, da_L_take, da_L_pick, da_L_raw, da_is_integer, da_is_sequence, da_are_between, da_least_period, da_least_form, da_Calendar___init__, da_L_cal_of, da_L_has, da_Calendar___str__, da_Calendar___eq__, da_greatest_part, da_common, da_later_start, da_is_in_by, da_has, da_joined, da_Calendar___xor__, da_Calendar___sub__, da_Calendar___or__, da_Calendar___and__, da_contrary, da_Calendar___invert__, da_Calendar___contains__, da_L_is_least, da_law]
def fx : List Fx := [.free "len",
  .free "range",
  .free "tuple",
  .free "list",
  .free "int",
  .free "max",
  .free "min",
  .free "abs",
  .free "isinstance",
  .free "enumerate",
  .free "zip",
  .free "sum",
  .free "all",
  .free "any",
  .free "str",
  .free "repr",
  .free "bool",
  .glo "law",
  .ow 1,
  .fld [0] "few",
  .fld [0] "period",
  .fld [0] "rests",
  .fld [0] "start",
  .kst "Calendar" (.cls 0),
  .glo "_law_take",
  .glo "_law_pick",
  .glo "is_integer",
  .glo "is_sequence",
  .glo "least_period",
  .glo "are_between",
  .glo "least_form",
  .mkr 0,
  .glo "Calendar",
  .meth 0 "__str__",
  .glo "greatest_part",
  .glo "common",
  .glo "has",
  .glo "is_in_by",
  .glo "later_start",
  .glo "joined",
  .glo "contrary",
  .meth 0 "__contains__",
  .glo "_law_box",
  .glo "_law_cal_of",
  .glo "_law_has",
  .glo "_law_is_least",
  .glo "_law_raw",
  .dfl ("Calendar", some "__init__") 3 (.tup []),
  .dfl ("Calendar", some "__init__") 0 (.tup []),
  .meth 0 "__and__",
  .meth 0 "__eq__",
  .meth 0 "__invert__",
  .meth 0 "__or__",
  .meth 0 "__sub__",
  .meth 0 "__xor__"]
def loose : List Str := (["_wall", "is_integer", "is_sequence", "are_between", "least_period", "least_form", "greatest_part", "common", "has", "is_in_by", "later_start", "joined", "is_within", "contrary", "_law_box", "_law_take", "_law_pick", "_law_raw", "_law_has", "_law_cal_of", "_law_is_least", "RingError", "InvalidCalendar", "Calendar"] : List Str)
abbrev R : PySem.W.OpenRow := PySem.W.OpenLaw.row PySem.Challenge.rw_ringsums_k36_whole_least_forms
abbrev hk : PySem.W.Hook := hookY 6 fx fn kap
def ob (s : PySem.W.SharedT) : AlY := obsYG 6 fx fn kap (HandSHeadRun.getT s)
theorem ob_eq (s : PySem.W.SharedT) : ob s = hk.obs s.abs := obsYG_eq (HandSHeadRun.getT_eq s)
theorem run (w : World) : HandSHeadRun.RunEq R (PySem.W.view R.prog [28]) hk ob 20000 loose w := by
  intro os
  kernel_rfl
theorem facts {P : Program} {w : World} {K : PySem.W.Frag} {h : Heap} {mg : Str → Option Value} {f : Addr} (X : K.In h) (G : h.Ns mainGlobals mg) (hfa : mg ("law" : Str) = some (.ref f)) (c : SaysY fx fn kap K) :
    ∃ fd : FuncData, (∀ (s : Shared) (v : Value), BindsTo s fd ⟨[v], []⟩ [("_law_script", v)]) ∧ ∀ base : Heap, K.In base → base.Ns mainGlobals mg → FnA P w K mg base CX0 6 f fd ["_law_script"] (spOf K (spX (kap K) m_law)) := by
  obtain ⟨fd_L_box, F_L_box⟩ := c.def_ 0 (d := da_L_box) rfl
  obtain ⟨fd_L_take, F_L_take⟩ := c.def_ 1 (d := da_L_take) rfl
  obtain ⟨fd_L_pick, F_L_pick⟩ := c.def_ 2 (d := da_L_pick) rfl
  obtain ⟨fd_L_raw, F_L_raw⟩ := c.def_ 3 (d := da_L_raw) rfl
  obtain ⟨fd_is_integer, F_is_integer⟩ := c.def_ 4 (d := da_is_integer) rfl
  obtain ⟨fd_is_sequence, F_is_sequence⟩ := c.def_ 5 (d := da_is_sequence) rfl
  obtain ⟨fd_are_between, F_are_between⟩ := c.def_ 6 (d := da_are_between) rfl
  obtain ⟨fd_least_period, F_least_period⟩ := c.def_ 7 (d := da_least_period) rfl
  obtain ⟨fd_least_form, F_least_form⟩ := c.def_ 8 (d := da_least_form) rfl
  obtain ⟨fd_Calendar___init__, F_Calendar___init__⟩ := c.def_ 9 (d := da_Calendar___init__) rfl
  obtain ⟨fd_L_cal_of, F_L_cal_of⟩ := c.def_ 10 (d := da_L_cal_of) rfl
  obtain ⟨fd_L_has, F_L_has⟩ := c.def_ 11 (d := da_L_has) rfl
  obtain ⟨fd_Calendar___str__, F_Calendar___str__⟩ := c.def_ 12 (d := da_Calendar___str__) rfl
  obtain ⟨fd_Calendar___eq__, F_Calendar___eq__⟩ := c.def_ 13 (d := da_Calendar___eq__) rfl
  obtain ⟨fd_greatest_part, F_greatest_part⟩ := c.def_ 14 (d := da_greatest_part) rfl
  obtain ⟨fd_common, F_common⟩ := c.def_ 15 (d := da_common) rfl
  obtain ⟨fd_later_start, F_later_start⟩ := c.def_ 16 (d := da_later_start) rfl
  obtain ⟨fd_is_in_by, F_is_in_by⟩ := c.def_ 17 (d := da_is_in_by) rfl
  obtain ⟨fd_has, F_has⟩ := c.def_ 18 (d := da_has) rfl
  obtain ⟨fd_joined, F_joined⟩ := c.def_ 19 (d := da_joined) rfl
  obtain ⟨fd_Calendar___xor__, F_Calendar___xor__⟩ := c.def_ 20 (d := da_Calendar___xor__) rfl
  obtain ⟨fd_Calendar___sub__, F_Calendar___sub__⟩ := c.def_ 21 (d := da_Calendar___sub__) rfl
  obtain ⟨fd_Calendar___or__, F_Calendar___or__⟩ := c.def_ 22 (d := da_Calendar___or__) rfl
  obtain ⟨fd_Calendar___and__, F_Calendar___and__⟩ := c.def_ 23 (d := da_Calendar___and__) rfl
  obtain ⟨fd_contrary, F_contrary⟩ := c.def_ 24 (d := da_contrary) rfl
  obtain ⟨fd_Calendar___invert__, F_Calendar___invert__⟩ := c.def_ 25 (d := da_Calendar___invert__) rfl
  obtain ⟨fd_Calendar___contains__, F_Calendar___contains__⟩ := c.def_ 26 (d := da_Calendar___contains__) rfl
  obtain ⟨fd_L_is_least, F_L_is_least⟩ := c.def_ 27 (d := da_L_is_least) rfl
  obtain ⟨fd_law, F_law⟩ := c.def_ 28 (d := da_law) rfl
  have T : Bl mg := ⟨fx_free X G (c.fact 0 (f := .free "len") rfl), fx_free X G (c.fact 1 (f := .free "range") rfl), fx_free X G (c.fact 2 (f := .free "tuple") rfl), fx_free X G (c.fact 3 (f := .free "list") rfl), fx_free X G (c.fact 4 (f := .free "int") rfl), fx_free X G (c.fact 5 (f := .free "max") rfl), fx_free X G (c.fact 6 (f := .free "min") rfl), fx_free X G (c.fact 7 (f := .free "abs") rfl), fx_free X G (c.fact 8 (f := .free "isinstance") rfl), fx_free X G (c.fact 9 (f := .free "enumerate") rfl), fx_free X G (c.fact 10 (f := .free "zip") rfl), fx_free X G (c.fact 11 (f := .free "sum") rfl), fx_free X G (c.fact 12 (f := .free "all") rfl), fx_free X G (c.fact 13 (f := .free "any") rfl), fx_free X G (c.fact 14 (f := .free "str") rfl), fx_free X G (c.fact 15 (f := .free "repr") rfl), fx_free X G (c.fact 16 (f := .free "bool") rfl)⟩
  have g_law := fx_glo X G (c.fact 17 (f := .glo "law") rfl)
  obtain ⟨O, O2⟩ := owB_ok (c.fact 18 (f := .ow 1) rfl)
  have fld_few := fx_fld (c.fact 19 (f := .fld [0] "few") rfl)
  have fld_period := fx_fld (c.fact 20 (f := .fld [0] "period") rfl)
  have fld_rests := fx_fld (c.fact 21 (f := .fld [0] "rests") rfl)
  have fld_start := fx_fld (c.fact 22 (f := .fld [0] "start") rfl)
  have kc_Calendar := fx_kst X G (c.fact 23 (f := .kst "Calendar" (.cls 0)) rfl)
  have e := hfa.symm.trans g_law
  cases e
  have b := FunD.bindsA (ps := p_law) F_law fun _ _ _ _ _ _ us hl => match us, hl with | [_], _ => rfl
  refine ⟨fd_law, fun s v => b s [v] rfl, fun base _ _ => ?_⟩
  have ok_L_box' := ok_L_box (P := P) (w := w) (κ := kap K) (base := base) (T := T)  F_L_box
  have ok_L_take' := ok_L_take (P := P) (w := w) (κ := kap K) (base := base) (T := T)  F_L_take
  have c_L_take : Cx' P w K (kap K) mg base "_law_take" p_L_take 1 m_L_take := ⟨_, _, fx_glo X G (c.fact 24 (f := .glo "_law_take") rfl), ok_L_take', F_L_take.kp, F_L_take.bindsN fun _ _ _ _ _ _ us hl => match us, hl with | [_, _], _ => rfl⟩
  have ok_L_pick' := ok_L_pick (P := P) (w := w) (κ := kap K) (base := base) (T := T) (c_L_take := c_L_take) F_L_pick
  have c_L_pick : Cx' P w K (kap K) mg base "_law_pick" p_L_pick 2 m_L_pick := ⟨_, _, fx_glo X G (c.fact 25 (f := .glo "_law_pick") rfl), ok_L_pick', F_L_pick.kp, F_L_pick.bindsN fun _ _ _ _ _ _ us hl => match us, hl with | [_, _], _ => rfl⟩
  have ok_L_raw' := ok_L_raw (P := P) (w := w) (κ := kap K) (base := base) (T := T) (c_L_pick := c_L_pick) (c_L_take := c_L_take) F_L_raw
  have ok_is_integer' := ok_is_integer (P := P) (w := w) (κ := kap K) (base := base) (T := T) (O := O) (O2 := O2) F_is_integer
  have ok_is_sequence' := ok_is_sequence (P := P) (w := w) (κ := kap K) (base := base) (T := T) (O := O) (O2 := O2) F_is_sequence
  have c_is_integer : Cx' P w K (kap K) mg base "is_integer" p_is_integer 1 m_is_integer := ⟨_, _, fx_glo X G (c.fact 26 (f := .glo "is_integer") rfl), ok_is_integer', F_is_integer.kp, F_is_integer.bindsN fun _ _ _ _ _ _ us hl => match us, hl with | [_], _ => rfl⟩
  have c_is_sequence : Cx' P w K (kap K) mg base "is_sequence" p_is_sequence 1 m_is_sequence := ⟨_, _, fx_glo X G (c.fact 27 (f := .glo "is_sequence") rfl), ok_is_sequence', F_is_sequence.kp, F_is_sequence.bindsN fun _ _ _ _ _ _ us hl => match us, hl with | [_], _ => rfl⟩
  have ok_are_between' := ok_are_between (P := P) (w := w) (κ := kap K) (base := base) (T := T) (c_is_integer := c_is_integer) (c_is_sequence := c_is_sequence) F_are_between
  have ok_least_period' := ok_least_period (P := P) (w := w) (κ := kap K) (base := base) (T := T)  F_least_period
  have c_least_period : Cx' P w K (kap K) mg base "least_period" p_least_period 1 m_least_period := ⟨_, _, fx_glo X G (c.fact 28 (f := .glo "least_period") rfl), ok_least_period', F_least_period.kp, F_least_period.bindsN fun _ _ _ _ _ _ us hl => match us, hl with | [_], _ => rfl⟩
  have ok_least_form' := ok_least_form (P := P) (w := w) (κ := kap K) (base := base) (T := T) (c_least_period := c_least_period) F_least_form
  have c_are_between : Cx' P w K (kap K) mg base "are_between" p_are_between 2 m_are_between := ⟨_, _, fx_glo X G (c.fact 29 (f := .glo "are_between") rfl), ok_are_between', F_are_between.kp, F_are_between.bindsN fun _ _ _ _ _ _ us hl => match us, hl with | [_, _, _], _ => rfl⟩
  have c_least_form : Cx' P w K (kap K) mg base "least_form" p_least_form 2 m_least_form := ⟨_, _, fx_glo X G (c.fact 30 (f := .glo "least_form") rfl), ok_least_form', F_least_form.kp, F_least_form.bindsN fun _ _ _ _ _ _ us hl => match us, hl with | [_, _, _, _], _ => rfl⟩
  have ok_Calendar___init__' := ok_Calendar___init__ (P := P) (w := w) (κ := kap K) (base := base) (T := T) (c_are_between := c_are_between) (c_is_integer := c_is_integer) (c_least_form := c_least_form) (fld_few := fld_few) (fld_period := fld_period) (fld_rests := fld_rests) (fld_start := fld_start) F_Calendar___init__
  have zm_Calendar := fx_mkr (c.fact 31 (f := .mkr 0) rfl)
  have zg_Calendar := fx_glo X G (c.fact 32 (f := .glo "Calendar") rfl)
  obtain ⟨ds_mk_Calendar_0, vd_mk_Calendar_0, bd_mk_Calendar_0⟩ := F_Calendar___init__.binds1 (ps := p_Calendar___init__) 5 4 (List.cons_ne_nil _ _) rfl fun _ _ _ _ _ _ _ us its h1 h2 => match us, its, h1, h2 with | [_, _, _, _, _], [_, _, _, _], _, _ => ⟨_, rfl, rfl⟩
  have mk_Calendar_0 : Kx P w K (kap K) mg base "Calendar" 0 3 m_Calendar___init__ [] := ⟨_, [], ⟨_, _, _, _, zg_Calendar, zm_Calendar, ok_Calendar___init__', bd_mk_Calendar_0, vd_mk_Calendar_0⟩, fun Z H => .nil, fun ρ => .nil⟩
  have ok_L_cal_of' := ok_L_cal_of (P := P) (w := w) (κ := kap K) (base := base) (T := T) (mk_Calendar_0 := mk_Calendar_0) F_L_cal_of
  have ok_L_has' := ok_L_has (P := P) (w := w) (κ := kap K) (base := base) (T := T)  F_L_has
  have ok_Calendar___str__' := ok_Calendar___str__ (P := P) (w := w) (κ := kap K) (base := base) (T := T) (fld_few := fld_few) (fld_period := fld_period) (fld_rests := fld_rests) (fld_start := fld_start) F_Calendar___str__
  have z_Calendar___str__ := fx_meth (c.fact 33 (f := .meth 0 "__str__") rfl)
  have spstr_Calendar___eq__ : ∀ p ∈ ([(0, m_Calendar___str__)] : List (Nat × Mf)), Sx P w K (kap K) mg base p.1 "__str__" 1 p.2 := by
    simp only [List.mem_cons, List.not_mem_nil, or_false, forall_eq_or_imp, forall_eq]
    exact ⟨_, _, _, z_Calendar___str__.2.1.at_, z_Calendar___str__.2.1.fn, z_Calendar___str__.2.2, z_Calendar___str__.2.1.kp, ok_Calendar___str__'.mono (by decide), F_Calendar___str__.bindsN fun _ _ _ _ _ _ us hl => match us, hl with | [_], _ => rfl⟩
  have ok_Calendar___eq__' := ok_Calendar___eq__ (P := P) (w := w) (κ := kap K) (base := base) (T := T) (O := O) (O2 := O2) (kc_Calendar := kc_Calendar) (spstr := spstr_Calendar___eq__) F_Calendar___eq__
  have ok_greatest_part' := ok_greatest_part (P := P) (w := w) (κ := kap K) (base := base) (T := T)  F_greatest_part
  have c_greatest_part : Cx' P w K (kap K) mg base "greatest_part" p_greatest_part 1 m_greatest_part := ⟨_, _, fx_glo X G (c.fact 34 (f := .glo "greatest_part") rfl), ok_greatest_part', F_greatest_part.kp, F_greatest_part.bindsN fun _ _ _ _ _ _ us hl => match us, hl with | [_, _], _ => rfl⟩
  have ok_common' := ok_common (P := P) (w := w) (κ := kap K) (base := base) (T := T) (c_greatest_part := c_greatest_part) F_common
  have ok_later_start' := ok_later_start (P := P) (w := w) (κ := kap K) (base := base) (T := T) (fld_start := fld_start) F_later_start
  have ok_is_in_by' := ok_is_in_by (P := P) (w := w) (κ := kap K) (base := base) (T := T)  F_is_in_by
  have ok_has' := ok_has (P := P) (w := w) (κ := kap K) (base := base) (T := T) (fld_few := fld_few) (fld_period := fld_period) (fld_rests := fld_rests) (fld_start := fld_start) F_has
  have c_common : Cx' P w K (kap K) mg base "common" p_common 2 m_common := ⟨_, _, fx_glo X G (c.fact 35 (f := .glo "common") rfl), ok_common', F_common.kp, F_common.bindsN fun _ _ _ _ _ _ us hl => match us, hl with | [_, _], _ => rfl⟩
  have c_has : Cx' P w K (kap K) mg base "has" p_has 1 m_has := ⟨_, _, fx_glo X G (c.fact 36 (f := .glo "has") rfl), ok_has', F_has.kp, F_has.bindsN fun _ _ _ _ _ _ us hl => match us, hl with | [_, _], _ => rfl⟩
  have c_is_in_by : Cx' P w K (kap K) mg base "is_in_by" p_is_in_by 1 m_is_in_by := ⟨_, _, fx_glo X G (c.fact 37 (f := .glo "is_in_by") rfl), ok_is_in_by', F_is_in_by.kp, F_is_in_by.bindsN fun _ _ _ _ _ _ us hl => match us, hl with | [_, _, _], _ => rfl⟩
  have c_later_start : Cx' P w K (kap K) mg base "later_start" p_later_start 1 m_later_start := ⟨_, _, fx_glo X G (c.fact 38 (f := .glo "later_start") rfl), ok_later_start', F_later_start.kp, F_later_start.bindsN fun _ _ _ _ _ _ us hl => match us, hl with | [_, _], _ => rfl⟩
  have ok_joined' := ok_joined (P := P) (w := w) (κ := kap K) (base := base) (T := T) (c_common := c_common) (c_has := c_has) (c_is_in_by := c_is_in_by) (c_later_start := c_later_start) (fld_period := fld_period) F_joined
  have c_joined : Cx' P w K (kap K) mg base "joined" p_joined 3 m_joined := ⟨_, _, fx_glo X G (c.fact 39 (f := .glo "joined") rfl), ok_joined', F_joined.kp, F_joined.bindsN fun _ _ _ _ _ _ us hl => match us, hl with | [_, _, _], _ => rfl⟩
  have ok_Calendar___xor__' := ok_Calendar___xor__ (P := P) (w := w) (κ := kap K) (base := base) (T := T) (O := O) (O2 := O2) (c_joined := c_joined) (kc_Calendar := kc_Calendar) (mk_Calendar_0 := mk_Calendar_0) F_Calendar___xor__
  have ok_Calendar___sub__' := ok_Calendar___sub__ (P := P) (w := w) (κ := kap K) (base := base) (T := T) (O := O) (O2 := O2) (c_joined := c_joined) (kc_Calendar := kc_Calendar) (mk_Calendar_0 := mk_Calendar_0) F_Calendar___sub__
  have ok_Calendar___or__' := ok_Calendar___or__ (P := P) (w := w) (κ := kap K) (base := base) (T := T) (O := O) (O2 := O2) (c_joined := c_joined) (kc_Calendar := kc_Calendar) (mk_Calendar_0 := mk_Calendar_0) F_Calendar___or__
  have ok_Calendar___and__' := ok_Calendar___and__ (P := P) (w := w) (κ := kap K) (base := base) (T := T) (O := O) (O2 := O2) (c_joined := c_joined) (kc_Calendar := kc_Calendar) (mk_Calendar_0 := mk_Calendar_0) F_Calendar___and__
  have ok_contrary' := ok_contrary (P := P) (w := w) (κ := kap K) (base := base) (T := T) (fld_few := fld_few) (fld_period := fld_period) (fld_rests := fld_rests) (fld_start := fld_start) F_contrary
  have c_contrary : Cx' P w K (kap K) mg base "contrary" p_contrary 1 m_contrary := ⟨_, _, fx_glo X G (c.fact 40 (f := .glo "contrary") rfl), ok_contrary', F_contrary.kp, F_contrary.bindsN fun _ _ _ _ _ _ us hl => match us, hl with | [_], _ => rfl⟩
  have ok_Calendar___invert__' := ok_Calendar___invert__ (P := P) (w := w) (κ := kap K) (base := base) (T := T) (c_contrary := c_contrary) (mk_Calendar_0 := mk_Calendar_0) F_Calendar___invert__
  have ok_Calendar___contains__' := ok_Calendar___contains__ (P := P) (w := w) (κ := kap K) (base := base) (T := T) (c_has := c_has) (c_is_integer := c_is_integer) F_Calendar___contains__
  have z_Calendar___contains__ := fx_meth (c.fact 41 (f := .meth 0 "__contains__") rfl)
  have spcontains_L_is_least : ∀ p ∈ ([(0, m_Calendar___contains__)] : List (Nat × Mf)), Sx P w K (kap K) mg base p.1 "__contains__" 2 p.2 := by
    simp only [List.mem_cons, List.not_mem_nil, or_false, forall_eq_or_imp, forall_eq]
    exact ⟨_, _, _, z_Calendar___contains__.2.1.at_, z_Calendar___contains__.2.1.fn, z_Calendar___contains__.2.2, z_Calendar___contains__.2.1.kp, ok_Calendar___contains__'.mono (by decide), F_Calendar___contains__.bindsN fun _ _ _ _ _ _ us hl => match us, hl with | [_, _], _ => rfl⟩
  have ok_L_is_least' := ok_L_is_least (P := P) (w := w) (κ := kap K) (base := base) (T := T) (O := O) (O2 := O2) (fld_few := fld_few) (fld_period := fld_period) (fld_rests := fld_rests) (fld_start := fld_start) (spcontains := spcontains_L_is_least) F_L_is_least
  have c_L_box : Cx' P w K (kap K) mg base "_law_box" p_L_box 1 m_L_box := ⟨_, _, fx_glo X G (c.fact 42 (f := .glo "_law_box") rfl), ok_L_box', F_L_box.kp, F_L_box.bindsN fun _ _ _ _ _ _ us hl => match us, hl with | [_, _], _ => rfl⟩
  have c_L_cal_of : Cx' P w K (kap K) mg base "_law_cal_of" p_L_cal_of 5 m_L_cal_of := ⟨_, _, fx_glo X G (c.fact 43 (f := .glo "_law_cal_of") rfl), ok_L_cal_of', F_L_cal_of.kp, F_L_cal_of.bindsN fun _ _ _ _ _ _ us hl => match us, hl with | [_], _ => rfl⟩
  have c_L_has : Cx' P w K (kap K) mg base "_law_has" p_L_has 1 m_L_has := ⟨_, _, fx_glo X G (c.fact 44 (f := .glo "_law_has") rfl), ok_L_has', F_L_has.kp, F_L_has.bindsN fun _ _ _ _ _ _ us hl => match us, hl with | [_, _], _ => rfl⟩
  have c_L_is_least : Cx' P w K (kap K) mg base "_law_is_least" p_L_is_least 3 m_L_is_least := ⟨_, _, fx_glo X G (c.fact 45 (f := .glo "_law_is_least") rfl), ok_L_is_least', F_L_is_least.kp, F_L_is_least.bindsN fun _ _ _ _ _ _ us hl => match us, hl with | [_], _ => rfl⟩
  have c_L_raw : Cx' P w K (kap K) mg base "_law_raw" p_L_raw 3 m_L_raw := ⟨_, _, fx_glo X G (c.fact 46 (f := .glo "_law_raw") rfl), ok_L_raw', F_L_raw.kp, F_L_raw.bindsN fun _ _ _ _ _ _ us hl => match us, hl with | [_, _, _], _ => rfl⟩
  obtain ⟨ds_mk_Calendar_4, vd_mk_Calendar_4, bd_mk_Calendar_4⟩ := F_Calendar___init__.binds1 (ps := p_Calendar___init__) 1 0 (List.cons_ne_nil _ _) rfl fun _ _ _ _ _ _ _ us its h1 h2 => match us, its, h1, h2 with | [_], [_, _, _, _], _, _ => ⟨_, rfl, rfl⟩
  obtain ⟨dd_dq_Calendar_3, dq_Calendar_3, dq_Calendar_3'⟩ := fx_dfl (c.fact 47 (f := .dfl ("Calendar", some "__init__") 3 (.tup [])) rfl)
  obtain ⟨dd_dq_Calendar_0, dq_Calendar_0, dq_Calendar_0'⟩ := fx_dfl (c.fact 48 (f := .dfl ("Calendar", some "__init__") 0 (.tup [])) rfl)
  have mk_Calendar_4 : Kx P w K (kap K) mg base "Calendar" 0 3 m_Calendar___init__ [.tup [], .int 1, .int 1, .tup []] := ⟨_, [dd_dq_Calendar_0, .int 1, .int 1, dd_dq_Calendar_3], ⟨_, _, _, _, zg_Calendar, zm_Calendar, ok_Calendar___init__', bd_mk_Calendar_4, vd_mk_Calendar_4⟩, fun Z H => (.cons (dq_Calendar_0 Z H) (.cons (.int _) (.cons (.int _) (.cons (dq_Calendar_3 Z H) .nil)))), fun ρ => (.cons (dq_Calendar_0' ρ) (.cons (.int _) (.cons (.int _) (.cons (dq_Calendar_3' ρ) .nil))))⟩
  have z_Calendar___and__ := fx_meth (c.fact 49 (f := .meth 0 "__and__") rfl)
  have spand_law : ∀ p ∈ ([(0, m_Calendar___and__)] : List (Nat × Mf)), Sx P w K (kap K) mg base p.1 "__and__" 5 p.2 := by
    simp only [List.mem_cons, List.not_mem_nil, or_false, forall_eq_or_imp, forall_eq]
    exact ⟨_, _, _, z_Calendar___and__.2.1.at_, z_Calendar___and__.2.1.fn, z_Calendar___and__.2.2, z_Calendar___and__.2.1.kp, ok_Calendar___and__'.mono (by decide), F_Calendar___and__.bindsN fun _ _ _ _ _ _ us hl => match us, hl with | [_, _], _ => rfl⟩
  have z_Calendar___eq__ := fx_meth (c.fact 50 (f := .meth 0 "__eq__") rfl)
  have speq_law : ∀ p ∈ ([(0, m_Calendar___eq__)] : List (Nat × Mf)), Sx P w K (kap K) mg base p.1 "__eq__" 4 p.2 := by
    simp only [List.mem_cons, List.not_mem_nil, or_false, forall_eq_or_imp, forall_eq]
    exact ⟨_, _, _, z_Calendar___eq__.2.1.at_, z_Calendar___eq__.2.1.fn, z_Calendar___eq__.2.2, z_Calendar___eq__.2.1.kp, ok_Calendar___eq__'.mono (by decide), F_Calendar___eq__.bindsN fun _ _ _ _ _ _ us hl => match us, hl with | [_, _], _ => rfl⟩
  have z_Calendar___invert__ := fx_meth (c.fact 51 (f := .meth 0 "__invert__") rfl)
  have spinvert_law : ∀ p ∈ ([(0, m_Calendar___invert__)] : List (Nat × Mf)), Sx P w K (kap K) mg base p.1 "__invert__" 5 p.2 := by
    simp only [List.mem_cons, List.not_mem_nil, or_false, forall_eq_or_imp, forall_eq]
    exact ⟨_, _, _, z_Calendar___invert__.2.1.at_, z_Calendar___invert__.2.1.fn, z_Calendar___invert__.2.2, z_Calendar___invert__.2.1.kp, ok_Calendar___invert__'.mono (by decide), F_Calendar___invert__.bindsN fun _ _ _ _ _ _ us hl => match us, hl with | [_], _ => rfl⟩
  have z_Calendar___or__ := fx_meth (c.fact 52 (f := .meth 0 "__or__") rfl)
  have spor_law : ∀ p ∈ ([(0, m_Calendar___or__)] : List (Nat × Mf)), Sx P w K (kap K) mg base p.1 "__or__" 5 p.2 := by
    simp only [List.mem_cons, List.not_mem_nil, or_false, forall_eq_or_imp, forall_eq]
    exact ⟨_, _, _, z_Calendar___or__.2.1.at_, z_Calendar___or__.2.1.fn, z_Calendar___or__.2.2, z_Calendar___or__.2.1.kp, ok_Calendar___or__'.mono (by decide), F_Calendar___or__.bindsN fun _ _ _ _ _ _ us hl => match us, hl with | [_, _], _ => rfl⟩
  have spstr_law : ∀ p ∈ ([(0, m_Calendar___str__)] : List (Nat × Mf)), Sx P w K (kap K) mg base p.1 "__str__" 1 p.2 := by
    simp only [List.mem_cons, List.not_mem_nil, or_false, forall_eq_or_imp, forall_eq]
    exact ⟨_, _, _, z_Calendar___str__.2.1.at_, z_Calendar___str__.2.1.fn, z_Calendar___str__.2.2, z_Calendar___str__.2.1.kp, ok_Calendar___str__'.mono (by decide), F_Calendar___str__.bindsN fun _ _ _ _ _ _ us hl => match us, hl with | [_], _ => rfl⟩
  have z_Calendar___sub__ := fx_meth (c.fact 53 (f := .meth 0 "__sub__") rfl)
  have spsub_law : ∀ p ∈ ([(0, m_Calendar___sub__)] : List (Nat × Mf)), Sx P w K (kap K) mg base p.1 "__sub__" 5 p.2 := by
    simp only [List.mem_cons, List.not_mem_nil, or_false, forall_eq_or_imp, forall_eq]
    exact ⟨_, _, _, z_Calendar___sub__.2.1.at_, z_Calendar___sub__.2.1.fn, z_Calendar___sub__.2.2, z_Calendar___sub__.2.1.kp, ok_Calendar___sub__'.mono (by decide), F_Calendar___sub__.bindsN fun _ _ _ _ _ _ us hl => match us, hl with | [_, _], _ => rfl⟩
  have z_Calendar___xor__ := fx_meth (c.fact 54 (f := .meth 0 "__xor__") rfl)
  have spxor_law : ∀ p ∈ ([(0, m_Calendar___xor__)] : List (Nat × Mf)), Sx P w K (kap K) mg base p.1 "__xor__" 5 p.2 := by
    simp only [List.mem_cons, List.not_mem_nil, or_false, forall_eq_or_imp, forall_eq]
    exact ⟨_, _, _, z_Calendar___xor__.2.1.at_, z_Calendar___xor__.2.1.fn, z_Calendar___xor__.2.2, z_Calendar___xor__.2.1.kp, ok_Calendar___xor__'.mono (by decide), F_Calendar___xor__.bindsN fun _ _ _ _ _ _ us hl => match us, hl with | [_, _], _ => rfl⟩
  exact ok_law (κ := kap K) (T := T) (O := O) (O2 := O2) (c_L_box := c_L_box) (c_L_cal_of := c_L_cal_of) (c_L_has := c_L_has) (c_L_is_least := c_L_is_least) (c_L_raw := c_L_raw) (c_L_take := c_L_take) (fld_period := fld_period) (fld_start := fld_start) (mk_Calendar_0 := mk_Calendar_0) (mk_Calendar_4 := mk_Calendar_4) (spand := spand_law) (speq := speq_law) (spinvert := spinvert_law) (spor := spor_law) (spstr := spstr_law) (spsub := spsub_law) (spxor := spxor_law) F_law
end K36
open PySem PySem.W PySem.Calls PyProof.Rows
set_option maxRecDepth 100000 in
set_option maxHeartbeats 0 in
theorem PySem.Challenge.cw_ringsums_k36_whole_least_forms_holds : PySem.Challenge.rw_ringsums_k36_whole_least_forms.Holds := by
  w_on; o_law
  refine HandSHeadRun.head_any (r := OpenLaw.row PySem.Challenge.rw_ringsums_k36_whole_least_forms) (q := view (OpenLaw.row PySem.Challenge.rw_ringsums_k36_whole_least_forms).prog [28]) (H := K36.hk) (ob := K36.ob) (M := 20000) (loose := K36.loose) (d := HandSHeadRun.topDef (OpenLaw.row PySem.Challenge.rw_ringsums_k36_whole_least_forms).prog 28) (kwd := []) K36.ob_eq
    (by kernel_rfl) (fun s => by kernel_rfl) K36.run (by kernel_rfl) (by kernel_rfl) (by kernel_rfl) (by rfl) (by first | assumption | decide +kernel) (by decide +kernel) ⟨rfl, rfl, rfl, rfl, rfl, by decide +kernel⟩ ?hw ?hc
  case hw => w_witness2
  case hc =>
    refine RX.walkA (l := PySem.Challenge.rw_ringsums_k36_whole_least_forms) (n := 63) (k := 6) (x := "_law_script") rfl (by decide) (by kernel_rfl) ⟨rfl, by decide, by decide⟩ ?F
    intro w mg fa h Y G hmg0
    obtain ⟨K, KX, c⟩ := Y
    have hmg : mg ("law" : PySem.Str) = some (.ref fa) := by
      have e : (HandSHeadRun.topDef (OpenLaw.row PySem.Challenge.rw_ringsums_k36_whole_least_forms).prog 28).name = ("law" : PySem.Str) := by kernel_rfl
      rw [← e]
      exact hmg0
    obtain ⟨fd, hb, hF⟩ := K36.facts (P := (PySem.Challenge.rw_ringsums_k36_whole_least_forms).prog) (w := w) KX G hmg c
    exact ⟨K, fd, RS.spOf K (RX.spX (K36.kap K) K36.m_law), KX, hb, fun H a ns hl hO hS => RX.law_start K36.core H a ns hl hO hS, hF⟩

