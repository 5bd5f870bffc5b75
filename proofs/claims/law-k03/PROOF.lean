import PyProof.Rows.All
import Wide.All
import OpenK.AllK
import Wide.FinOn
import HandS.ForMost
import HandS.Walk
import KE.GoesMore
import KE.GoesEnum
import PyProof.Draws
import HandS.ForExc
import HandS.ForDict
import HandS.Defaults
import HandS.IsInst
import HandS.Conv
import HandS.Wide
import HandS.Flow
import HandS.TupAny
import HandS.TupMul
import HandS.Style
import HandS.Zip
import HandS.CallSlots
import HandS.Rev
import HandS.TryOnly
import HandS.ExcInit
import HandS.ExcField
import HandS.More
import HandS.Words
import HandS.Property
import KE.KRevSl
import HandS.GenList
import PyProof.ForAny
import HandS.TupLe
import KE.KStateDown
import HandS.Head2
import HandS.HeadEnd
import HandS.HeadHook4
import PySem.Challenge.RW_purseahead_k03_whole_all_runs_in_order
section
set_option Elab.async false
set_option linter.all false
set_option autoImplicit false
set_option maxRecDepth 100000
set_option maxHeartbeats 2000000
/-! DL0: enumerate over a tuple; a walk over a list or a tuple. -/
namespace PySem
open Sem (wp)
open AutoSeq1 (wpAny_loadPart')
set_option maxHeartbeats 1000000 in
theorem meets_enumerate_newT {v : Value} {o : Obj} {H : Heap → Prop} (B : Begins v o H) :
    Meets (Builtin.«enumerate.__new__» ⟨[.type "enumerate", v], []⟩) (fun _ R s => H s.heap ∧
      R (.ok (.ret (.ref (s.heap.push o).objs.size))) { s with heap := (s.heap.push o).push { cls := .type "enumerate", data := .fields #[.none, .bool false, .ref s.heap.objs.size, rawInt 0, .none, .none] } }) :=
  .of_wp fun prog w A R s h => by
    obtain ⟨hp, g, d, tk, os⟩ := s; obtain ⟨h1, h⟩ := h
    have hsub := sub_enumerate
    have q1 : ∀ {A' : Around} {E : Value → Shared → Prop} {Q : Value → Shared → Prop}, Q (.ref hp.objs.size) ⟨hp.push o, g, d, tk, os⟩ → wpAny (model prog w) A' (pyIter v) Q E ⟨hp, g, d, tk, os⟩ :=
      fun q => B.iter prog w _ _ ⟨hp, g, d, tk, os⟩ _ h1 q
    wp_walk using q1
    refine wpAny_stack_any fun st => wpAny_pure ?_
    split
    · rename_i c _ _ _ _ _
      cases (c == Value.type "enumerate")
      · wp_walk using q1
        exact ⟨_, rfl, h⟩
      · wp_walk using q1
        exact ⟨_, rfl, h⟩
    · wp_walk using q1
      exact ⟨_, rfl, h⟩
section
variable {prog : Program} {w : World} {A : Around} {E : Value → Shared → Prop} {s : Shared}
theorem enum_begins1 {v : Value} {o : Obj} {H : Heap → Prop} {Q : Value → Shared → Prop} (B : Begins v o H) (h1 : H s.heap)
    (h : ∀ h', IsEnum h' (s.heap.objs.size + 1) s.heap.objs.size 0 .none → h'.get? s.heap.objs.size = some o → h'.objs.size = s.heap.objs.size + 2 →
      (∀ b o, s.heap.get? b = some o → h'.get? b = some o) → Q (.ref (s.heap.objs.size + 1)) { s with heap := h' }) :
    wpAny (model prog w) A (call (.type "enumerate") [v]) Q E s := by
  refine callType_new F.called_enumerate (by decide) (F.typeCall_enumerate_1 _) (F.newCall_enumerate_1 _) (fun obj => F.args_object_init_2 obj _) F.entry_enumerate_new
    (meets_enumerate_newT B) ⟨h1, ?_⟩
  have hz : (s.heap.push o).objs.size = s.heap.objs.size + 1 := Heap.size_push ..
  show _ ∧ _
  rw [hz]
  have he : IsEnum ((s.heap.push o).push { cls := .type "enumerate", data := .fields #[.none, .bool false, .ref s.heap.objs.size, rawInt 0, .none, .none] }) (s.heap.objs.size + 1) s.heap.objs.size 0 .none := by
    have := Heap.get?_push_size (s.heap.push o) (o := { cls := .type "enumerate", data := .fields #[.none, .bool false, .ref s.heap.objs.size, rawInt 0, .none, .none] }) rfl
    rw [hz] at this; exact this
  refine ⟨⟨_, he, rfl⟩, h _ he (Heap.get?_push_of_some _ (Heap.get?_push_size _ B.free)) (by rw [Heap.size_push, hz]) fun b o x => Heap.get?_push_of_some _ (Heap.get?_push_of_some _ x)⟩
theorem wpAny_pyNext_enum_endT {e it t : Addr} {items : Array Value} {i : Nat} {k : Int} {old : Value} {Q : Option Value → Shared → Prop} (hh : A.handled = none)
    (he : IsEnum s.heap e it k old) (hit : s.heap.IsTupleIter it t i) (ht : s.heap.IsTuple t items) (hx : items[i]? = none)
    (hQ : ∀ h', Heap.ExtBut it s.heap h' → Q none { s with heap := h' }) : wpAny (model prog w) A (pyNext (.ref e)) Q E s := by
  have hT : s.TypeIs (.ref e) "enumerate" := ⟨_, he, rfl⟩
  unfold pyNext
  refine wpAny_bind (wpAny_attempt (wpAny_callSpecial?_slot (name := Str.ofString "__next__") hT F.slot_enumerate_next
    (wpAny_call_entry F.slot_enumerate_next hT F.entry_enumerate_next ?_ (F.args_enumerate_next_1 _))))
  show wpAny _ _ (field (.ref e) 2 >>= _) _ _ _
  refine wpAny_bind (wpAny_field he rfl (x := .ref it) rfl ?_)
  refine wpAny_bind (wpAny_nextOf_tuple_end hh hit ht hx fun h' x he' hx' => ?_)
  obtain ⟨o, ho, hc⟩ := hx'
  refine wpAny_bind (wpAny_isInstance (T := "StopIteration") (b := true) ⟨o, ho, hc⟩ isSubtype_stop ?_)
  exact wpAny_pure (hQ _ he')
end
end PySem
namespace L2
open PySem PySem.Spec PyProof.Rows
/-- enumerate over a tuple -/
def IteT (K : PySem.W.Frag) (a : Addr) : It :=
  ⟨fun i H => ∃ (xs : List V) (x : V), SqT K H a xs ∧ xs[i]? = some x, fun i H v H' => ∃ T x, v = .ref T ∧ H T = none ∧ H' = upd H T (.tup [.int (i : Nat), x]) ∧ ∀ xs, SqT K H a xs → xs[i]? = some x, fun i H => ∃ xs : List V, SqT K H a xs ∧ xs.length ≤ i⟩
theorem turn_enumT {P : Program} {w : World} {K : PySem.W.Frag} {elts : List Expr} {kk : Nat} {tpos : Pos} (a e it : Addr) :
    Turn P w K (.Tuple elts kk tpos) (IteT K a) [e, it] e (fun i h => (∃ old, IsEnum h e it ((i : Nat) : Int) old) ∧ h.IsTupleIter it a i ∧ e ≠ it ∧ a ≠ it ∧ a ≠ e) where
  mem := by simp
  obj := fun i h st b hb => by
    obtain ⟨⟨old, he⟩, ⟨o, ho, hc, hd⟩, _⟩ := st
    have e' : b = e ∨ b = it := by simpa using hb
    rcases e' with z | z
    · rw [z]; exact ⟨_, he, fun v q => nomatch q⟩
    · rw [z]; exact ⟨o, ho, fun v q => by rw [hd] at q; cases q⟩
  keep := fun i h h' st k => let ⟨⟨old, he⟩, hi, hne⟩ := st; ⟨⟨old, k e (by simp) _ he⟩, hi.at fun o q => k it (by simp) o q, hne⟩
  item := by
    intro X hP hw hK hc i pins s σ H E I hf st hg
    subst hP hw hK
    obtain ⟨⟨old, he⟩, hit, hne, hai, hae⟩ := st
    obtain ⟨xs, x, hq, hx⟩ := hg
    obtain ⟨its, rv, p, hz⟩ := I.tuple hq
    obtain ⟨u, hu, ru⟩ := rv.get hx
    have hel : e < s.heap.objs.size := Heap.lt_size he
    have hil : it < s.heap.objs.size := by obtain ⟨_, q, _⟩ := hit; exact Heap.lt_size q
    have hlt : i < its.toArray.size := by
      have := (List.getElem?_eq_some_iff.mp hu).1
      simpa using this
    refine wpAny_pyNext_enum_itemD (Draws.tuple (A := X.A.in1) (I.ok.hd hc) it a hai its.toArray) he ⟨hit, p⟩ hlt hne (by simp [hne, Ne.symm hae]) fun x' h' tk hP ho hst' hT hsz hk => ?_
    obtain ⟨hit', _⟩ := hst'
    have ex : x' = u := by
      have e1 : its.toArray[i]? = some u := by simpa using hu
      rw [e1] at hP
      exact (Option.some.inj hP).symm
    subst ex
    refine ⟨_, rfl, wpAny_letOwnedTupleGo_enum (s := { s with heap := h', toks := tk + 1 }) ho fun h'' he' sb => ?_⟩
    have hT2 : h''.get? s.heap.objs.size = some { cls := .type "tuple", data := .seq #[.int i tk, x'] } := (sb.2 _ (Nat.ne_of_gt hel)).trans hT
    have new : ObjOk X.prog X.w (upd H s.heap.objs.size (.tup [.int (i : Nat), x])) h'' s.heap.objs.size (.tup [.int (i : Nat), x]) :=
      ⟨by show 2 ≤ sizeLine; decide, [.int i tk, x'], .cons ⟨_, rfl⟩ (.cons ru .nil), ⟨_, hT2, rfl, _, rfl⟩⟩
    have I1 : Inv X pins σ (upd H s.heap.objs.size (.tup [.int (i : Nat), x])) { s with heap := h'', toks := tk + 1 } :=
      I.turnedNew (ch := [e, it]) (fun b ob hb q => (sb.2 b (fun z => hb (by simp [z]))).trans (hk b ob (fun z => hb (by simp [z])) (fun z => hb (by simp [z])) q)) hf (Nat.le_refl _) new
    refine ⟨.ref s.heap.objs.size, _, I1, rfl, ⟨_, x, rfl, I.hok.fresh (Nat.le_refl _), rfl, fun ys hy => by rw [I.tuple_inj hy hq]; exact hx⟩, ⟨⟨x', ?_⟩, hit'.at fun o q => (sb.2 it (Ne.symm hne)).trans q, hne, hai, hae⟩, fun b hb => ?_⟩
    · have e1 : ((i + 1 : Nat) : Int) = (i : Int) + 1 := by omega
      rw [e1]; exact he'
    · have hb' : b < s.heap.objs.size := by
        have e' : b = e ∨ b = it := by simpa using hb
        rcases e' with z | z
        · rw [z]; exact hel
        · rw [z]; exact hil
      rw [upd_ne (Nat.ne_of_lt hb')]
      exact (hf b hb).1
  done := by
    intro X hP hw hK hc i pins s σ H E I hf st hg
    subst hP hw hK
    obtain ⟨⟨old, he⟩, hit, hne, hai, hae⟩ := st
    obtain ⟨xs, hq, hx⟩ := hg
    obtain ⟨its, rv, p, hz⟩ := I.tuple hq
    obtain ⟨f0, f1, f2, f3, f4, f5⟩ := hf it (by simp)
    have hl := rv.length
    exact wpAny_pyNext_enum_endT (I.ok.hd hc) he hit p (by simp; omega) fun h' eb => ⟨rfl, I.turned (t' := s.toks) (fun b o hb q => eb b o hb q) f0 f1 f3 f4 f5⟩
  self := fun A i s Q E st h => let ⟨⟨_, he⟩, _⟩ := st; wpAny_pyIter_enum he h
def iEnumA (K : PySem.W.Frag) (ta : TA) : TI := fun σ H R => ta σ H fun vs H1 => ∃ a, vs = [.ref a] ∧ ((∃ xs, SqL K H1 a xs ∧ R (Ite K a) H1) ∨ (∃ xs, SqT K H1 a xs ∧ R (IteT K a) H1))
theorem pi_enumA {X : Cx} {e : Expr} {ta : TA} {p pos tpos : Pos} {elts : List Expr} {kk : Nat} (hg : Gl X "enumerate") (hm : X.mg "enumerate" = none) (ha : PA X [e] ta) (hs : starEach [e] X.env = [(false, eval e X.env)] := by rfl) :
    PI X (.Tuple elts kk tpos) (.Call (.Name "enumerate" p) [e] [] pos) (iEnumA X.K ta) := by
  refine ⟨fun pins s σ H R I h => ?_⟩
  refine Call_ (ld_blt I hg hm boot_enumerate (PyProof.Rows.callWith_type1 (thn (ha.run pos pins s σ H _ I h) fun us s1 ⟨vs, H1, I1, r1, q1⟩ => ?_) hs rfl))
  obtain ⟨a, ex, q⟩ := q1
  subst ex
  cases r1 with
  | cons r rr =>
    cases rr
    cases r
    rcases q with ⟨xs, hq, q⟩ | ⟨xs, hq, q⟩
    · obtain ⟨its, rv, p', hz⟩ := I1.list hq
      refine call_enumerate_list p'.isList fun h' he hit hsz hk => wpAny_pyIter_enum he ?_
      refine ⟨s1.heap.objs.size + 1, [s1.heap.objs.size + 1, s1.heap.objs.size], _, _, H1, rfl, I1.kept (t' := s1.toks) hk, turn_enum a (s1.heap.objs.size + 1) s1.heap.objs.size, ⟨⟨_, he⟩, hit, Nat.succ_ne_self _⟩, fun b hb => ?_, q⟩
      have e' : b = s1.heap.objs.size + 1 ∨ b = s1.heap.objs.size := by simpa using hb
      rcases e' with z | z
      · rw [z]; exact I1.fpOk (Nat.le_succ _) (I1.hok.fresh (Nat.le_succ _))
      · rw [z]; exact I1.fpOk (Nat.le_refl _) (I1.hok.fresh (Nat.le_refl _))
    · obtain ⟨its, rv, p', hz⟩ := I1.tuple hq
      have hal : a < s1.heap.objs.size := by obtain ⟨_, q, _⟩ := p'; exact Heap.lt_size q
      refine enum_begins1 (begins_tuple a its.toArray) p' fun h' he hit hsz hk => wpAny_pyIter_enum he ?_
      refine ⟨s1.heap.objs.size + 1, [s1.heap.objs.size + 1, s1.heap.objs.size], _, _, H1, rfl, I1.kept (t' := s1.toks) hk, turn_enumT a (s1.heap.objs.size + 1) s1.heap.objs.size, ⟨⟨_, he⟩, ⟨_, hit, rfl, rfl⟩, Nat.succ_ne_self _, Nat.ne_of_lt hal, Nat.ne_of_lt (Nat.lt_succ_of_lt hal)⟩, fun b hb => ?_, q⟩
      have e' : b = s1.heap.objs.size + 1 ∨ b = s1.heap.objs.size := by simpa using hb
      rcases e' with z | z
      · rw [z]; exact I1.fpOk (Nat.le_succ _) (I1.hok.fresh (Nat.le_succ _))
      · rw [z]; exact I1.fpOk (Nat.le_refl _) (I1.hok.fresh (Nat.le_refl _))
theorem walk_enumT {K : PySem.W.Frag} {a : Addr} {xs : List V} : Walk (IteT K a) xs.length (fun H => SqT K H a xs) (YPair (fun i => some (.int (i : Nat))) (fun i => xs[i]?)) := by
  refine ⟨fun i _ hi q => ⟨xs, xs[i], q, by simp [hi]⟩, fun _ q => ⟨xs, q, Nat.le_refl _⟩, fun i H v H' _ q y => ?_⟩
  obtain ⟨T, x, h1, h2, h3, h4⟩ := y
  exact ⟨T, .int (i : Nat), x, h1, h2, h3, rfl, h4 xs q⟩
/-- a list or a tuple walked -/
def iSeq (K : PySem.W.Frag) (te : TE) : TI := fun σ H R => te σ H fun x H1 => ∃ a, x = .ref a ∧ (((∃ xs, SqL K H1 a xs) ∧ R (Itl K a) H1) ∨ ((∃ xs, SqT K H1 a xs) ∧ R (Itt K a) H1))
theorem pi_seq {X : Cx} {tg l : Expr} {tl : TE} (hl : PE X l tl) : PI X tg l (iSeq X.K tl) := by
  refine ⟨fun pins s σ H R I h => ?_⟩
  refine thn (hl.run pins s σ H _ I h) fun v s1 ⟨x, H1, I1, r1, a, e, h1⟩ => ?_
  subst e
  cases r1
  rcases h1 with ⟨⟨xs, hq⟩, q⟩ | ⟨⟨xs, hq⟩, q⟩
  · obtain ⟨its, rv, p, hz⟩ := I1.list hq
    refine wpAny_pyIter_list p.isList ?_
    refine ⟨s1.heap.objs.size, [s1.heap.objs.size], _, _, H1, rfl, I1.kept (t' := s1.toks) fun b o e => Heap.get?_push_of_some _ e, turn_list a _, ⟨_, Heap.get?_push_size _ rfl, rfl, rfl⟩, fun b hb => ?_, q⟩
    have e : b = s1.heap.objs.size := by simpa using hb
    subst e
    exact I1.fpOk (Nat.le_refl _) (I1.hok.fresh (Nat.le_refl _))
  · obtain ⟨its, rv, p, hz⟩ := I1.tuple hq
    refine wpAny_pyIter_tuple (show s1.heap.IsTuple a its.toArray from p) ?_
    refine ⟨s1.heap.objs.size, [s1.heap.objs.size], _, _, H1, rfl, I1.kept (t' := s1.toks) fun b o e => Heap.get?_push_of_some _ e, turn_tuple a _, ⟨_, Heap.get?_push_size _ rfl, rfl, rfl⟩, fun b hb => ?_, q⟩
    have e : b = s1.heap.objs.size := by simpa using hb
    subst e
    exact I1.fpOk (Nat.le_refl _) (I1.hok.fresh (Nat.le_refl _))
end L2
end

section
set_option Elab.async false
set_option linter.all false
set_option autoImplicit false
set_option maxRecDepth 100000
set_option maxHeartbeats 2000000
/-! DL1: values as trees of data; a store for what may change; what it is that a reading of the hand layer is led by a reading over data. -/
namespace DL
open PySem PySem.Spec PyProof.Rows L2

/-- the built-in classes that stand as values -/
inductive Ty where
  | int | bool | str | tuple | list | dict | none
  deriving DecidableEq
def Ty.name : Ty → String
  | .int => "int" | .bool => "bool" | .str => "str" | .tuple => "tuple" | .list => "list" | .dict => "dict" | .none => "NoneType"
/-- a value as data: frozen things are trees; raw a: the object at a, of which only the store tells -/
inductive D where
  | non | bl (b : Bool) | int (i : Int) | str (x : Str) | ty (n : Ty) | raw (a : Addr)
  | tup (xs : List D) | lst (xs : List D) | ins (C : Addr) (fs : List (Str × D)) | dk (kvs : List (Key × D))

section
variable (K : PySem.W.Frag) (Z : Hp)
mutual
inductive Rep : D → V → Prop
  | non : Rep .non .non
  | bl (b : Bool) : Rep (.bl b) (.bl b)
  | int (i : Int) : Rep (.int i) (.int i)
  | str (x : Str) : Rep (.str x) (.str x)
  | ty (n : Ty) : Rep (.ty n) (.ty n.name)
  | raw (a : Addr) : Rep (.raw a) (.ref a)
  | tup {a : Addr} {xs : List V} {ds : List D} : SqT K Z a xs → Reps ds xs → Rep (.tup ds) (.ref a)
  | lst {a : Addr} {xs : List V} {ds : List D} : Z a = some (.lst xs) → Reps ds xs → Rep (.lst ds) (.ref a)
  | ins {a C dx : Addr} {gs : List (Str × V)} {fs : List (Str × D)} : Z a = some (.ins C dx gs) → RepF fs gs → Rep (.ins C fs) (.ref a)
  | dk {a : Addr} {gs : List (Key × V)} {fs : List (Key × D)} : Z a = some (.dK gs) → RepK fs gs → Rep (.dk fs) (.ref a)
inductive Reps : List D → List V → Prop
  | nil : Reps [] []
  | cons {d : D} {v : V} {ds : List D} {vs : List V} : Rep d v → Reps ds vs → Reps (d :: ds) (v :: vs)
inductive RepF : List (Str × D) → List (Str × V) → Prop
  | nil : RepF [] []
  | cons {f : Str} {d : D} {v : V} {ds : List (Str × D)} {vs : List (Str × V)} : Rep d v → RepF ds vs → RepF ((f, d) :: ds) ((f, v) :: vs)
inductive RepK : List (Key × D) → List (Key × V) → Prop
  | nil : RepK [] []
  | cons {f : Key} {d : D} {v : V} {ds : List (Key × D)} {vs : List (Key × V)} : Rep d v → RepK ds vs → RepK ((f, d) :: ds) ((f, v) :: vs)
end
end

section
variable {K : PySem.W.Frag} {Z Z' : Hp}
theorem Same.sqt {H H' : Hp} {a : Addr} {xs : List V} (e : Same H H') (h : SqT K H a xs) : SqT K H' a xs := by
  rcases h with (h | ⟨o, h⟩) | h
  · exact .inl (.inl (e _ _ h))
  · exact .inl (.inr ⟨o, e _ _ h⟩)
  · exact .inr h
mutual
theorem Rep.mono (s : Same Z Z') : ∀ {d : D} {v : V}, Rep K Z d v → Rep K Z' d v
  | _, _, .non => .non
  | _, _, .bl b => .bl b
  | _, _, .int i => .int i
  | _, _, .str x => .str x
  | _, _, .ty n => .ty n
  | _, _, .raw a => .raw a
  | _, _, .tup h r => .tup (Same.sqt s h) (Reps.mono s r)
  | _, _, .lst h r => .lst (s _ _ h) (Reps.mono s r)
  | _, _, .ins h r => .ins (s _ _ h) (RepF.mono s r)
  | _, _, .dk h r => .dk (s _ _ h) (RepK.mono s r)
theorem Reps.mono (s : Same Z Z') : ∀ {d : List D} {v : List V}, Reps K Z d v → Reps K Z' d v
  | _, _, .nil => .nil
  | _, _, .cons h r => .cons (Rep.mono s h) (Reps.mono s r)
theorem RepF.mono (s : Same Z Z') : ∀ {d : List (Str × D)} {v : List (Str × V)}, RepF K Z d v → RepF K Z' d v
  | _, _, .nil => .nil
  | _, _, .cons h r => .cons (Rep.mono s h) (RepF.mono s r)
theorem RepK.mono (s : Same Z Z') : ∀ {d : List (Key × D)} {v : List (Key × V)}, RepK K Z d v → RepK K Z' d v
  | _, _, .nil => .nil
  | _, _, .cons h r => .cons (Rep.mono s h) (RepK.mono s r)
end
theorem Reps.length : ∀ {ds : List D} {vs : List V}, Reps K Z ds vs → ds.length = vs.length
  | _, _, .nil => rfl
  | _, _, .cons _ r => congrArg (· + 1) (Reps.length r)
theorem Reps.append : ∀ {ds es : List D} {vs us : List V}, Reps K Z ds vs → Reps K Z es us → Reps K Z (ds ++ es) (vs ++ us)
  | _, _, _, _, .nil, h => h
  | _, _, _, _, .cons a r, h => .cons a (Reps.append r h)
theorem Reps.get : ∀ {ds : List D} {vs : List V} {i : Nat} {v : V}, Reps K Z ds vs → vs[i]? = some v → ∃ d, ds[i]? = some d ∧ Rep K Z d v
  | _, _, _, _, .nil, e => by simp at e
  | _, _, 0, _, .cons a r, e => by simp at e; subst e; exact ⟨_, rfl, a⟩
  | _, _, i + 1, _, .cons a r, e => by
    obtain ⟨d, h1, h2⟩ := Reps.get r (i := i) (by simpa using e)
    exact ⟨d, by simpa using h1, h2⟩
theorem Reps.getD : ∀ {ds : List D} {vs : List V} {i : Nat} {d : D}, Reps K Z ds vs → ds[i]? = some d → ∃ v, vs[i]? = some v ∧ Rep K Z d v
  | _, _, _, _, .nil, e => by simp at e
  | _, _, 0, _, .cons a r, e => by simp at e; subst e; exact ⟨_, rfl, a⟩
  | _, _, i + 1, _, .cons a r, e => by
    obtain ⟨d, h1, h2⟩ := Reps.getD r (i := i) (by simpa using e)
    exact ⟨d, by simpa using h1, h2⟩
theorem Reps.take (n : Nat) : ∀ {ds : List D} {vs : List V}, Reps K Z ds vs → Reps K Z (ds.take n) (vs.take n) := by
  induction n with
  | zero => intro ds vs _; rw [List.take_zero, List.take_zero]; exact .nil
  | succ n ih => intro ds vs h; cases h with
    | nil => exact .nil
    | cons a r => exact .cons a (ih r)
theorem Reps.drop (n : Nat) : ∀ {ds : List D} {vs : List V}, Reps K Z ds vs → Reps K Z (ds.drop n) (vs.drop n) := by
  induction n with
  | zero => intro ds vs h; exact h
  | succ n ih => intro ds vs h; cases h with
    | nil => exact .nil
    | cons a r => exact ih r
theorem Reps.set {d : D} {v : V} (a : Rep K Z d v) : ∀ {ds : List D} {vs : List V} (n : Nat), Reps K Z ds vs → Reps K Z (ds.set n d) (vs.set n v)
  | _, _, _, .nil => .nil
  | _, _, 0, .cons _ r => .cons a r
  | _, _, n + 1, .cons b r => .cons b (Reps.set a n r)
theorem Reps.eraseIdx : ∀ {ds : List D} {vs : List V} (n : Nat), Reps K Z ds vs → Reps K Z (ds.eraseIdx n) (vs.eraseIdx n)
  | _, _, _, .nil => .nil
  | _, _, 0, .cons _ r => r
  | _, _, n + 1, .cons b r => .cons b (Reps.eraseIdx n r)
theorem Reps.reverse : ∀ {ds : List D} {vs : List V}, Reps K Z ds vs → Reps K Z ds.reverse vs.reverse
  | _, _, .nil => .nil
  | _, _, .cons a r => by rw [List.reverse_cons, List.reverse_cons]; exact (Reps.reverse r).append (.cons a .nil)
theorem Reps.dropLast : ∀ {ds : List D} {vs : List V}, Reps K Z ds vs → Reps K Z ds.dropLast vs.dropLast
  | _, _, .nil => .nil
  | _, _, .cons _ .nil => .nil
  | _, _, .cons a (.cons b r) => .cons a (Reps.dropLast (.cons b r))
theorem Reps.insertIdx {d : D} {v : V} (a : Rep K Z d v) : ∀ {ds : List D} {vs : List V} (n : Nat), Reps K Z ds vs → Reps K Z (ds.take n ++ d :: ds.drop n) (vs.take n ++ v :: vs.drop n) := fun n h =>
  (h.take n).append (.cons a (h.drop n))
theorem RepF.lookup (f : Str) : ∀ {fs : List (Str × D)} {gs : List (Str × V)} {d : D}, RepF K Z fs gs → fs.lookup f = some d → ∃ v, gs.lookup f = some v ∧ Rep K Z d v
  | _, _, _, .nil, e => by simp at e
  | _, _, _, .cons (f := g) a r, e => by
    rw [List.lookup_cons] at e ⊢
    cases q : (f == g) with
    | true => rw [q] at e; cases e; exact ⟨_, rfl, a⟩
    | false => rw [q] at e; exact RepF.lookup f r e
theorem RepF.lookup_none (f : Str) : ∀ {fs : List (Str × D)} {gs : List (Str × V)}, RepF K Z fs gs → fs.lookup f = none → gs.lookup f = none
  | _, _, .nil, e => rfl
  | _, _, .cons (f := g) a r, e => by
    rw [List.lookup_cons] at e ⊢
    cases q : (f == g) with
    | true => rw [q] at e; cases e
    | false => rw [q] at e; exact RepF.lookup_none f r e
theorem RepF.length : ∀ {fs : List (Str × D)} {gs : List (Str × V)}, RepF K Z fs gs → fs.length = gs.length
  | _, _, .nil => rfl
  | _, _, .cons _ r => congrArg (· + 1) (RepF.length r)
/-- a field stored -/
def putD (f : Str) (v : D) : List (Str × D) → List (Str × D)
  | [] => [(f, v)]
  | (g, u) :: r => if g = f then (g, v) :: r else (g, u) :: putD f v r
theorem RepF.put (f : Str) {d : D} {v : V} (a : Rep K Z d v) : ∀ {fs : List (Str × D)} {gs : List (Str × V)}, RepF K Z fs gs → RepF K Z (putD f d fs) (putF f v gs)
  | _, _, .nil => .cons a .nil
  | _, _, .cons (f := g) (d := d') (v := v') (ds := ds) (vs := vs) b r => by
    show RepF K Z (if g = f then (g, d) :: _ else _) (if g = f then (g, v) :: _ else _)
    by_cases e : g = f
    · rw [if_pos e, if_pos e]; exact .cons a r
    · rw [if_neg e, if_neg e]; exact .cons b (RepF.put f a r)
theorem Reps.ints : ∀ {ns : List Int} {vs : List V}, Reps K Z (ns.map D.int) vs → vs = ns.map V.int
  | [], _, .nil => rfl
  | _ :: _, _, .cons (.int i) r => by rw [Reps.ints r, List.map_cons]
theorem Reps.of_ints : ∀ (ns : List Int), Reps K Z (ns.map D.int) (ns.map V.int)
  | [] => .nil
  | n :: ns => .cons (.int n) (Reps.of_ints ns)
theorem Reps.bls : ∀ {ns : List Bool} {vs : List V}, Reps K Z (ns.map D.bl) vs → vs = ns.map V.bl
  | [], _, .nil => rfl
  | _ :: _, _, .cons (.bl i) r => by rw [Reps.bls r, List.map_cons]
end

/-- a wish about a thing that may change, told of the frozen part -/
structure Pr where
  p : Hp → HO → Prop
  mono : ∀ Z Z' u, Same Z Z' → p Z u → p Z' u
/-- a thing that may change -/
inductive O where
  | lst (ds : List D) | ins (C : Addr) (fs : List (Str × D)) | dk (kvs : List (Key × D)) | abs (p : Pr)
abbrev Sto := Addr → Option O
def RepO (K : PySem.W.Frag) (Z : Hp) : O → HO → Prop
  | .lst ds, u => ∃ xs, u = .lst xs ∧ Reps K Z ds xs
  | .ins C fs, u => ∃ dx gs, u = .ins C dx gs ∧ RepF K Z fs gs
  | .dk kvs, u => ∃ gs, u = .dK gs ∧ RepK K Z kvs gs
  | .abs p, u => p.p Z u
theorem RepO.mono {K : PySem.W.Frag} {Z Z' : Hp} (s : Same Z Z') : ∀ {o : O} {u : HO}, RepO K Z o u → RepO K Z' o u
  | .lst _, _, ⟨xs, e, r⟩ => ⟨xs, e, r.mono s⟩
  | .ins _ _, _, ⟨dx, gs, e, r⟩ => ⟨dx, gs, e, r.mono s⟩
  | .dk _, _, ⟨gs, e, r⟩ => ⟨gs, e, r.mono s⟩
  | .abs p, _, h => p.mono _ _ _ s h
def updS (S : Sto) (a : Addr) (o : O) : Sto := fun b => if b = a then some o else S b
def delS (S : Sto) (a : Addr) : Sto := fun b => if b = a then none else S b
theorem updS_same {S : Sto} {a : Addr} {o : O} : updS S a o a = some o := if_pos rfl
theorem updS_ne {S : Sto} {a b : Addr} {o : O} (h : b ≠ a) : updS S a o b = S b := if_neg h
theorem updS_upd {S : Sto} {a : Addr} {o u : O} : updS (updS S a o) a u = updS S a u := by
  funext b; unfold updS; split <;> rfl
theorem updS_self {S : Sto} {a : Addr} {o : O} (h : S a = some o) : updS S a o = S := by
  funext b; unfold updS; split
  · rename_i e; rw [e, h]
  · rfl
theorem delS_same {S : Sto} {a : Addr} : delS S a a = none := if_pos rfl
theorem delS_ne {S : Sto} {a b : Addr} (h : b ≠ a) : delS S a b = S b := if_neg h
theorem delS_upd {S : Sto} {a : Addr} {o : O} (h : S a = none) : delS (updS S a o) a = S := by
  funext b; unfold delS updS; split
  · rename_i e; rw [e, h]
  · rfl
theorem neS {S : Sto} {a b : Addr} {o : O} (h : S a = some o) (h' : S b = none) : a ≠ b := by
  intro e; subst e; rw [h] at h'; cases h'

/-- the frozen part, the store, the heap -/
structure Rel (K : PySem.W.Frag) (Z : Hp) (S : Sto) (H : Hp) : Prop where
  sub : Same Z H
  own : ∀ a o, S a = some o → Z a = none ∧ ∃ u, H a = some u ∧ RepO K Z o u
abbrev DEnv := List (Option D)
structure RelE (K : PySem.W.Frag) (Z : Hp) (env : DEnv) (σ : List (Option V)) : Prop where
  len : env.length = σ.length
  at_ : ∀ (i : Nat) (d : D), env[i]? = some (some d) → ∃ v : V, σ[i]? = some (some v) ∧ Rep K Z d v
section
variable {K : PySem.W.Frag} {Z Z' : Hp} {S : Sto} {H : Hp} {env : DEnv} {σ : List (Option V)} {a : Addr}
theorem RelE.mono (r : RelE K Z env σ) (s : Same Z Z') : RelE K Z' env σ := ⟨r.len, fun i d e => let ⟨v, h1, h2⟩ := r.at_ i d e; ⟨v, h1, h2.mono s⟩⟩
theorem RelE.set (r : RelE K Z env σ) {d : D} {v : V} (h : Rep K Z d v) (i : Nat) : RelE K Z (env.set i (some d)) (σ.set i (some v)) := by
  refine ⟨by rw [List.length_set, List.length_set, r.len], fun j e q => ?_⟩
  by_cases hj : i = j
  · subst hj
    have hi : i < env.length := by
      have := (List.getElem?_eq_some_iff.mp q).1
      rwa [List.length_set] at this
    rw [List.getElem?_set_self hi] at q
    cases q
    exact ⟨v, List.getElem?_set_self (by rw [← r.len]; exact hi), h⟩
  · rw [List.getElem?_set_ne hj] at q
    rw [List.getElem?_set_ne hj]
    exact r.at_ j e q
theorem RelE.setN (r : RelE K Z env σ) (i : Nat) (o : Option V) : RelE K Z (env.set i none) (σ.set i o) := by
  refine ⟨by rw [List.length_set, List.length_set, r.len], fun j e q => ?_⟩
  by_cases hj : i = j
  · subst hj
    have hi : i < env.length := by
      have := (List.getElem?_eq_some_iff.mp q).1
      rwa [List.length_set] at this
    rw [List.getElem?_set_self hi] at q
    cases q
  · rw [List.getElem?_set_ne hj] at q
    rw [List.getElem?_set_ne hj]
    exact r.at_ j e q
/-- something new is laid and frozen -/
theorem Rel.laid (r : Rel K Z S H) {o : HO} (n : H a = none) : Rel K (upd Z a o) S (upd H a o) ∧ Same Z (upd Z a o) := by
  have nz : Z a = none := r.sub.free n
  have sz : Same Z (upd Z a o) := fun b u e => by rw [upd_ne (ne_of_none e nz)]; exact e
  refine ⟨⟨fun b u e => ?_, fun b u e => ?_⟩, sz⟩
  · by_cases hb : b = a
    · subst hb; rw [upd_same] at e ⊢; exact e
    · rw [upd_ne hb] at e ⊢; exact r.sub b u e
  · obtain ⟨h1, w, h2, h3⟩ := r.own b u e
    have hb : b ≠ a := ne_of_none h2 n
    exact ⟨by rw [upd_ne hb]; exact h1, w, by rw [upd_ne hb]; exact h2, h3.mono sz⟩
/-- something new is laid, into the store -/
theorem Rel.new (r : Rel K Z S H) {o : O} {u : HO} (n : H a = none) (h : RepO K Z o u) : Rel K Z (updS S a o) (upd H a u) ∧ S a = none := by
  have nz : Z a = none := r.sub.free n
  refine ⟨⟨fun b w e => by rw [upd_ne (ne_of_none e nz)]; exact r.sub b w e, fun b w e => ?_⟩, ?_⟩
  · by_cases hb : b = a
    · subst hb; rw [updS_same] at e; cases e; exact ⟨nz, u, upd_same, h⟩
    · rw [updS_ne hb] at e
      obtain ⟨h1, w', h2, h3⟩ := r.own b w e
      exact ⟨h1, w', by rw [upd_ne hb]; exact h2, h3⟩
  · cases e : S a with
    | none => rfl
    | some o => obtain ⟨_, w, h2, _⟩ := r.own a o e; rw [n] at h2; cases h2
/-- a thing of the store is changed -/
theorem Rel.write (r : Rel K Z S H) {o o' : O} {u : HO} (e : S a = some o) (h : RepO K Z o' u) : Rel K Z (updS S a o') (upd H a u) := by
  obtain ⟨nz, _, _, _⟩ := r.own a o e
  refine ⟨fun b w e => by rw [upd_ne (ne_of_none e nz)]; exact r.sub b w e, fun b w e => ?_⟩
  by_cases hb : b = a
  · subst hb; rw [updS_same] at e; cases e; exact ⟨nz, u, upd_same, h⟩
  · rw [updS_ne hb] at e
    obtain ⟨h1, w', h2, h3⟩ := r.own b w e
    exact ⟨h1, w', by rw [upd_ne hb]; exact h2, h3⟩
/-- less is told -/
theorem Rel.weak (r : Rel K Z S H) {S' : Sto} (w : ∀ b o, S' b = some o → S b = some o) : Rel K Z S' H := ⟨r.sub, fun b o e => r.own b o (w b o e)⟩
/-- a thing of the store is frozen -/
theorem Rel.freeze (r : Rel K Z S H) {o : O} (e : S a = some o) : ∃ u, H a = some u ∧ RepO K Z o u ∧ Rel K (upd Z a u) (delS S a) H ∧ Same Z (upd Z a u) := by
  obtain ⟨nz, u, h2, h3⟩ := r.own a o e
  have sz : Same Z (upd Z a u) := fun b u' e' => by rw [upd_ne (ne_of_none e' nz)]; exact e'
  refine ⟨u, h2, h3, ⟨fun b w e => ?_, fun b w e => ?_⟩, sz⟩
  · by_cases hb : b = a
    · subst hb; rw [upd_same] at e; cases e; exact h2
    · rw [upd_ne hb] at e; exact r.sub b w e
  · by_cases hb : b = a
    · subst hb; rw [delS_same] at e; cases e
    · rw [delS_ne hb] at e
      obtain ⟨h1, w', h4, h5⟩ := r.own b w e
      exact ⟨by rw [upd_ne hb]; exact h1, w', h4, h5.mono sz⟩
end

/-! ### readings over data -/
abbrev DV := D → Sto → Prop
abbrev DE := DEnv → Sto → DV → Prop
abbrev DT := DEnv → Sto → (Bool → Sto → Prop) → Prop
abbrev DA := DEnv → Sto → (List D → Sto → Prop) → Prop
structure DEnds where
  nx : DEnv → Sto → Prop
  rt : DV
  bk : DEnv → Sto → Prop := fun _ _ => False
  ct : DEnv → Sto → Prop := fun _ _ => False
abbrev DS := DEnds → DEnv → Sto → Prop
abbrev DG := D → DEnv → Sto → (DEnv → Sto → Prop) → Prop
abbrev DGs := List D → DEnv → Sto → (DEnv → Sto → Prop) → Prop

section
variable (K : PySem.W.Frag) (Z0 : Hp)
structure LE (t : TE) (t' : DE) : Prop where
  run : ∀ (Z : Hp) (S : Sto) (H : Hp) (env : DEnv) (σ : L2.St) (Q : VK) (Q' : DV), Same Z0 Z → RelE K Z env σ → Rel K Z S H → t' env S Q' →
    (∀ (Z' : Hp) (S' : Sto) (H' : Hp) (d : D) (v : V), Same Z Z' → Rel K Z' S' H' → Rep K Z' d v → Q' d S' → Q v H') → t σ H Q
structure LT (t : TT) (t' : DT) : Prop where
  run : ∀ (Z : Hp) (S : Sto) (H : Hp) (env : DEnv) (σ : L2.St) (Q : Bool → Hp → Prop) (Q' : Bool → Sto → Prop), Same Z0 Z → RelE K Z env σ → Rel K Z S H → t' env S Q' →
    (∀ (Z' : Hp) (S' : Sto) (H' : Hp) (b : Bool), Same Z Z' → Rel K Z' S' H' → Q' b S' → Q b H') → t σ H Q
structure LA (t : TA) (t' : DA) : Prop where
  run : ∀ (Z : Hp) (S : Sto) (H : Hp) (env : DEnv) (σ : L2.St) (Q : List V → Hp → Prop) (Q' : List D → Sto → Prop), Same Z0 Z → RelE K Z env σ → Rel K Z S H → t' env S Q' →
    (∀ (Z' : Hp) (S' : Sto) (H' : Hp) (d : List D) (v : List V), Same Z Z' → Rel K Z' S' H' → Reps K Z' d v → Q' d S' → Q v H') → t σ H Q
/-- by values: two -/
structure L2R (r : R2) (r' : D → D → Sto → DV → Prop) : Prop where
  run : ∀ (Z : Hp) (S : Sto) (H : Hp) (x y : V) (d e : D) (Q : VK) (Q' : DV), Same Z0 Z → Rel K Z S H → Rep K Z d x → Rep K Z e y → r' d e S Q' →
    (∀ (Z' : Hp) (S' : Sto) (H' : Hp) (d : D) (v : V), Same Z Z' → Rel K Z' S' H' → Rep K Z' d v → Q' d S' → Q v H') → r x y H Q
/-- by values: a list of arguments -/
structure LR (r : List V → Hp → VK → Prop) (r' : List D → Sto → DV → Prop) : Prop where
  run : ∀ (Z : Hp) (S : Sto) (H : Hp) (xs : List V) (ds : List D) (Q : VK) (Q' : DV), Same Z0 Z → Rel K Z S H → Reps K Z ds xs → r' ds S Q' →
    (∀ (Z' : Hp) (S' : Sto) (H' : Hp) (d : D) (v : V), Same Z Z' → Rel K Z' S' H' → Rep K Z' d v → Q' d S' → Q v H') → r xs H Q
/-- a method of a built-in type by values -/
structure LM (r : V → List V → Hp → VK → Prop) (r' : D → List D → Sto → DV → Prop) : Prop where
  run : ∀ (Z : Hp) (S : Sto) (H : Hp) (x : V) (xs : List V) (d : D) (ds : List D) (Q : VK) (Q' : DV), Same Z0 Z → Rel K Z S H → Rep K Z d x → Reps K Z ds xs → r' d ds S Q' →
    (∀ (Z' : Hp) (S' : Sto) (H' : Hp) (d : D) (v : V), Same Z Z' → Rel K Z' S' H' → Rep K Z' d v → Q' d S' → Q v H') → r x xs H Q
structure EndsR (Z : Hp) (D' : DEnds) (D : Ends) : Prop where
  nx : ∀ (Z' : Hp) (S' : Sto) (H' : Hp) (env' : DEnv) (σ' : L2.St), Same Z Z' → RelE K Z' env' σ' → Rel K Z' S' H' → D'.nx env' S' → D.nx σ' H'
  rt : ∀ (Z' : Hp) (S' : Sto) (H' : Hp) (d : DL.D) (v : V), Same Z Z' → Rel K Z' S' H' → Rep K Z' d v → D'.rt d S' → D.rt v H'
  bk : ∀ (Z' : Hp) (S' : Sto) (H' : Hp) (env' : DEnv) (σ' : L2.St), Same Z Z' → RelE K Z' env' σ' → Rel K Z' S' H' → D'.bk env' S' → D.bk σ' H'
  ct : ∀ (Z' : Hp) (S' : Sto) (H' : Hp) (env' : DEnv) (σ' : L2.St), Same Z Z' → RelE K Z' env' σ' → Rel K Z' S' H' → D'.ct env' S' → D.ct σ' H'
structure LS (t : TS) (t' : DS) : Prop where
  run : ∀ (Z : Hp) (S : Sto) (H : Hp) (env : DEnv) (σ : L2.St) (D : Ends) (D' : DEnds), Same Z0 Z → RelE K Z env σ → Rel K Z S H → t' D' env S → EndsR K Z D' D → t D σ H
structure LG (ws : List Nat) (t : TG) (t' : DG) : Prop where
  run : ∀ (Z : Hp) (S : Sto) (H : Hp) (env : DEnv) (σ : L2.St) (d : D) (v : V) (Q : L2.St → Hp → Prop) (Q' : DEnv → Sto → Prop), Same Z0 Z → RelE K Z env σ → Rel K Z S H → Rep K Z d v → t' d env S Q' →
    (∀ (Z' : Hp) (S' : Sto) (H' : Hp) (env' : DEnv) (σ' : L2.St), Same Z Z' → RelE K Z' env' σ' → Rel K Z' S' H' → wipe σ' ws = wipe σ ws → Q' env' S' → Q σ' H') → t v σ H Q
structure LGs (ws : List Nat) (t : TGs) (t' : DGs) : Prop where
  run : ∀ (Z : Hp) (S : Sto) (H : Hp) (env : DEnv) (σ : L2.St) (d : List D) (v : List V) (Q : L2.St → Hp → Prop) (Q' : DEnv → Sto → Prop), Same Z0 Z → RelE K Z env σ → Rel K Z S H → Reps K Z d v → t' d env S Q' →
    (∀ (Z' : Hp) (S' : Sto) (H' : Hp) (env' : DEnv) (σ' : L2.St), Same Z Z' → RelE K Z' env' σ' → Rel K Z' S' H' → wipe σ' ws = wipe σ ws → Q' env' S' → Q σ' H') → t v σ H Q
end
theorem EndsR.mono {K : PySem.W.Frag} {Z Z' : Hp} {D' : DEnds} {D : Ends} (h : EndsR K Z D' D) (s : Same Z Z') : EndsR K Z' D' D :=
  ⟨fun Z2 S H e σ q => h.nx Z2 S H e σ (s.trans q), fun Z2 S H d v q => h.rt Z2 S H d v (s.trans q), fun Z2 S H e σ q => h.bk Z2 S H e σ (s.trans q), fun Z2 S H e σ q => h.ct Z2 S H e σ (s.trans q)⟩

end DL
end

section
set_option Elab.async false
set_option linter.all false
set_option autoImplicit false
set_option maxRecDepth 100000
set_option maxHeartbeats 2000000
/-! DL2: each reading of the hand layer, led by a reading over data: names, constants, operators, tests, displays, calls of built-ins. -/
namespace DL
open PySem PySem.Spec PyProof.Rows L2

/-! ### what is read as a list, as a sequence -/
/-- a list's items: frozen, or in the store -/
def asL (S : Sto) : D → Option (List D)
  | .lst ds => some ds
  | .raw a => (match S a with
    | some (.lst ds) => some ds
    | _ => none)
  | _ => none
/-- a list's or a tuple's items -/
def asQ (S : Sto) : D → Option (List D)
  | .tup ds => some ds
  | d => asL S d
section
variable {K : PySem.W.Frag} {Z Z0 : Hp} {S : Sto} {H : Hp}
theorem Rel.lst (r : Rel K Z S H) {d : D} {v : V} {ds : List D} (h : Rep K Z d v) (e : asL S d = some ds) : ∃ a xs, v = .ref a ∧ H a = some (.lst xs) ∧ Reps K Z ds xs := by
  cases h with
  | lst h q => cases e; exact ⟨_, _, rfl, r.sub _ _ h, q⟩
  | raw a =>
    have e' : (match S a with
      | some (.lst ds) => some ds
      | _ => none) = some ds := e
    cases q : S a with
    | none => rw [q] at e'; cases e'
    | some o =>
      rw [q] at e'
      cases o with
      | lst ds' =>
        cases e'
        obtain ⟨_, u, h1, xs, e2, h2⟩ := r.own a _ q
        subst e2
        exact ⟨a, xs, rfl, h1, h2⟩
      | _ => cases e'
  | _ => cases e
theorem asQ_ne {d : D} (h : ∀ ds, d ≠ .tup ds) : asQ S d = asL S d := by
  cases d <;> first | rfl | exact absurd rfl (h _)
theorem Rel.seq (r : Rel K Z S H) {d : D} {v : V} {ds : List D} (h : Rep K Z d v) (e : asQ S d = some ds) : ∃ a xs, v = .ref a ∧ (SqL K H a xs ∨ SqT K H a xs) ∧ Reps K Z ds xs := by
  by_cases q : ∃ es, d = .tup es
  · obtain ⟨es, rfl⟩ := q
    cases e
    cases h with
    | tup h q => exact ⟨_, _, rfl, .inr (Same.sqt r.sub h), q⟩
  · rw [asQ_ne fun ds z => q ⟨ds, z⟩] at e
    obtain ⟨a, xs, h1, h2, h3⟩ := r.lst h e
    exact ⟨a, xs, h1, .inl (.of h2), h3⟩
end

/-! ### names, constants -/
def dVar (i : Nat) : DE := fun env S Q => match env[i]? with
  | some (some d) => Q d S
  | _ => False
def dC (d : D) : DE := fun _ S Q => Q d S
section
variable {K : PySem.W.Frag} {Z0 : Hp}
theorem le_var (i : Nat) : LE K Z0 (tVar i) (dVar i) := ⟨fun Z S H env σ Q Q' s0 re r h q => by
  have h' : (match env[i]? with
    | some (some d) => Q' d S
    | _ => False) := h
  cases e : env[i]? with
  | none => rw [e] at h'; exact h'.elim
  | some o =>
    rw [e] at h'
    cases o with
    | none => exact h'.elim
    | some d =>
      obtain ⟨v, h1, h2⟩ := re.at_ i d e
      exact ⟨v, h1, q Z S H d v (Same.refl Z) r h2 h'⟩⟩
theorem le_c {d : D} {v : V} (h : ∀ Z, Rep K Z d v) : LE K Z0 (tC v) (dC d) := ⟨fun Z S H env σ Q Q' s0 re r hh q => q Z S H d v (Same.refl Z) r (h Z) hh⟩
theorem le_int (i : Int) : LE K Z0 (tC (.int i)) (dC (.int i)) := le_c fun _ => .int i
theorem le_bl (i : Bool) : LE K Z0 (tC (.bl i)) (dC (.bl i)) := le_c fun _ => .bl i
theorem le_str (i : Str) : LE K Z0 (tC (.str i)) (dC (.str i)) := le_c fun _ => .str i
theorem le_non : LE K Z0 (tC .non) (dC .non) := le_c fun _ => .non
theorem le_ty (n : Ty) : LE K Z0 (tC (.ty n.name)) (dC (.ty n)) := le_c fun _ => .ty n
theorem le_raw (a : Addr) : LE K Z0 (tC (.ref a)) (dC (.raw a)) := le_c fun _ => .raw a
end

/-! ### two operands -/
abbrev R2' := D → D → Sto → DV → Prop
def dOp (r : R2') (ta tb : DE) : DE := fun env S Q => ta env S fun x S1 => tb env S1 fun y S2 => r x y S2 Q
section
variable {K : PySem.W.Frag} {Z0 : Hp} {ta tb tc : TE} {ta' tb' tc' : DE} {r r2 : R2} {r' r2' : R2'}
theorem le_op (hr : L2R K Z0 r r') (ha : LE K Z0 ta ta') (hb : LE K Z0 tb tb') : LE K Z0 (tOp r ta tb) (dOp r' ta' tb') := ⟨fun Z S H env σ Q Q' s0 re rl h q =>
  ha.run Z S H env σ _ _ s0 re rl h fun Z1 S1 H1 d v s1 r1 p1 h1 =>
    hb.run Z1 S1 H1 env σ _ _ (s0.trans s1) (re.mono s1) r1 h1 fun Z2 S2 H2 e w s2 r2 p2 h2 =>
      hr.run Z2 S2 H2 v w d e _ _ ((s0.trans s1).trans s2) r2 (p1.mono s2) p2 h2 fun Z3 S3 H3 d v s3 => q Z3 S3 H3 d v ((s1.trans s2).trans s3)⟩
theorem L2R.inl (h : L2R K Z0 r r') : L2R K Z0 (fun x y H Q => r x y H Q ∨ r2 x y H Q) r' := ⟨fun Z S H x y d e Q Q' s0 rl px py h' q => .inl (h.run Z S H x y d e Q Q' s0 rl px py h' q)⟩
theorem L2R.inr (h : L2R K Z0 r2 r') : L2R K Z0 (fun x y H Q => r x y H Q ∨ r2 x y H Q) r' := ⟨fun Z S H x y d e Q Q' s0 rl px py h' q => .inr (h.run Z S H x y d e Q Q' s0 rl px py h' q)⟩
/-- both readings: by the data -/
theorem L2R.or (h1 : L2R K Z0 r r') (h2 : L2R K Z0 r2 r2') : L2R K Z0 (fun x y H Q => r x y H Q ∨ r2 x y H Q) (fun x y S Q => r' x y S Q ∨ r2' x y S Q) := ⟨fun Z S H x y d e Q Q' s0 rl px py h q =>
  h.elim (fun h => .inl (h1.run Z S H x y d e Q Q' s0 rl px py h q)) fun h => .inr (h2.run Z S H x y d e Q Q' s0 rl px py h q)⟩
theorem L2R.imp {r3 : R2'} (h : L2R K Z0 r r') (f : ∀ x y S Q, r3 x y S Q → r' x y S Q) : L2R K Z0 r r3 := ⟨fun Z S H x y d e Q Q' s0 rl px py h' q => h.run Z S H x y d e Q Q' s0 rl px py (f _ _ _ _ h') q⟩
/-- ints -/
def rI' (C : Int → Int → Prop) (g : Int → Int → D) : R2' := fun x y S Q => match x, y with
  | .int i, .int j => C i j ∧ Q (g i j) S
  | _, _ => False
def rI0' (g : Int → Int → D) : R2' := fun x y S Q => match x, y with
  | .int i, .int j => Q (g i j) S
  | _, _ => False
theorem lr_I {C : Int → Int → Prop} {g : Int → Int → V} {g' : Int → Int → D} (hg : ∀ i j Z, Rep K Z (g' i j) (g i j)) : L2R K Z0 (rI C g) (rI' C g') := ⟨fun Z S H x y d e Q Q' s0 rl px py h q => by
  cases px with
  | int i => cases py with
    | int j => exact ⟨i, j, rfl, rfl, h.1, q Z S H _ _ (Same.refl Z) rl (hg i j Z) h.2⟩
    | _ => exact h.elim
  | _ => exact h.elim⟩
theorem lr_I0 {g : Int → Int → V} {g' : Int → Int → D} (hg : ∀ i j Z, Rep K Z (g' i j) (g i j)) : L2R K Z0 (rI0 g) (rI0' g') := ⟨fun Z S H x y d e Q Q' s0 rl px py h q => by
  cases px with
  | int i => cases py with
    | int j => exact ⟨i, j, rfl, rfl, q Z S H _ _ (Same.refl Z) rl (hg i j Z) h⟩
    | _ => exact h.elim
  | _ => exact h.elim⟩

/-- + : ints, texts, tuples, frozen lists (what comes is frozen) -/
def rAdd' : R2' := fun x y S Q => match x, y with
  | .int i, .int j => Q (.int (i + j)) S
  | .str i, .str j => i.length + j.length ≤ sizeLine ∧ Q (.str (i ++ j)) S
  | .tup xs, .tup ys => xs.length + ys.length ≤ sizeLine ∧ Q (.tup (xs ++ ys)) S
  | x, y => match asL S x, asL S y with
    | some xs, some ys => xs.length + ys.length ≤ sizeLine ∧ Q (.lst (xs ++ ys)) S
    | _, _ => False
abbrev rAddAll (K : PySem.W.Frag) : R2 := fun x y H Q => (fun x y H Q => (fun x y H Q => (rI0 fun i j => .int (i + j)) x y H Q ∨ (∃ i j, x = V.str i ∧ y = V.str j ∧ i.length + j.length ≤ sizeLine ∧ Q (V.str (i ++ j)) H)) x y H Q ∨ rCatA K x y H Q) x y H Q ∨ rCat x y H Q
theorem op_addAll {X : Cx} : OpR X (binaryOp .Add) (rAddAll X.K) := ((op_add.or op_add_str).or op_catA).or op_cat
theorem catL {Z : Hp} {S : Sto} {H : Hp} {x y : V} {d e : D} {Q : VK} {Q' : DV} {xs ys : List D} (rl : Rel K Z S H) (px : Rep K Z d x) (py : Rep K Z e y) (ex : asL S d = some xs) (ey : asL S e = some ys)
    (hl : xs.length + ys.length ≤ sizeLine) (h : Q' (.lst (xs ++ ys)) S) (q : ∀ (Z' : Hp) (S' : Sto) (H' : Hp) (d : D) (v : V), Same Z Z' → Rel K Z' S' H' → Rep K Z' d v → Q' d S' → Q v H') : rCat x y H Q := by
  obtain ⟨a, us, e1, h1, p1⟩ := rl.lst px ex
  obtain ⟨b, vs, e2, h2, p2⟩ := rl.lst py ey
  refine ⟨a, b, us, vs, e1, e2, h1, h2, by rw [← p1.length, ← p2.length]; exact hl, fun p hp => ?_⟩
  obtain ⟨r2, s2⟩ := rl.laid (o := .lst (us ++ vs)) hp
  exact q _ _ _ _ _ s2 r2 (.lst upd_same ((p1.append p2).mono s2)) h
theorem catT {Z : Hp} {S : Sto} {H : Hp} {a b : Addr} {Q : VK} {Q' : DV} {us vs : List V} {xs ys : List D} (rl : Rel K Z S H) (h1 : SqT K Z a us) (p1 : Reps K Z xs us) (h2 : SqT K Z b vs) (p2 : Reps K Z ys vs)
    (hl : xs.length + ys.length ≤ sizeLine) (h : Q' (.tup (xs ++ ys)) S) (q : ∀ (Z' : Hp) (S' : Sto) (H' : Hp) (d : D) (v : V), Same Z Z' → Rel K Z' S' H' → Rep K Z' d v → Q' d S' → Q v H') : rCatA K (.ref a) (.ref b) H Q := by
  refine ⟨a, b, us, vs, rfl, rfl, Same.sqt rl.sub h1, Same.sqt rl.sub h2, by rw [← p1.length, ← p2.length]; exact hl, fun e => ?_, fun _ e => ?_, fun _ _ p hp => ?_⟩
  · subst e; cases p1
    exact q Z S H _ _ (Same.refl Z) rl (.tup h2 p2) h
  · subst e; cases p2
    rw [List.append_nil] at h
    exact q Z S H _ _ (Same.refl Z) rl (.tup h1 p1) h
  · obtain ⟨r2, s2⟩ := rl.laid (o := .tup (us ++ vs)) hp
    exact q _ _ _ _ _ s2 r2 (.tup (.of upd_same) ((p1.append p2).mono s2)) h
theorem lr_add : L2R K Z0 (rAddAll K) rAdd' := ⟨fun Z S H x y d e Q Q' s0 rl px py h q => by
  have lists : (match asL S d, asL S e with
      | some xs, some ys => xs.length + ys.length ≤ sizeLine ∧ Q' (.lst (xs ++ ys)) S
      | _, _ => False) → rAddAll K x y H Q := fun h => by
    cases ex : asL S d with
    | none => rw [ex] at h; exact h.elim
    | some xs => cases ey : asL S e with
      | none => rw [ex, ey] at h; exact h.elim
      | some ys => rw [ex, ey] at h; exact .inr (catL rl px py ex ey h.1 h.2 q)
  cases px with
  | int i => cases py with
    | int j => exact .inl (.inl (.inl ⟨i, j, rfl, rfl, q Z S H _ _ (Same.refl Z) rl (.int _) h⟩))
    | _ => exact lists h
  | str i => cases py with
    | str j => exact .inl (.inl (.inr ⟨i, j, rfl, rfl, h.1, q Z S H _ _ (Same.refl Z) rl (.str _) h.2⟩))
    | _ => exact lists h
  | tup h1 p1 => cases py with
    | tup h2 p2 =>
      exact .inl (.inr (catT rl h1 p1 h2 p2 h.1 h.2 q))
    | _ => exact lists h
  | _ => exact lists h⟩
end
end DL
end

section
set_option Elab.async false
set_option linter.all false
set_option autoImplicit false
set_option maxRecDepth 100000
set_option maxHeartbeats 2000000
/-! DL3: comparisons, equality, in, subscripts, tests, displays. -/
namespace DL
open PySem PySem.Spec PyProof.Rows L2

/-! ### equality of data -/
mutual
def py : D → PyData
  | .non => .none
  | .bl b => .bool b
  | .int i => .int i
  | .str x => .str x
  | .tup ds => .tuple (pys ds)
  | .lst ds => .list (pys ds)
  | .ty _ => .dict []
  | .raw _ => .dict []
  | .ins _ _ => .dict []
  | .dk _ => .dict []
def pys : List D → List PyData
  | [] => []
  | d :: ds => py d :: pys ds
end
mutual
def eqD : D → D → Bool
  | .non, .non => true
  | .bl a, .bl b => a == b
  | .bl a, .int j => (if a then 1 else 0) == j
  | .int i, .bl b => i == (if b then 1 else 0)
  | .int i, .int j => i == j
  | .str x, .str y => x == y
  | .lst xs, .lst ys => eqDs xs ys
  | .tup xs, .tup ys => eqDs xs ys
  | _, _ => false
def eqDs : List D → List D → Bool
  | [], [] => true
  | x :: xs, y :: ys => eqD x y && eqDs xs ys
  | _, _ => false
end
mutual
/-- n deep at most, of what can be compared -/
def shp : Nat → D → Bool
  | _, .non => true
  | _, .bl _ => true
  | _, .int _ => true
  | _, .str x => PyData.strOk x
  | n + 1, .tup ds => shps n ds
  | n + 1, .lst ds => shps n ds
  | _, _ => false
def shps : Nat → List D → Bool
  | _, [] => true
  | n, d :: ds => shp n d && shps n ds
end
mutual
theorem shp_lay : ∀ (n : Nat) (d : D), shp n d = true → (py d).canLay0 = true ∧ (py d).depth ≤ n
  | _, .non, _ => ⟨rfl, Nat.zero_le _⟩
  | _, .bl _, _ => ⟨rfl, Nat.zero_le _⟩
  | _, .int _, _ => ⟨rfl, Nat.zero_le _⟩
  | n, .str x, h => ⟨by unfold py PyData.canLay0; cases n <;> exact h, by unfold py PyData.depth; exact Nat.zero_le _⟩
  | 0, .tup _, h => by cases h
  | 0, .lst _, h => by cases h
  | n + 1, .tup ds, h => by
    obtain ⟨a, b⟩ := shps_lay n ds (by unfold shp at h; exact h)
    exact ⟨by unfold py PyData.canLay0; exact a, by unfold py PyData.depth; exact Nat.succ_le_succ b⟩
  | n + 1, .lst ds, h => by
    obtain ⟨a, b⟩ := shps_lay n ds (by unfold shp at h; exact h)
    exact ⟨by unfold py PyData.canLay0; exact a, by unfold py PyData.depth; exact Nat.succ_le_succ b⟩
  | n, .ty _, h => by cases n <;> cases h
  | n, .raw _, h => by cases n <;> cases h
  | n, .ins _ _, h => by cases n <;> cases h
  | n, .dk _, h => by cases n <;> cases h
theorem shps_lay : ∀ (n : Nat) (ds : List D), shps n ds = true → PyData.canLayAll0 (pys ds) = true ∧ PyData.depthAll (pys ds) ≤ n
  | _, [], _ => ⟨rfl, Nat.zero_le _⟩
  | n, d :: ds, h => by
    unfold shps at h
    obtain ⟨h1, h2⟩ := Bool.and_eq_true_iff.mp h
    obtain ⟨a, b⟩ := shp_lay n d h1
    obtain ⟨a2, b2⟩ := shps_lay n ds h2
    refine ⟨?_, ?_⟩
    · unfold pys PyData.canLayAll0; rw [a, a2]; rfl
    · unfold pys PyData.depthAll; exact Nat.max_le.mpr ⟨b, b2⟩
end
theorem shp_shaped {n : Nat} {d : D} (h : shp n d = true) (hn : n ≤ 64) : SeqAt.shaped (py d) = true := by
  obtain ⟨a, b⟩ := shp_lay n d h
  unfold SeqAt.shaped
  rw [a, decide_eq_true (Nat.le_trans b hn)]
  rfl
theorem shps_all {n : Nat} : ∀ {ds : List D}, shps n ds = true ↔ ∀ d ∈ ds, shp n d = true
  | [] => ⟨fun _ _ h => absurd h (by simp), fun _ => by unfold shps; rfl⟩
  | d :: ds => by
    unfold shps
    rw [Bool.and_eq_true_iff, shps_all, List.forall_mem_cons]
mutual
theorem eqv_py : ∀ (x y : D) (n m : Nat), shp n x = true → shp m y = true → PyData.eqv (py x) (py y) = eqD x y
  | .tup xs, .tup ys, n, m, hx, hy => by
    cases n with
    | zero => cases hx
    | succ n => cases m with
      | zero => cases hy
      | succ m =>
        unfold py PyData.eqv eqD
        exact eqv_pys xs ys n m (by unfold shp at hx; exact hx) (by unfold shp at hy; exact hy)
  | .lst xs, .lst ys, n, m, hx, hy => by
    cases n with
    | zero => cases hx
    | succ n => cases m with
      | zero => cases hy
      | succ m =>
        unfold py PyData.eqv eqD
        exact eqv_pys xs ys n m (by unfold shp at hx; exact hx) (by unfold shp at hy; exact hy)
  | .ty _, _, n, _, hx, _ => by cases n <;> cases hx
  | .raw _, _, n, _, hx, _ => by cases n <;> cases hx
  | .ins _ _, _, n, _, hx, _ => by cases n <;> cases hx
  | .dk _, _, n, _, hx, _ => by cases n <;> cases hx
  | _, .ty _, _, m, _, hy => by cases m <;> cases hy
  | _, .raw _, _, m, _, hy => by cases m <;> cases hy
  | _, .ins _ _, _, m, _, hy => by cases m <;> cases hy
  | _, .dk _, _, m, _, hy => by cases m <;> cases hy
  | .non, .non, _, _, _, _ => by unfold py PyData.eqv eqD; rfl
  | .non, .bl _, _, _, _, _ => by unfold py PyData.eqv eqD; rfl
  | .non, .int _, _, _, _, _ => by unfold py PyData.eqv eqD; rfl
  | .non, .str _, _, _, _, _ => by unfold py PyData.eqv eqD; rfl
  | .non, .tup _, _, _, _, _ => by unfold py PyData.eqv eqD; rfl
  | .non, .lst _, _, _, _, _ => by unfold py PyData.eqv eqD; rfl
  | .bl _, .non, _, _, _, _ => by unfold py PyData.eqv eqD; rfl
  | .bl _, .bl _, _, _, _, _ => by unfold py PyData.eqv eqD; rfl
  | .bl _, .int _, _, _, _, _ => by unfold py PyData.eqv eqD; rfl
  | .bl _, .str _, _, _, _, _ => by unfold py PyData.eqv eqD; rfl
  | .bl _, .tup _, _, _, _, _ => by unfold py PyData.eqv eqD; rfl
  | .bl _, .lst _, _, _, _, _ => by unfold py PyData.eqv eqD; rfl
  | .int _, .non, _, _, _, _ => by unfold py PyData.eqv eqD; rfl
  | .int _, .bl _, _, _, _, _ => by unfold py PyData.eqv eqD; rfl
  | .int _, .int _, _, _, _, _ => by unfold py PyData.eqv eqD; rfl
  | .int _, .str _, _, _, _, _ => by unfold py PyData.eqv eqD; rfl
  | .int _, .tup _, _, _, _, _ => by unfold py PyData.eqv eqD; rfl
  | .int _, .lst _, _, _, _, _ => by unfold py PyData.eqv eqD; rfl
  | .str _, .non, _, _, _, _ => by unfold py PyData.eqv eqD; rfl
  | .str _, .bl _, _, _, _, _ => by unfold py PyData.eqv eqD; rfl
  | .str _, .int _, _, _, _, _ => by unfold py PyData.eqv eqD; rfl
  | .str _, .str _, _, _, _, _ => by unfold py PyData.eqv eqD; rfl
  | .str _, .tup _, _, _, _, _ => by unfold py PyData.eqv eqD; rfl
  | .str _, .lst _, _, _, _, _ => by unfold py PyData.eqv eqD; rfl
  | .tup _, .non, _, _, _, _ => by unfold py PyData.eqv eqD; rfl
  | .tup _, .bl _, _, _, _, _ => by unfold py PyData.eqv eqD; rfl
  | .tup _, .int _, _, _, _, _ => by unfold py PyData.eqv eqD; rfl
  | .tup _, .str _, _, _, _, _ => by unfold py PyData.eqv eqD; rfl
  | .tup _, .lst _, _, _, _, _ => by unfold py PyData.eqv eqD; rfl
  | .lst _, .non, _, _, _, _ => by unfold py PyData.eqv eqD; rfl
  | .lst _, .bl _, _, _, _, _ => by unfold py PyData.eqv eqD; rfl
  | .lst _, .int _, _, _, _, _ => by unfold py PyData.eqv eqD; rfl
  | .lst _, .str _, _, _, _, _ => by unfold py PyData.eqv eqD; rfl
  | .lst _, .tup _, _, _, _, _ => by unfold py PyData.eqv eqD; rfl
theorem eqv_pys : ∀ (xs ys : List D) (n m : Nat), shps n xs = true → shps m ys = true → PyData.eqvAll (pys xs) (pys ys) = eqDs xs ys
  | [], [], _, _, _, _ => by unfold pys PyData.eqvAll eqDs; rfl
  | [], _ :: _, _, _, _, _ => by unfold pys PyData.eqvAll eqDs; rfl
  | _ :: _, [], _, _, _, _ => by unfold pys PyData.eqvAll eqDs; rfl
  | x :: xs, y :: ys, n, m, hx, hy => by
    unfold shps at hx hy
    obtain ⟨h1, h2⟩ := Bool.and_eq_true_iff.mp hx
    obtain ⟨h3, h4⟩ := Bool.and_eq_true_iff.mp hy
    unfold pys PyData.eqvAll eqDs
    rw [eqv_py x y n m h1 h3, eqv_pys xs ys n m h2 h4]
end
section
variable {K : PySem.W.Frag} {Z : Hp}
mutual
theorem Rep.dp {H : Hp} (s : Same Z H) : ∀ {d : D} {v : V} (n : Nat), Rep K Z d v → shp n d = true → Dp K H v (py d)
  | _, _, _, .non, _ => by unfold py; exact .non
  | _, _, _, .bl b, _ => by unfold py; exact .bl b
  | _, _, _, .int i, _ => by unfold py; exact .int i
  | _, _, _, .str x, _ => by unfold py; exact .str x
  | _, _, n, .ty _, h => by cases n <;> cases h
  | _, _, n, .raw _, h => by cases n <;> cases h
  | _, _, n, .ins _ _, h => by cases n <;> cases h
  | _, _, n, .dk _ _, h => by cases n <;> cases h
  | _, _, 0, .tup _ _, h => by cases h
  | _, _, 0, .lst _ _, h => by cases h
  | _, _, n + 1, .tup h r, e => by unfold py; unfold shp at e; exact .tup (Same.sqt s h) (Reps.dp s n r e)
  | _, _, n + 1, .lst h r, e => by unfold py; unfold shp at e; exact .lst (.of (s _ _ h)) (Reps.dp s n r e)
theorem Reps.dp {H : Hp} (s : Same Z H) : ∀ {ds : List D} {vs : List V} (n : Nat), Reps K Z ds vs → shps n ds = true → DpAll K H vs (pys ds)
  | _, _, _, .nil, _ => by unfold pys; exact .nil
  | _, _, n, .cons a r, h => by
    unfold shps at h
    obtain ⟨h1, h2⟩ := Bool.and_eq_true_iff.mp h
    unfold pys
    exact .cons (Rep.dp s n a h1) (Reps.dp s n r h2)
end
end
/-- a list of the store as data -/
def frz (S : Sto) (d : D) : D := match asL S d with
  | some ds => .lst ds
  | none => d
theorem Rel.dp {K : PySem.W.Frag} {Z : Hp} {S : Sto} {H : Hp} (r : Rel K Z S H) {d : D} {v : V} (h : Rep K Z d v) (n : Nat) (e : shp n (frz S d) = true) : Dp K H v (py (frz S d)) := by
  unfold frz at e ⊢
  cases q : asL S d with
  | none =>
    rw [q] at e
    exact h.dp r.sub n e
  | some ds =>
    rw [q] at e
    obtain ⟨a, xs, rfl, h1, h2⟩ := r.lst h q
    cases n with
    | zero => cases e
    | succ n =>
      unfold shp at e
      show Dp K H _ (py (.lst ds))
      unfold py
      exact .lst (.of h1) (h2.dp r.sub n e)
/-- == and != of data -/
def rEq' : R2' := fun x y S Q => shp 60 (frz S x) = true ∧ shp 60 (frz S y) = true ∧ Q (.bl (eqD (frz S x) (frz S y))) S
def rNe' : R2' := fun x y S Q => shp 60 (frz S x) = true ∧ shp 60 (frz S y) = true ∧ Q (.bl (!eqD (frz S x) (frz S y))) S
section
variable {K : PySem.W.Frag} {Z0 : Hp}
theorem lr_eq : L2R K Z0 (rEqD K) rEq' := ⟨fun Z S H x y d e Q Q' s0 rl px py h q =>
  ⟨_, _, rl.dp px 60 h.1, rl.dp py 60 h.2.1, shp_shaped h.1 (by decide), shp_shaped h.2.1 (by decide), by rw [eqv_py _ _ 60 60 h.1 h.2.1]; exact q Z S H _ _ (Same.refl Z) rl (.bl _) h.2.2⟩⟩
theorem lr_ne : L2R K Z0 (rNeD K) rNe' := ⟨fun Z S H x y d e Q Q' s0 rl px py h q =>
  ⟨_, _, rl.dp px 60 h.1, rl.dp py 60 h.2.1, shp_shaped h.1 (by decide), shp_shaped h.2.1 (by decide), by rw [eqv_py _ _ 60 60 h.1 h.2.1]; exact q Z S H _ _ (Same.refl Z) rl (.bl _) h.2.2⟩⟩
/-! ### is None -/
def isNon : D → Bool
  | .non => true
  | _ => false
theorem Rep.isNon {Z : Hp} {d : D} {v : V} (h : Rep K Z d v) : decide (v = .non) = DL.isNon d := by
  cases h <;> simp [DL.isNon]
def rIsN' : R2' := fun x y S Q => match y with
  | .non => Q (.bl (isNon x)) S
  | _ => False
def rNotN' : R2' := fun x y S Q => match y with
  | .non => Q (.bl (!isNon x)) S
  | _ => False
theorem lr_isN : L2R K Z0 (fun x y H Q => y = .non ∧ Q (.bl (decide (x = .non))) H) rIsN' := ⟨fun Z S H x y d e Q Q' s0 rl px py h q => by
  cases py with
  | non => exact ⟨rfl, by rw [px.isNon]; exact q Z S H _ _ (Same.refl Z) rl (.bl _) h⟩
  | _ => exact h.elim⟩
theorem lr_notN : L2R K Z0 (fun x y H Q => y = .non ∧ Q (.bl (!decide (x = .non))) H) rNotN' := ⟨fun Z S H x y d e Q Q' s0 rl px py h q => by
  cases py with
  | non => exact ⟨rfl, by rw [px.isNon]; exact q Z S H _ _ (Same.refl Z) rl (.bl _) h⟩
  | _ => exact h.elim⟩
/-! ### x in xs -/
def flatD : D → Bool
  | .non => true
  | .bl _ => true
  | .int _ => true
  | .str _ => true
  | _ => false
theorem Rep.flat {Z : Hp} {d : D} {v : V} (h : Rep K Z d v) : flatV v = flatD d := by
  cases h <;> rfl
theorem Reps.flat {Z : Hp} : ∀ {d : List D} {v : List V}, Reps K Z d v → v.all flatV = d.all flatD
  | _, _, .nil => rfl
  | _, _, .cons a r => by rw [List.all_cons, List.all_cons, a.flat, Reps.flat r]
theorem Rep.eqV {Z : Hp} {d e : D} {v u : V} (h : Rep K Z d v) (h2 : Rep K Z e u) (f : flatD d = true) (g : flatD e = true) : eqV v u = eqD d e := by
  cases h <;> cases h2 <;> first | (unfold eqD; with_reducible rfl) | (unfold eqD L2.eqV; with_reducible rfl) | (exfalso; revert f g; simp [flatD])
theorem Reps.anyEq {Z : Hp} {e : D} {u : V} (h2 : Rep K Z e u) (g : flatD e = true) : ∀ {d : List D} {v : List V}, Reps K Z d v → d.all flatD = true → (v.any fun y => L2.eqV y u) = d.any fun y => eqD y e
  | _, _, .nil, _ => rfl
  | _, _, .cons a r, f => by
    rw [List.all_cons] at f
    obtain ⟨f1, f2⟩ := Bool.and_eq_true_iff.mp f
    rw [List.any_cons, List.any_cons, a.eqV h2 f1 g, Reps.anyEq h2 g r f2]
def inD (x : D) (ds : List D) : Bool := ds.any fun y => eqD y x
def rIn' (neg : Bool) : R2' := fun x y S Q => match asQ S y with
  | some ds => flatD x = true ∧ ds.all flatD = true ∧ Q (.bl (if neg then !inD x ds else inD x ds)) S
  | none => False
theorem lr_in {neg : Bool} : L2R K Z0 (rIn K neg) (rIn' neg) := ⟨fun Z S H x y d e Q Q' s0 rl px py h q => by
  have h' : (match asQ S e with
  | some ds => flatD d = true ∧ ds.all flatD = true ∧ Q' (.bl (if neg then !inD d ds else inD d ds)) S
  | none => False) := h
  cases ee : asQ S e with
  | none => rw [ee] at h'; exact h'.elim
  | some ds =>
    rw [ee] at h'
    obtain ⟨f1, f2, h'⟩ := h'
    obtain ⟨a, xs, rfl, h1, h2⟩ := rl.seq py ee
    refine ⟨a, xs, rfl, h1, by rw [px.flat]; exact f1, by rw [h2.flat]; exact f2, ?_⟩
    have e2 : inV x xs = inD d ds := h2.anyEq px f1 f2
    rw [e2]
    exact q Z S H _ _ (Same.refl Z) rl (.bl _) h'⟩
/-! ### subscripts -/
theorem Reps.atI {Z : Hp} {ds : List D} {vs : List V} (h : Reps K Z ds vs) {i : Int} {d : D} (e : L2.atI ds i = some d) : ∃ v, L2.atI vs i = some v ∧ Rep K Z d v := by
  unfold L2.atI at e ⊢
  rw [← h.length]
  cases q : ixN ds.length i with
  | none => rw [q] at e; cases e
  | some j =>
    rw [q] at e
    exact h.getD e
def rIx' : R2' := fun x y S Q => match x, y with
  | .str z, .int i => z.length ≤ sizeLine ∧ (match atI z.cps.toList i with
    | some c => Q (.str ⟨#[c]⟩) S
    | none => False)
  | x, .int i => (match asQ S x with
    | some ds => (match atI ds i with
      | some d => Q d S
      | none => False)
    | none => False)
  | _, _ => False
theorem lr_ix : L2R K Z0 (rIx K) rIx' := ⟨fun Z S H x y d e Q Q' s0 rl px py h q => by
  cases py with
  | int i =>
    by_cases hs : ∃ z, d = .str z
    · obtain ⟨z, rfl⟩ := hs
      cases px
      obtain ⟨h1, h2⟩ := (show z.length ≤ sizeLine ∧ (match atI z.cps.toList i with
        | some c => Q' (.str ⟨#[c]⟩) S
        | none => False) from h)
      cases ec : atI z.cps.toList i with
      | none => rw [ec] at h2; exact h2.elim
      | some c =>
        rw [ec] at h2
        exact .inr (.inr ⟨z, i, c, rfl, rfl, h1, ec, q Z S H _ _ (Same.refl Z) rl (.str _) h2⟩)
    · have h' : (match asQ S d with
        | some ds => (match atI ds i with
          | some d => Q' d S
          | none => False)
        | none => False) := by
        cases d with
        | str z => exact absurd ⟨z, rfl⟩ hs
        | _ => exact h
      cases ee : asQ S d with
      | none => rw [ee] at h'; exact h'.elim
      | some ds =>
        rw [ee] at h'
        obtain ⟨a, xs, rfl, h1, h2⟩ := rl.seq px ee
        have h'' : (match atI ds i with
          | some d => Q' d S
          | none => False) := h'
        cases ei : atI ds i with
        | none => rw [ei] at h''; exact h''.elim
        | some f =>
          rw [ei] at h''
          obtain ⟨v, h3, h4⟩ := h2.atI ei
          have fin := q Z S H _ _ (Same.refl Z) rl h4 h''
          rcases h1 with h1 | h1
          · exact .inl ⟨a, xs, i, v, rfl, rfl, h1, h3, fin⟩
          · exact .inr (.inl ⟨a, xs, i, v, rfl, rfl, h1, h3, fin⟩)
  | _ => cases d <;> exact h.elim⟩
end
end DL
end

section
set_option Elab.async false
set_option linter.all false
set_option autoImplicit false
set_option maxRecDepth 100000
set_option maxHeartbeats 2000000
/-! DL4: tests, chains, displays, arguments, calls of built-ins, methods of lists, slices, fields. -/
namespace DL
open PySem PySem.Spec PyProof.Rows L2

section
variable {K : PySem.W.Frag} {Z0 : Hp} {ta tb tc : TE} {ta' tb' tc' : DE} {r r2 : R2} {r' r2' : R2'} {tt uu : TT} {tt' uu' : DT}
/-! ### chains, unary -/
def dChain (r r' : R2') (ta tb tc : DE) : DE := fun env S Q => ta env S fun x S1 => tb env S1 fun y S2 => r x y S2 fun z S3 => match z with
  | .bl k => if k = true then tc env S3 fun w S4 => r' y w S4 Q else Q (.bl false) S3
  | _ => False
theorem le_chain (hr : L2R K Z0 r r') (hr2 : L2R K Z0 r2 r2') (ha : LE K Z0 ta ta') (hb : LE K Z0 tb tb') (hc : LE K Z0 tc tc') : LE K Z0 (tChain r r2 ta tb tc) (dChain r' r2' ta' tb' tc') := ⟨fun Z S H env σ Q Q' s0 re rl h q =>
  ha.run Z S H env σ _ _ s0 re rl h fun Z1 S1 H1 d v s1 r1 p1 h1 =>
    hb.run Z1 S1 H1 env σ _ _ (s0.trans s1) (re.mono s1) r1 h1 fun Z2 S2 H2 e w s2 r2 p2 h2 =>
      hr.run Z2 S2 H2 v w d e _ _ ((s0.trans s1).trans s2) r2 (p1.mono s2) p2 h2 fun Z3 S3 H3 b z s3 r3 p3 h3 => by
        cases p3 with
        | bl k =>
          refine ⟨k, rfl, ?_⟩
          have h3' : if k = true then tc' env S3 (fun w S4 => r2' e w S4 Q') else Q' (.bl false) S3 := h3
          by_cases hk : k = true
          · rw [if_pos hk] at h3' ⊢
            exact hc.run Z3 S3 H3 env σ _ _ (((s0.trans s1).trans s2).trans s3) (re.mono ((s1.trans s2).trans s3)) r3 h3' fun Z4 S4 H4 f u s4 r4 p4 h4 =>
              hr2.run Z4 S4 H4 w u e f _ _ ((((s0.trans s1).trans s2).trans s3).trans s4) r4 ((p2.mono s3).mono s4) p4 h4 fun Z5 S5 H5 d v s5 => q Z5 S5 H5 d v ((((s1.trans s2).trans s3).trans s4).trans s5)
          · rw [if_neg hk] at h3' ⊢
            exact q Z3 S3 H3 _ _ ((s1.trans s2).trans s3) r3 (.bl _) h3'
        | _ => exact h3.elim⟩
def dUnI (g : Int → Int) (ta : DE) : DE := fun env S Q => ta env S fun x S1 => match x with
  | .int i => Q (.int (g i)) S1
  | _ => False
theorem le_unI {g : Int → Int} (ha : LE K Z0 ta ta') : LE K Z0 (tUn (rU fun i => .int (g i)) ta) (dUnI g ta') := ⟨fun Z S H env σ Q Q' s0 re rl h q =>
  ha.run Z S H env σ _ _ s0 re rl h fun Z1 S1 H1 d v s1 r1 p1 h1 => by
    cases p1 with
    | int i => exact ⟨i, rfl, q _ _ _ _ _ s1 r1 (.int _) h1⟩
    | _ => exact h1.elim⟩

/-! ### tests -/
def dB (t : DE) : DT := fun env S Q => t env S fun x S1 => match x with
  | .bl b => Q b S1
  | _ => False
theorem lt_B (h : LE K Z0 ta ta') : LT K Z0 (tB ta) (dB ta') := ⟨fun Z S H env σ Q Q' s0 re rl hh q =>
  h.run Z S H env σ _ _ s0 re rl hh fun Z1 S1 H1 d v s1 r1 p1 h1 => by
    cases p1 with
    | bl b => exact ⟨b, rfl, q Z1 S1 H1 b s1 r1 h1⟩
    | _ => exact h1.elim⟩
theorem lt_Test (h : LE K Z0 ta ta') : LT K Z0 (tTest ta) (dB ta') := ⟨fun Z S H env σ Q Q' s0 re rl hh q => (lt_B h).run Z S H env σ Q Q' s0 re rl hh q⟩
def dAnd (t u : DT) : DT := fun env S Q => t env S fun c S1 => if c = true then u env S1 Q else Q false S1
def dOr (t u : DT) : DT := fun env S Q => t env S fun c S1 => if c = true then Q true S1 else u env S1 Q
def dNot (t : DT) : DT := fun env S Q => t env S fun c S1 => Q (!c) S1
theorem lt_And (h : LT K Z0 tt tt') (h2 : LT K Z0 uu uu') : LT K Z0 (tAnd tt uu) (dAnd tt' uu') := ⟨fun Z S H env σ Q Q' s0 re rl hh q =>
  h.run Z S H env σ _ _ s0 re rl hh fun Z1 S1 H1 c s1 r1 h1 => by
    by_cases hc : c = true
    · rw [if_pos hc] at h1 ⊢
      exact h2.run Z1 S1 H1 env σ _ _ (s0.trans s1) (re.mono s1) r1 h1 fun Z2 S2 H2 b s2 => q Z2 S2 H2 b (s1.trans s2)
    · rw [if_neg hc] at h1 ⊢
      exact q _ _ _ _ s1 r1 h1⟩
theorem lt_Or (h : LT K Z0 tt tt') (h2 : LT K Z0 uu uu') : LT K Z0 (tOr tt uu) (dOr tt' uu') := ⟨fun Z S H env σ Q Q' s0 re rl hh q =>
  h.run Z S H env σ _ _ s0 re rl hh fun Z1 S1 H1 c s1 r1 h1 => by
    by_cases hc : c = true
    · rw [if_pos hc] at h1 ⊢
      exact q _ _ _ _ s1 r1 h1
    · rw [if_neg hc] at h1 ⊢
      exact h2.run Z1 S1 H1 env σ _ _ (s0.trans s1) (re.mono s1) r1 h1 fun Z2 S2 H2 b s2 => q Z2 S2 H2 b (s1.trans s2)⟩
theorem lt_Not (h : LT K Z0 tt tt') : LT K Z0 (tNot tt) (dNot tt') := ⟨fun Z S H env σ Q Q' s0 re rl hh q =>
  h.run Z S H env σ _ _ s0 re rl hh fun Z1 S1 H1 c s1 r1 h1 => q _ _ _ _ s1 r1 h1⟩
/-- truth of any value -/
def truD (S : Sto) : D → Option Bool
  | .non => some false
  | .bl b => some b
  | .int i => some (i != 0)
  | .str z => if z.length ≤ sizeLine then some ((z.length : Int) != 0) else none
  | .dk kvs => some (!kvs.isEmpty)
  | d => (asQ S d).map fun ds => !ds.isEmpty
theorem Rel.tru {Z : Hp} {S : Sto} {H : Hp} (r : Rel K Z S H) {d : D} {v : V} {k : Bool} (h : Rep K Z d v) (e : truD S d = some k) : TruV K v H k := by
  have sq : ∀ {ds : List D}, asQ S d = some ds → k = !ds.isEmpty → TruV K v H k := fun {ds} e1 e2 => by
    obtain ⟨a, xs, rfl, h1, h2⟩ := r.seq h e1
    have e3 : ds.isEmpty = xs.isEmpty := by
      cases h2 <;> rfl
    rw [e3] at e2
    rcases h1 with h1 | h1
    · exact .inl ⟨xs, h1, e2⟩
    · exact .inr (.inl ⟨xs, h1, e2⟩)
  cases h with
  | non => cases e; rfl
  | bl b => cases e; rfl
  | int i => cases e; rfl
  | str z =>
    have e' : (if z.length ≤ sizeLine then some ((z.length : Int) != 0) else none) = some k := e
    by_cases hz : z.length ≤ sizeLine
    · rw [if_pos hz] at e'; cases e'; exact ⟨hz, rfl⟩
    · rw [if_neg hz] at e'; cases e'
  | dk h1 h2 =>
    cases e
    refine .inr (.inr ⟨_, r.sub _ _ h1, ?_⟩)
    cases h2 <;> rfl
  | ty n => cases e
  | ins _ _ => cases e
  | tup _ _ => cases e; exact sq rfl rfl
  | lst _ _ => cases e; exact sq rfl rfl
  | raw a =>
    obtain ⟨ds, e1, e2⟩ := Option.map_eq_some_iff.mp e
    exact sq e1 e2.symm
def dTru (t : DE) : DT := fun env S Q => t env S fun x S1 => match truD S1 x with
  | some k => Q k S1
  | none => False
theorem lt_Tru (h : LE K Z0 ta ta') : LT K Z0 (fun σ H Q => ta σ H fun x H' => ∃ k, TruV K x H' k ∧ Q k H') (dTru ta') := ⟨fun Z S H env σ Q Q' s0 re rl hh q =>
  h.run Z S H env σ _ _ s0 re rl hh fun Z1 S1 H1 d v s1 r1 p1 h1 => by
    cases e : truD S1 d with
    | none => rw [e] at h1; exact h1.elim
    | some k => rw [e] at h1; exact ⟨k, r1.tru p1 e, q _ _ _ _ s1 r1 h1⟩⟩
/-- as values, by truth -/
def dAndT (ta tb : DE) : DE := fun env S Q => ta env S fun x S1 => match truD S1 x with
  | some k => if k = true then tb env S1 Q else Q x S1
  | none => False
def dOrT (ta tb : DE) : DE := fun env S Q => ta env S fun x S1 => match truD S1 x with
  | some k => if k = true then Q x S1 else tb env S1 Q
  | none => False
def dNotT (ta : DE) : DE := fun env S Q => ta env S fun x S1 => match truD S1 x with
  | some k => Q (.bl (!k)) S1
  | none => False
theorem le_AndT (h : LE K Z0 ta ta') (h2 : LE K Z0 tb tb') : LE K Z0 (tAndT K ta tb) (dAndT ta' tb') := ⟨fun Z S H env σ Q Q' s0 re rl hh q =>
  h.run Z S H env σ _ _ s0 re rl hh fun Z1 S1 H1 d v s1 r1 p1 h1 => by
    cases e : truD S1 d with
    | none => rw [e] at h1; exact h1.elim
    | some k =>
      rw [e] at h1
      refine ⟨k, r1.tru p1 e, ?_⟩
      have h1' : if k = true then tb' env S1 Q' else Q' d S1 := h1
      by_cases hk : k = true
      · rw [if_pos hk] at h1' ⊢
        exact h2.run Z1 S1 H1 env σ _ _ (s0.trans s1) (re.mono s1) r1 h1' fun Z2 S2 H2 d v s2 => q Z2 S2 H2 d v (s1.trans s2)
      · rw [if_neg hk] at h1' ⊢
        exact q _ _ _ _ _ s1 r1 p1 h1'⟩
theorem le_OrT (h : LE K Z0 ta ta') (h2 : LE K Z0 tb tb') : LE K Z0 (tOrT K ta tb) (dOrT ta' tb') := ⟨fun Z S H env σ Q Q' s0 re rl hh q =>
  h.run Z S H env σ _ _ s0 re rl hh fun Z1 S1 H1 d v s1 r1 p1 h1 => by
    cases e : truD S1 d with
    | none => rw [e] at h1; exact h1.elim
    | some k =>
      rw [e] at h1
      refine ⟨k, r1.tru p1 e, ?_⟩
      have h1' : if k = true then Q' d S1 else tb' env S1 Q' := h1
      by_cases hk : k = true
      · rw [if_pos hk] at h1' ⊢
        exact q _ _ _ _ _ s1 r1 p1 h1'
      · rw [if_neg hk] at h1' ⊢
        exact h2.run Z1 S1 H1 env σ _ _ (s0.trans s1) (re.mono s1) r1 h1' fun Z2 S2 H2 d v s2 => q Z2 S2 H2 d v (s1.trans s2)⟩
theorem le_NotT (h : LE K Z0 ta ta') : LE K Z0 (tNotT K ta) (dNotT ta') := ⟨fun Z S H env σ Q Q' s0 re rl hh q =>
  h.run Z S H env σ _ _ s0 re rl hh fun Z1 S1 H1 d v s1 r1 p1 h1 => by
    cases e : truD S1 d with
    | none => rw [e] at h1; exact h1.elim
    | some k => rw [e] at h1; exact ⟨k, r1.tru p1 e, q _ _ _ _ _ s1 r1 (.bl _) h1⟩⟩
def dIf (t : DT) (ta tb : DE) : DE := fun env S Q => t env S fun c S1 => if c = true then ta env S1 Q else tb env S1 Q
theorem le_If (h : LT K Z0 tt tt') (h1 : LE K Z0 ta ta') (h2 : LE K Z0 tb tb') : LE K Z0 (tIf tt ta tb) (dIf tt' ta' tb') := ⟨fun Z S H env σ Q Q' s0 re rl hh q =>
  h.run Z S H env σ _ _ s0 re rl hh fun Z1 S1 H1 c s1 r1 hx => by
    by_cases hc : c = true
    · rw [if_pos hc] at hx ⊢
      exact h1.run Z1 S1 H1 env σ _ _ (s0.trans s1) (re.mono s1) r1 hx fun Z2 S2 H2 d v s2 => q Z2 S2 H2 d v (s1.trans s2)
    · rw [if_neg hc] at hx ⊢
      exact h2.run Z1 S1 H1 env σ _ _ (s0.trans s1) (re.mono s1) r1 hx fun Z2 S2 H2 d v s2 => q Z2 S2 H2 d v (s1.trans s2)⟩

/-! ### arguments, displays -/
def dNil : DA := fun _ S Q => Q [] S
def dCons (ta : DE) (tr : DA) : DA := fun env S Q => ta env S fun x S1 => tr env S1 fun xs S2 => Q (x :: xs) S2
variable {t : TA} {t' : DA}
theorem la_nil : LA K Z0 tNil dNil := ⟨fun Z S H env σ Q Q' s0 re rl hh q => q _ _ _ _ _ (Same.refl _) rl .nil hh⟩
theorem la_cons (h : LE K Z0 ta ta') (h2 : LA K Z0 t t') : LA K Z0 (tCons ta t) (dCons ta' t') := ⟨fun Z S H env σ Q Q' s0 re rl hh q =>
  h.run Z S H env σ _ _ s0 re rl hh fun Z1 S1 H1 d v s1 r1 p1 h1 =>
    h2.run Z1 S1 H1 env σ _ _ (s0.trans s1) (re.mono s1) r1 h1 fun Z2 S2 H2 ds vs s2 r2 p2 h2 => q Z2 S2 H2 _ _ (s1.trans s2) r2 (.cons (p1.mono s2) p2) h2⟩
def dTup (t : DA) : DE := fun env S Q => t env S fun ds S1 => ds.length ≤ sizeLine ∧ Q (.tup ds) S1
/-- a list that is not changed from here on -/
def dLst (t : DA) : DE := fun env S Q => t env S fun ds S1 => ds.length ≤ sizeLine ∧ Q (.lst ds) S1
/-- a list that may be changed -/
def dLstM (t : DA) : DE := fun env S Q => t env S fun ds S1 => ds.length ≤ sizeLine ∧ ∀ a, S1 a = none → Q (.raw a) (updS S1 a (.lst ds))
theorem le_Tup (h : LA K Z0 t t') : LE K Z0 (tTup t) (dTup t') := ⟨fun Z S H env σ Q Q' s0 re rl hh q =>
  h.run Z S H env σ _ _ s0 re rl hh fun Z1 S1 H1 ds vs s1 r1 p1 h1 => ⟨by rw [← p1.length]; exact h1.1, fun p hp => by
    obtain ⟨r2, s2⟩ := r1.laid (o := .tup vs) hp
    exact q _ _ _ _ _ (s1.trans s2) r2 (.tup (.of upd_same) (p1.mono s2)) h1.2⟩⟩
theorem le_Lst (h : LA K Z0 t t') : LE K Z0 (tLst t) (dLst t') := ⟨fun Z S H env σ Q Q' s0 re rl hh q =>
  h.run Z S H env σ _ _ s0 re rl hh fun Z1 S1 H1 ds vs s1 r1 p1 h1 => ⟨by rw [← p1.length]; exact h1.1, fun p hp => by
    obtain ⟨r2, s2⟩ := r1.laid (o := .lst vs) hp
    exact q _ _ _ _ _ (s1.trans s2) r2 (.lst upd_same (p1.mono s2)) h1.2⟩⟩
theorem le_LstM (h : LA K Z0 t t') : LE K Z0 (tLst t) (dLstM t') := ⟨fun Z S H env σ Q Q' s0 re rl hh q =>
  h.run Z S H env σ _ _ s0 re rl hh fun Z1 S1 H1 ds vs s1 r1 p1 h1 => ⟨by rw [← p1.length]; exact h1.1, fun p hp => by
    obtain ⟨r2, n2⟩ := r1.new (o := .lst ds) (u := .lst vs) hp ⟨vs, rfl, p1⟩
    exact q _ _ _ _ _ s1 r2 (.raw p) (h1.2 p n2)⟩⟩

/-! ### built-ins called by values -/
abbrev RL' := List D → Sto → DV → Prop
def dCB (r : RL') (t : DA) : DE := fun env S Q => t env S fun ds S1 => r ds S1 Q
theorem le_CB {rr : List V → Hp → VK → Prop} {rr' : RL'} (hr : LR K Z0 rr rr') (h : LA K Z0 t t') : LE K Z0 (tCB rr t) (dCB rr' t') := ⟨fun Z S H env σ Q Q' s0 re rl hh q =>
  h.run Z S H env σ _ _ s0 re rl hh fun Z1 S1 H1 ds vs s1 r1 p1 h1 => hr.run Z1 S1 H1 vs ds _ _ (s0.trans s1) r1 p1 h1 fun Z2 S2 H2 d v s2 => q Z2 S2 H2 d v (s1.trans s2)⟩
def rLen' : RL' := fun ds S Q => match ds with
  | [.str z] => z.length ≤ sizeLine ∧ Q (.int z.length) S
  | [d] => (match asQ S d with
    | some es => Q (.int es.length) S
    | none => False)
  | _ => False
theorem one_of {Z : Hp} {d : D} {vs : List V} (h : Reps K Z [d] vs) : ∃ v, vs = [v] ∧ Rep K Z d v := by
  cases h with
  | cons a r => cases r; exact ⟨_, rfl, a⟩
theorem two_of {Z : Hp} {d e : D} {vs : List V} (h : Reps K Z [d, e] vs) : ∃ v u, vs = [v, u] ∧ Rep K Z d v ∧ Rep K Z e u := by
  cases h with
  | cons a r => obtain ⟨u, rfl, h⟩ := one_of r; exact ⟨_, u, rfl, a, h⟩
theorem lr_len : LR K Z0 (fun xs H Q => ∃ x n, xs = [x] ∧ LenV K x H n ∧ Q (.int (n : Nat)) H) rLen' := ⟨fun Z S H xs ds Q Q' s0 rl pr h q => by
  unfold rLen' at h
  split at h
  · obtain ⟨v, rfl, p⟩ := one_of pr
    cases p
    exact ⟨_, _, rfl, ⟨h.1, rfl⟩, q _ _ _ _ _ (Same.refl _) rl (.int _) h.2⟩
  · rename_i d _
    obtain ⟨v, rfl, p⟩ := one_of pr
    split at h
    · rename_i es e
      obtain ⟨a, xs, rfl, h1, h2⟩ := rl.seq p e
      refine ⟨_, xs.length, rfl, ?_, ?_⟩
      · rcases h1 with h1 | h1
        · exact .inl ⟨xs, h1, rfl⟩
        · exact .inr ⟨xs, h1, rfl⟩
      · rw [← h2.length]
        exact q _ _ _ _ _ (Same.refl _) rl (.int _) h
    · exact h.elim
  · exact h.elim⟩
def rAbs' : RL' := fun ds S Q => match ds with
  | [.int i] => Q (.int (if i < 0 then -i else i)) S
  | _ => False
theorem lr_abs : LR K Z0 (fun xs H Q => ∃ i, xs = [.int i] ∧ Q (.int (if i < 0 then -i else i)) H) rAbs' := ⟨fun Z S H xs ds Q Q' s0 rl pr h q => by
  unfold rAbs' at h
  split at h
  · obtain ⟨v, rfl, p⟩ := one_of pr
    cases p
    exact ⟨_, rfl, q _ _ _ _ _ (Same.refl _) rl (.int _) h⟩
  · exact h.elim⟩
def rInt' : RL' := fun ds S Q => match ds with
  | [.int i] => Q (.int i) S
  | [.bl k] => Q (.int (if k then 1 else 0)) S
  | _ => False
theorem lr_int : LR K Z0 (fun xs H Q => (∃ i, xs = [.int i] ∧ Q (.int i) H) ∨ ∃ k, xs = [.bl k] ∧ Q (.int (if k then 1 else 0)) H) rInt' := ⟨fun Z S H xs ds Q Q' s0 rl pr h q => by
  unfold rInt' at h
  split at h
  · obtain ⟨v, rfl, p⟩ := one_of pr
    cases p
    exact .inl ⟨_, rfl, q _ _ _ _ _ (Same.refl _) rl (.int _) h⟩
  · obtain ⟨v, rfl, p⟩ := one_of pr
    cases p
    exact .inr ⟨_, rfl, q _ _ _ _ _ (Same.refl _) rl (.int _) h⟩
  · exact h.elim⟩
def rMax2' : RL' := fun ds S Q => match ds with
  | [.int i, .int j] => Q (.int (if j > i then j else i)) S
  | _ => False
def rMin2' : RL' := fun ds S Q => match ds with
  | [.int i, .int j] => Q (.int (if j < i then j else i)) S
  | _ => False
theorem lr_max2 : LR K Z0 (fun xs H Q => ∃ i j, xs = [.int i, .int j] ∧ Q (.int (if j > i then j else i)) H) rMax2' := ⟨fun Z S H xs ds Q Q' s0 rl pr h q => by
  unfold rMax2' at h
  split at h
  · obtain ⟨v, u, rfl, p, p2⟩ := two_of pr
    cases p; cases p2
    exact ⟨_, _, rfl, q _ _ _ _ _ (Same.refl _) rl (.int _) h⟩
  · exact h.elim⟩
theorem lr_min2 : LR K Z0 (fun xs H Q => ∃ i j, xs = [.int i, .int j] ∧ Q (.int (if j < i then j else i)) H) rMin2' := ⟨fun Z S H xs ds Q Q' s0 rl pr h q => by
  unfold rMin2' at h
  split at h
  · obtain ⟨v, u, rfl, p, p2⟩ := two_of pr
    cases p; cases p2
    exact ⟨_, _, rfl, q _ _ _ _ _ (Same.refl _) rl (.int _) h⟩
  · exact h.elim⟩
/-- the ints of a row of ints -/
def intsOf : List D → Option (List Int)
  | [] => some []
  | .int i :: ds => (intsOf ds).map (i :: ·)
  | _ => none
theorem intsOf_map : ∀ {ds : List D} {ns : List Int}, intsOf ds = some ns → ds = ns.map D.int
  | [], ns, h => by cases h; rfl
  | .int i :: ds, ns, h => by
    obtain ⟨ms, h1, h2⟩ := Option.map_eq_some_iff.mp h
    subst h2
    rw [intsOf_map h1]; rfl
theorem intsOf_ints : ∀ (ns : List Int), intsOf (ns.map D.int) = some ns
  | [] => rfl
  | n :: ns => by show (intsOf (ns.map D.int)).map (n :: ·) = _; rw [intsOf_ints ns]; rfl
theorem Rel.ints {Z : Hp} {S : Sto} {H : Hp} (r : Rel K Z S H) {d : D} {v : V} {ns : List Int} (h : Rep K Z d v) (e : (asL S d).bind intsOf = some ns) : ∃ a, v = .ref a ∧ SqL K H a (ns.map V.int) := by
  obtain ⟨ds, e1, e2⟩ := Option.bind_eq_some_iff.mp e
  obtain ⟨a, xs, rfl, h1, h2⟩ := r.lst h e1
  rw [intsOf_map e2] at h2
  rw [h2.ints] at h1
  exact ⟨a, rfl, .of h1⟩
def rSum' : RL' := fun ds S Q => match ds with
  | [d] => (match (asL S d).bind intsOf with
    | some ns => Q (.int ns.sum) S
    | none => False)
  | _ => False
theorem lr_sum : LR K Z0 (rSum K) rSum' := ⟨fun Z S H xs ds Q Q' s0 rl pr h q => by
  unfold rSum' at h
  split at h
  · obtain ⟨v, rfl, p⟩ := one_of pr
    split at h
    · rename_i e
      obtain ⟨a, rfl, h1⟩ := rl.ints p e
      exact ⟨a, _, rfl, h1, q _ _ _ _ _ (Same.refl _) rl (.int _) h⟩
    · exact h.elim
  · exact h.elim⟩
def rMaxL' : RL' := fun ds S Q => match ds with
  | [d] => (match (asL S d).bind intsOf with
    | some ns => 0 < ns.length ∧ ∀ m, m ∈ ns → (∀ y, y ∈ ns → y ≤ m) → Q (.int m) S
    | none => False)
  | _ => False
def rMinL' : RL' := fun ds S Q => match ds with
  | [d] => (match (asL S d).bind intsOf with
    | some ns => 0 < ns.length ∧ ∀ m, m ∈ ns → (∀ y, y ∈ ns → m ≤ y) → Q (.int m) S
    | none => False)
  | _ => False
theorem lr_maxL : LR K Z0 (rMax K) rMaxL' := ⟨fun Z S H xs ds Q Q' s0 rl pr h q => by
  unfold rMaxL' at h
  split at h
  · obtain ⟨v, rfl, p⟩ := one_of pr
    split at h
    · rename_i e
      obtain ⟨a, rfl, h1⟩ := rl.ints p e
      exact ⟨a, _, rfl, h1, h.1, fun m m1 m2 => q _ _ _ _ _ (Same.refl _) rl (.int _) (h.2 m m1 m2)⟩
    · exact h.elim
  · exact h.elim⟩
theorem lr_minL : LR K Z0 (rMin K) rMinL' := ⟨fun Z S H xs ds Q Q' s0 rl pr h q => by
  unfold rMinL' at h
  split at h
  · obtain ⟨v, rfl, p⟩ := one_of pr
    split at h
    · rename_i e
      obtain ⟨a, rfl, h1⟩ := rl.ints p e
      exact ⟨a, _, rfl, h1, h.1, fun m m1 m2 => q _ _ _ _ _ (Same.refl _) rl (.int _) (h.2 m m1 m2)⟩
    · exact h.elim
  · exact h.elim⟩
/-- list(x), tuple(x) -/
def rListOf' : RL' := fun ds S Q => match ds with
  | [d] => (match asQ S d with
    | some es => Q (.lst es) S
    | none => False)
  | _ => False
def rListOfM' : RL' := fun ds S Q => match ds with
  | [d] => (match asQ S d with
    | some es => ∀ a, S a = none → Q (.raw a) (updS S a (.lst es))
    | none => False)
  | _ => False
def rTupOf' : RL' := fun ds S Q => match ds with
  | [d] => (match asQ S d with
    | some es => Q (.tup es) S
    | none => False)
  | _ => False
theorem lr_listOf : LR K Z0 (fun xs H Q => ∃ p ys, xs = [.ref p] ∧ (SqL K H p ys ∨ SqT K H p ys) ∧ ∀ l, H l = none → Q (.ref l) (upd H l (.lst ys))) rListOf' := ⟨fun Z S H xs ds Q Q' s0 rl pr h q => by
  unfold rListOf' at h
  split at h
  · obtain ⟨v, rfl, p⟩ := one_of pr
    split at h
    · rename_i e
      obtain ⟨a, xs, rfl, h1, h2⟩ := rl.seq p e
      refine ⟨a, xs, rfl, h1, fun l hl => ?_⟩
      obtain ⟨r2, s2⟩ := rl.laid (o := .lst xs) hl
      exact q _ _ _ _ _ s2 r2 (.lst upd_same (h2.mono s2)) h
    · exact h.elim
  · exact h.elim⟩
theorem lr_listOfM : LR K Z0 (fun xs H Q => ∃ p ys, xs = [.ref p] ∧ (SqL K H p ys ∨ SqT K H p ys) ∧ ∀ l, H l = none → Q (.ref l) (upd H l (.lst ys))) rListOfM' := ⟨fun Z S H xs ds Q Q' s0 rl pr h q => by
  unfold rListOfM' at h
  split at h
  · obtain ⟨v, rfl, p⟩ := one_of pr
    split at h
    · rename_i e
      obtain ⟨a, xs, rfl, h1, h2⟩ := rl.seq p e
      refine ⟨a, xs, rfl, h1, fun l hl => ?_⟩
      obtain ⟨r2, n2⟩ := rl.new (o := .lst _) (u := .lst xs) hl ⟨xs, rfl, h2⟩
      exact q _ _ _ _ _ (Same.refl _) r2 (.raw l) (h l n2)
    · exact h.elim
  · exact h.elim⟩
theorem lr_tupOf : LR K Z0 (fun xs H Q => ∃ p ys, xs = [.ref p] ∧ ((SqL K H p ys ∧ ∀ l, H l = none → Q (.ref l) (upd H l (.tup ys))) ∨ (SqT K H p ys ∧ Q (.ref p) H))) rTupOf' := ⟨fun Z S H xs ds Q Q' s0 rl pr h q => by
  unfold rTupOf' at h
  split at h
  · rename_i d
    obtain ⟨v, rfl, p⟩ := one_of pr
    split at h
    · rename_i es e
      by_cases ht : ∃ fs, d = .tup fs
      · obtain ⟨fs, rfl⟩ := ht
        cases e
        cases p with
        | tup h1 h2 => exact ⟨_, _, rfl, .inr ⟨Same.sqt rl.sub h1, q _ _ _ _ _ (Same.refl _) rl (.tup h1 h2) h⟩⟩
      · rw [asQ_ne fun ds z => ht ⟨ds, z⟩] at e
        obtain ⟨a, xs, rfl, h1, h2⟩ := rl.lst p e
        refine ⟨a, xs, rfl, .inl ⟨.of h1, fun l hl => ?_⟩⟩
        obtain ⟨r2, s2⟩ := rl.laid (o := .tup xs) hl
        exact q _ _ _ _ _ s2 r2 (.tup (.of upd_same) (h2.mono s2)) h
    · exact h.elim
  · exact h.elim⟩
/-- any(xs), all(xs) of truth values -/
def blsOf : List D → Option (List Bool)
  | [] => some []
  | .bl i :: ds => (blsOf ds).map (i :: ·)
  | _ => none
theorem blsOf_map : ∀ {ds : List D} {ns : List Bool}, blsOf ds = some ns → ds = ns.map D.bl
  | [], ns, h => by cases h; rfl
  | .bl i :: ds, ns, h => by
    obtain ⟨ms, h1, h2⟩ := Option.map_eq_some_iff.mp h
    subst h2
    rw [blsOf_map h1]; rfl
theorem blsOf_bls : ∀ (ns : List Bool), blsOf (ns.map D.bl) = some ns
  | [] => rfl
  | n :: ns => by show (blsOf (ns.map D.bl)).map (n :: ·) = _; rw [blsOf_bls ns]; rfl
def rAny' : RL' := fun ds S Q => match ds with
  | [d] => (match (asL S d).bind blsOf with
    | some ns => Q (.bl (ns.any id)) S
    | none => False)
  | _ => False
def rAll' : RL' := fun ds S Q => match ds with
  | [d] => (match (asL S d).bind blsOf with
    | some ns => Q (.bl (ns.all id)) S
    | none => False)
  | _ => False
theorem Rel.bls {Z : Hp} {S : Sto} {H : Hp} (r : Rel K Z S H) {d : D} {v : V} {ns : List Bool} (h : Rep K Z d v) (e : (asL S d).bind blsOf = some ns) : ∃ a, v = .ref a ∧ SqL K H a (ns.map V.bl) := by
  obtain ⟨ds, e1, e2⟩ := Option.bind_eq_some_iff.mp e
  obtain ⟨a, xs, rfl, h1, h2⟩ := r.lst h e1
  rw [blsOf_map e2] at h2
  rw [h2.bls] at h1
  exact ⟨a, rfl, .of h1⟩
theorem lr_any : LR K Z0 (rAny K) rAny' := ⟨fun Z S H xs ds Q Q' s0 rl pr h q => by
  unfold rAny' at h
  split at h
  · obtain ⟨v, rfl, p⟩ := one_of pr
    split at h
    · rename_i e
      obtain ⟨a, rfl, h1⟩ := rl.bls p e
      exact ⟨a, _, rfl, h1, q _ _ _ _ _ (Same.refl _) rl (.bl _) h⟩
    · exact h.elim
  · exact h.elim⟩
theorem lr_all : LR K Z0 (rAll K) rAll' := ⟨fun Z S H xs ds Q Q' s0 rl pr h q => by
  unfold rAll' at h
  split at h
  · obtain ⟨v, rfl, p⟩ := one_of pr
    split at h
    · rename_i e
      obtain ⟨a, rfl, h1⟩ := rl.bls p e
      exact ⟨a, _, rfl, h1, q _ _ _ _ _ (Same.refl _) rl (.bl _) h⟩
    · exact h.elim
  · exact h.elim⟩
end
end DL
end

section
set_option Elab.async false
set_option linter.all false
set_option autoImplicit false
set_option maxRecDepth 100000
set_option maxHeartbeats 2000000
/-! DL5: methods of lists, slices, fields, targets, statements, loops, comprehensions. -/
namespace DL
open PySem PySem.Spec PyProof.Rows L2

section
variable {K : PySem.W.Frag} {Z0 : Hp} {ta tb tc te to_ : TE} {ta' tb' tc' te' to' : DE} {tt uu : TT} {tt' uu' : DT} {t : TA} {t' : DA}
/-! ### methods of lists -/
abbrev RM' := D → List D → Sto → DV → Prop
def dBM (r : RM') (to : DE) (t : DA) : DE := fun env S Q => to env S fun x S1 => (asL S1 x).isSome = true ∧ t env S1 fun ds S2 => r x ds S2 Q
theorem Rel.tyL {Z : Hp} {S : Sto} {H : Hp} (r : Rel K Z S H) {d : D} {v : V} (h : Rep K Z d v) (e : (asL S d).isSome = true) : tyV K "list" v H := by
  obtain ⟨ds, e⟩ := Option.isSome_iff_exists.mp e
  obtain ⟨a, xs, rfl, h1, h2⟩ := r.lst h e
  exact .inl ⟨rfl, xs, .of h1⟩
theorem le_BM {r : V → List V → Hp → VK → Prop} {r' : RM'} (hr : LM K Z0 r r') (ho : LE K Z0 to_ to') (h : LA K Z0 t t') : LE K Z0 (tBM K "list" r to_ t) (dBM r' to' t') := ⟨fun Z S H env σ Q Q' s0 re rl hh q =>
  ho.run Z S H env σ _ _ s0 re rl hh fun Z1 S1 H1 d v s1 r1 p1 h1 => ⟨r1.tyL p1 h1.1,
    h.run Z1 S1 H1 env σ _ _ (s0.trans s1) (re.mono s1) r1 h1.2 fun Z2 S2 H2 ds vs s2 r2 p2 h2 =>
      hr.run Z2 S2 H2 v vs d ds _ _ ((s0.trans s1).trans s2) r2 (p1.mono s2) p2 h2 fun Z3 S3 H3 d v s3 => q Z3 S3 H3 d v ((s1.trans s2).trans s3)⟩⟩
theorem le_BM0 {r : V → List V → Hp → VK → Prop} {r' : RM'} (hr : LM K Z0 r r') (ho : LE K Z0 to_ to') : LE K Z0 (tBM0 K "list" r to_) (dBM r' to' dNil) := ⟨fun Z S H env σ Q Q' s0 re rl hh q =>
  ho.run Z S H env σ _ _ s0 re rl hh fun Z1 S1 H1 d v s1 r1 p1 h1 => ⟨r1.tyL p1 h1.1,
      hr.run Z1 S1 H1 v [] d [] _ _ (s0.trans s1) r1 p1 .nil h1.2 fun Z3 S3 H3 d v s3 => q Z3 S3 H3 d v (s1.trans s3)⟩⟩
/-- the list of the store at d -/
def ownL (S : Sto) : D → Option (Addr × List D)
  | .raw a => (match S a with
    | some (.lst ds) => some (a, ds)
    | _ => none)
  | _ => none
theorem ownL_some {S : Sto} {d : D} {a : Addr} {ds : List D} (e : ownL S d = some (a, ds)) : d = .raw a ∧ S a = some (.lst ds) := by
  unfold ownL at e
  split at e
  · split at e
    · rename_i q
      cases e
      exact ⟨rfl, q⟩
    · cases e
  · cases e
theorem Rel.ownL {Z : Hp} {S : Sto} {H : Hp} (r : Rel K Z S H) {d : D} {v : V} {a : Addr} {ds : List D} (h : Rep K Z d v) (e : DL.ownL S d = some (a, ds)) : v = .ref a ∧ S a = some (.lst ds) ∧ ∃ xs, H a = some (.lst xs) ∧ Reps K Z ds xs := by
  obtain ⟨rfl, e2⟩ := ownL_some e
  cases h
  obtain ⟨_, u, h1, xs, e3, h2⟩ := r.own a _ e2
  subst e3
  exact ⟨rfl, e2, xs, h1, h2⟩
theorem Rel.setL {Z : Hp} {S : Sto} {H : Hp} (r : Rel K Z S H) {a : Addr} {ds es : List D} {ys : List V} (e : S a = some (.lst ds)) (h : Reps K Z es ys) : Rel K Z (updS S a (.lst es)) (upd H a (.lst ys)) :=
  r.write e ⟨ys, rfl, h⟩
def rAppend' : RM' := fun x vs S Q => match ownL S x, vs with
  | some (a, ds), [y] => ds.length < sizeLine ∧ Q .non (updS S a (.lst (ds ++ [y])))
  | _, _ => False
theorem lm_append : LM K Z0 rAppend rAppend' := ⟨fun Z S H x xs d ds Q Q' s0 rl px pr h q => by
  unfold rAppend' at h
  split at h
  · rename_i e
    obtain ⟨rfl, e1, zs, h1, h2⟩ := rl.ownL px e
    obtain ⟨v, rfl, p⟩ := one_of pr
    exact ⟨_, zs, v, rfl, rfl, h1, by rw [← h2.length]; exact h.1, q _ _ _ _ _ (Same.refl _) (rl.setL e1 (h2.append (.cons p .nil))) .non h.2⟩
  · exact h.elim⟩
def rPop' : RM' := fun x vs S Q => match ownL S x, vs with
  | some (a, ds), [] => (match ds[ds.length - 1]? with
    | some y => Q y (updS S a (.lst ds.dropLast))
    | none => False)
  | _, _ => False
theorem lm_pop : LM K Z0 rPop rPop' := ⟨fun Z S H x xs d ds Q Q' s0 rl px pr h q => by
  unfold rPop' at h
  split at h
  · rename_i e
    obtain ⟨rfl, e1, zs, h1, h2⟩ := rl.ownL px e
    cases pr
    split at h
    · rename_i y ey
      obtain ⟨v, h3, h4⟩ := h2.getD ey
      exact ⟨_, zs, v, rfl, rfl, h1, by rw [← h2.length]; exact h3, q _ _ _ _ _ (Same.refl _) (rl.setL e1 h2.dropLast) h4 h⟩
    · exact h.elim
  · exact h.elim⟩
def rPopAt' : RM' := fun x vs S Q => match ownL S x, vs with
  | some (a, ds), [.int i] => -(2 ^ 63) ≤ i ∧ i < 2 ^ 63 ∧ (match ixN ds.length i with
    | some k => (match ds[k]? with
      | some y => Q y (updS S a (.lst (ds.eraseIdx k)))
      | none => False)
    | none => False)
  | _, _ => False
theorem lm_popAt : LM K Z0 rPopAt rPopAt' := ⟨fun Z S H x xs d ds Q Q' s0 rl px pr h q => by
  unfold rPopAt' at h
  split at h
  · rename_i e
    obtain ⟨rfl, e1, zs, h1, h2⟩ := rl.ownL px e
    obtain ⟨v, rfl, p⟩ := one_of pr
    cases p
    obtain ⟨b1, b2, h⟩ := h
    split at h
    · rename_i k ek
      split at h
      · rename_i y ey
        obtain ⟨v, h3, h4⟩ := h2.getD ey
        rw [h2.length] at ek
        exact ⟨_, zs, _, k, v, rfl, rfl, h1, b1, b2, (ixN_seq ek).1, h3, q _ _ _ _ _ (Same.refl _) (rl.setL e1 (h2.eraseIdx k)) h4 h⟩
      · exact h.elim
    · exact h.elim
  · exact h.elim⟩
def rInsert' : RM' := fun x vs S Q => match ownL S x, vs with
  | some (a, ds), [.int i, y] => ds.length < sizeLine ∧ 0 ≤ i ∧ i < 2 ^ 63 ∧ Q .non (updS S a (.lst (ds.take i.toNat ++ [y] ++ ds.drop i.toNat)))
  | _, _ => False
theorem lm_insert : LM K Z0 (fun x vs H Q => ∃ (l : Addr) (xs : List V) (i : Int) (y : V), x = .ref l ∧ vs = [.int i, y] ∧ H l = some (.lst xs) ∧ xs.length < sizeLine ∧ 0 ≤ i ∧ i < 2 ^ 63 ∧
    Q .non (upd H l (.lst (xs.take i.toNat ++ [y] ++ xs.drop i.toNat)))) rInsert' := ⟨fun Z S H x xs d ds Q Q' s0 rl px pr h q => by
  unfold rInsert' at h
  split at h
  · rename_i e
    obtain ⟨rfl, e1, zs, h1, h2⟩ := rl.ownL px e
    obtain ⟨v, u, rfl, p, p2⟩ := two_of pr
    cases p
    obtain ⟨b0, b1, b2, h⟩ := h
    exact ⟨_, zs, _, u, rfl, rfl, h1, by rw [← h2.length]; exact b0, b1, b2, q _ _ _ _ _ (Same.refl _) (rl.setL e1 (((h2.take _).append (.cons p2 .nil)).append (h2.drop _))) .non h⟩
  · exact h.elim⟩
def rReverse' : RM' := fun x vs S Q => match ownL S x, vs with
  | some (a, ds), [] => Q .non (updS S a (.lst ds.reverse))
  | _, _ => False
theorem lm_reverse : LM K Z0 rReverse rReverse' := ⟨fun Z S H x xs d ds Q Q' s0 rl px pr h q => by
  unfold rReverse' at h
  split at h
  · rename_i e
    obtain ⟨rfl, e1, zs, h1, h2⟩ := rl.ownL px e
    cases pr
    exact ⟨_, zs, rfl, rfl, h1, q _ _ _ _ _ (Same.refl _) (rl.setL e1 h2.reverse) .non h⟩
  · exact h.elim⟩

/-! ### slices -/
abbrev DO := DEnv → Sto → (Option Int → Sto → Prop) → Prop
structure LO (K : PySem.W.Frag) (Z0 : Hp) (t : TO) (t' : DO) : Prop where
  run : ∀ (Z : Hp) (S : Sto) (H : Hp) (env : DEnv) (σ : L2.St) (Q : Option Int → Hp → Prop) (Q' : Option Int → Sto → Prop), Same Z0 Z → RelE K Z env σ → Rel K Z S H → t' env S Q' →
    (∀ (Z' : Hp) (S' : Sto) (H' : Hp) (o : Option Int), Same Z Z' → Rel K Z' S' H' → Q' o S' → Q o H') → t σ H Q
def dNoPart : DO := fun _ S Q => Q none S
def dPart (t : DE) : DO := fun env S Q => t env S fun x S1 => match x with
  | .int i => Q (some i) S1
  | _ => False
theorem lo_none : LO K Z0 tNoPart dNoPart := ⟨fun Z S H env σ Q Q' s0 re rl hh q => q _ _ _ _ (Same.refl _) rl hh⟩
theorem lo_some (h : LE K Z0 ta ta') : LO K Z0 (tPart ta) (dPart ta') := ⟨fun Z S H env σ Q Q' s0 re rl hh q =>
  h.run Z S H env σ _ _ s0 re rl hh fun Z1 S1 H1 d v s1 r1 p1 h1 => by
    cases p1 with
    | int i => exact ⟨i, rfl, q _ _ _ _ s1 r1 h1⟩
    | _ => exact h1.elim⟩
def cutD (xs : List D) (lo hi : Option Int) : List D := (xs.drop (HT.sIx xs.length 0 lo)).take (HT.sIx xs.length xs.length hi - HT.sIx xs.length 0 lo)
theorem Reps.cut {Z : Hp} {ds : List D} {vs : List V} (h : Reps K Z ds vs) (lo hi : Option Int) : Reps K Z (cutD ds lo hi) (cutV vs lo hi) := by
  unfold cutD cutV
  rw [h.length]
  exact (h.drop _).take _
theorem cutD_whole {xs : List D} {lo hi : Option Int} (h : HT.sIx xs.length 0 lo = 0 ∧ HT.sIx xs.length xs.length hi = xs.length) : cutD xs lo hi = xs := by
  unfold cutD
  rw [h.1, h.2, List.drop_zero, Nat.sub_zero, List.take_length]
def dSl (te : DE) (tl th : DO) : DE := fun env S Q => te env S fun x S1 => tl env S1 fun l S2 => th env S2 fun u S3 => match x with
  | .str z => z.length ≤ sizeLine ∧ Q (.str (cutS z l u)) S3
  | .tup ds => Q (.tup (cutD ds l u)) S3
  | x => (match asL S3 x with
    | some ds => Q (.lst (cutD ds l u)) S3
    | none => False)
abbrev rSlAll (K : PySem.W.Frag) : V → Option Int → Option Int → Hp → VK → Prop := fun x lo hi H Q => (fun x lo hi H Q => rSlS x lo hi H Q ∨ rSlA K x lo hi H Q) x lo hi H Q ∨ rSlL K x lo hi H Q
theorem sl_all {X : Cx} : SlR X (rSlAll X.K) := (sl_str.or sl_tupA).or sl_list
theorem le_Sl {tl th : TO} {tl' th' : DO} (h : LE K Z0 te te') (hl : LO K Z0 tl tl') (hh : LO K Z0 th th') : LE K Z0 (tSl (rSlAll K) te tl th) (dSl te' tl' th') := ⟨fun Z S H env σ Q Q' s0 re rl hw q =>
  h.run Z S H env σ _ _ s0 re rl hw fun Z1 S1 H1 d v s1 r1 p1 h1 =>
    hl.run Z1 S1 H1 env σ _ _ (s0.trans s1) (re.mono s1) r1 h1 fun Z2 S2 H2 l s2 r2 h2 =>
      hh.run Z2 S2 H2 env σ _ _ ((s0.trans s1).trans s2) (re.mono (s1.trans s2)) r2 h2 fun Z3 S3 H3 u s3 r3 h3 => by
        have p3 := (p1.mono s2).mono s3
        have sT := (s1.trans s2).trans s3
        have lists : (match asL S3 d with
            | some ds => Q' (.lst (cutD ds l u)) S3
            | none => False) → rSlAll K v l u H3 Q := fun h3 => by
          split at h3
          · rename_i ds e
            obtain ⟨a, xs, rfl, h4, h5⟩ := r3.lst p3 e
            refine .inr ⟨a, xs, rfl, .of h4, fun p hp => ?_⟩
            obtain ⟨r4, s4⟩ := r3.laid (o := .lst (cutV xs l u)) hp
            exact q _ _ _ _ _ (sT.trans s4) r4 (.lst upd_same ((h5.cut l u).mono s4)) h3
          · exact h3.elim
        cases p3 with
        | str z => exact .inl (.inl ⟨z, rfl, h3.1, q _ _ _ _ _ sT r3 (.str _) h3.2⟩)
        | @tup a xs ds h4 h5 =>
          refine .inl (.inr ⟨a, xs, rfl, Same.sqt r3.sub h4, fun e => ?_, fun _ p hp => ?_⟩)
          · rw [← h5.length] at e
            have h3' : Q' (.tup (cutD ds l u)) S3 := h3
            rw [cutD_whole e] at h3'
            exact q _ _ _ _ _ sT r3 (.tup h4 h5) h3'
          · obtain ⟨r4, s4⟩ := r3.laid (o := .tup (cutV xs l u)) hp
            exact q _ _ _ _ _ (sT.trans s4) r4 (.tup (.of upd_same) ((h5.cut l u).mono s4)) h3
        | _ => exact lists h3⟩

/-! ### fields -/
def insOf (S : Sto) : D → Option (Addr × List (Str × D))
  | .ins C fs => some (C, fs)
  | .raw a => (match S a with
    | some (.ins C fs) => some (C, fs)
    | _ => none)
  | _ => none
theorem Rel.ins {Z : Hp} {S : Sto} {H : Hp} (r : Rel K Z S H) {d : D} {v : V} {C : Addr} {fs : List (Str × D)} (h : Rep K Z d v) (e : insOf S d = some (C, fs)) : ∃ a dx gs, v = .ref a ∧ H a = some (.ins C dx gs) ∧ RepF K Z fs gs := by
  cases h with
  | ins h1 h2 => cases e; exact ⟨_, _, _, rfl, r.sub _ _ h1, h2⟩
  | raw a =>
    have e' : (match S a with
      | some (.ins C fs) => some (C, fs)
      | _ => none) = some (C, fs) := e
    split at e'
    · rename_i q
      cases e'
      obtain ⟨_, u, h1, dx, gs, e2, h2⟩ := r.own a _ q
      subst e2
      exact ⟨a, dx, gs, rfl, h1, h2⟩
    · cases e'
  | _ => cases e
def dFld (C : Addr) (f : Str) (ta : DE) : DE := fun env S Q => ta env S fun x S1 => match insOf S1 x with
  | some (C', fs) => C' = C ∧ (match fs.lookup f with
    | some d => Q d S1
    | none => False)
  | none => False
theorem le_Fld {C : Addr} {f : Str} (hC : Cls K C) (hn : NoAttr K C f) (h : LE K Z0 ta ta') : LE K Z0 (tFld K ta f) (dFld C f ta') := ⟨fun Z S H env σ Q Q' s0 re rl hw q =>
  h.run Z S H env σ _ _ s0 re rl hw fun Z1 S1 H1 d v s1 r1 p1 h1 => by
    split at h1
    · rename_i C' fs e
      obtain ⟨rfl, h1⟩ := h1
      obtain ⟨a, dx, gs, rfl, h2, h3⟩ := r1.ins p1 e
      split at h1
      · rename_i d' e2
        obtain ⟨v, h4, h5⟩ := h3.lookup f e2
        exact ⟨a, _, dx, gs, v, rfl, h2, hC, hn, h4, q _ _ _ _ _ s1 r1 h5 h1⟩
      · exact h1.elim
    · exact h1.elim⟩

/-! ### targets -/
def dgName (i : Nat) : DG := fun d env S Q => Q (env.set i (some d)) S
theorem wipe_set {σ : L2.St} {i : Nat} {o : Option V} : ∀ {ws : List Nat}, i ∈ ws → wipe (σ.set i o) ws = wipe σ ws
  | [], h => by cases h
  | w :: ws, h => by
    show (wipe (σ.set i o) ws).set w none = (wipe σ ws).set w none
    by_cases hw : i ∈ ws
    · rw [wipe_set hw]
    · have e : w = i := by
        rcases List.mem_cons.mp h with e | e
        · exact e.symm
        · exact absurd e hw
      subst e
      have out : ∀ (ws : List Nat) (τ : L2.St), w ∉ ws → wipe (τ.set w o) ws = (wipe τ ws).set w o := by
        intro ws
        induction ws with
        | nil => intro τ _; rfl
        | cons y ys ih =>
          intro τ hn
          show (wipe (τ.set w o) ys).set y none = ((wipe τ ys).set y none).set w o
          rw [ih τ fun z => hn (List.mem_cons_of_mem _ z)]
          exact List.set_comm _ _ fun z => hn (by rw [z]; exact List.mem_cons_self)
      rw [out ws σ hw, List.set_set]
theorem lg_name {i : Nat} {ws : List Nat} (hi : i ∈ ws) : LG K Z0 ws (gName i) (dgName i) := ⟨fun Z S H env σ d v Q Q' s0 re rl p h q => q _ _ _ _ _ (Same.refl _) (re.set p i) rl (wipe_set hi) h⟩
def dgNil : DGs := fun ds env S Q => match ds with
  | [] => Q env S
  | _ => False
def dgCons (g : DG) (u : DGs) : DGs := fun ds env S Q => match ds with
  | d :: r => g d env S fun env' S' => u r env' S' Q
  | _ => False
theorem lgs_nil {ws : List Nat} : LGs K Z0 ws gNil dgNil := ⟨fun Z S H env σ d v Q Q' s0 re rl p h q => by
  cases p with
  | nil => exact ⟨rfl, q _ _ _ _ _ (Same.refl _) re rl rfl h⟩
  | cons _ _ => exact h.elim⟩
theorem lgs_cons {ws : List Nat} {g : TG} {g' : DG} {u : TGs} {u' : DGs} (h1 : LG K Z0 ws g g') (h2 : LGs K Z0 ws u u') : LGs K Z0 ws (gCons g u) (dgCons g' u') := ⟨fun Z S H env σ d v Q Q' s0 re rl p h q => by
  cases p with
  | nil => exact h.elim
  | cons p1 p2 => exact ⟨_, _, rfl, h1.run Z S H env σ _ _ _ _ s0 re rl p1 h fun Z1 S1 H1 env1 σ1 s1 re1 r1 w1 hx =>
      h2.run Z1 S1 H1 env1 σ1 _ _ _ _ (s0.trans s1) re1 r1 (p2.mono s1) hx fun Z2 S2 H2 env2 σ2 s2 re2 r2 w2 => q Z2 S2 H2 env2 σ2 (s1.trans s2) re2 r2 (w2.trans w1)⟩⟩
/-- (a, b, ..) = a tuple -/
def dgTup (n : Nat) (u : DGs) : DG := fun d env S Q => match d with
  | .tup ds => ds.length = n ∧ u ds env S Q
  | _ => False
theorem lg_tup {ws : List Nat} {n : Nat} {u : TGs} {u' : DGs} (h : LGs K Z0 ws u u') : LG K Z0 ws (gTup K n u) (dgTup n u') := ⟨fun Z S H env σ d v Q Q' s0 re rl p hh q => by
  cases p with
  | @tup a xs ds h1 h2 => exact ⟨a, xs, rfl, Same.sqt rl.sub h1, by rw [← h2.length]; exact hh.1, h.run Z S H env σ _ _ _ _ s0 re rl h2 hh.2 q⟩
  | _ => exact hh.elim⟩
/-- o[i] = e, o a list of the store -/
def dgSub (to ti : DE) : DG := fun d env S Q => to env S fun o S1 => ti env S1 fun i S2 => match ownL S2 o, i with
  | some (a, ds), .int k => (match ixN ds.length k with
    | some j => Q env (updS S2 a (.lst (ds.set j d)))
    | none => False)
  | _, _ => False
theorem lg_sub {ws : List Nat} (h1 : LE K Z0 to_ to') (h2 : LE K Z0 ta ta') : LG K Z0 ws (gSub to_ ta rSetL) (dgSub to' ta') := ⟨fun Z S H env σ d v Q Q' s0 re rl p hh q =>
  h1.run Z S H env σ _ _ s0 re rl hh fun Z1 S1 H1 o vo s1 r1 p1 hx =>
    h2.run Z1 S1 H1 env σ _ _ (s0.trans s1) (re.mono s1) r1 hx fun Z2 S2 H2 i vi s2 r2 p2 hy => by
      split at hy
      · rename_i a ds k e
        obtain ⟨rfl, e1, zs, h3, h4⟩ := r2.ownL (p1.mono s2) e
        cases p2
        split at hy
        · rename_i j ej
          rw [h4.length] at ej
          exact ⟨a, zs, k, j, rfl, rfl, h3, ej, q _ _ _ _ _ (s1.trans s2) (re.mono (s1.trans s2)) (r2.setL e1 (Reps.set ((p.mono s1).mono s2) j h4)) rfl hy⟩
        · exact hy.elim
      · exact hy.elim⟩
end
end DL
end

section
set_option Elab.async false
set_option linter.all false
set_option autoImplicit false
set_option maxRecDepth 100000
set_option maxHeartbeats 2000000
/-! DL6: statements, loops, comprehensions, defs, exceptions. -/
namespace DL
open PySem PySem.Spec PyProof.Rows L2

section
variable {K : PySem.W.Frag} {Z0 : Hp} {ta tb tc te to_ : TE} {ta' tb' tc' te' to' : DE} {tt : TT} {tt' : DT} {t u : TS} {t' u' : DS}
/-! ### statements -/
def dNext : DS := fun D env S => D.nx env S
def dSeq (t u : DS) : DS := fun D env S => t { D with nx := u D } env S
theorem ls_next : LS K Z0 tNext dNext := ⟨fun Z S H env σ D D' s0 re rl h e => e.nx _ _ _ _ _ (Same.refl _) re rl h⟩
theorem ls_seq (h1 : LS K Z0 t t') (h2 : LS K Z0 u u') : LS K Z0 (tSeq t u) (dSeq t' u') := ⟨fun Z S H env σ D D' s0 re rl h e =>
  h1.run Z S H env σ _ _ s0 re rl h ⟨fun Z1 S1 H1 env1 σ1 s1 re1 r1 hx => h2.run Z1 S1 H1 env1 σ1 _ _ (s0.trans s1) re1 r1 hx (e.mono s1), e.rt, e.bk, e.ct⟩⟩
def dBreak : DS := fun D env S => D.bk env S
def dCont : DS := fun D env S => D.ct env S
theorem ls_break : LS K Z0 tBreak dBreak := ⟨fun Z S H env σ D D' s0 re rl h e => e.bk _ _ _ _ _ (Same.refl _) re rl h⟩
theorem ls_cont : LS K Z0 tCont dCont := ⟨fun Z S H env σ D D' s0 re rl h e => e.ct _ _ _ _ _ (Same.refl _) re rl h⟩
def dDrop (ta : DE) : DS := fun D env S => ta env S fun _ S1 => D.nx env S1
theorem ls_drop (h : LE K Z0 ta ta') : LS K Z0 (tDrop ta) (dDrop ta') := ⟨fun Z S H env σ D D' s0 re rl hh e =>
  h.run Z S H env σ _ _ s0 re rl hh fun Z1 S1 H1 d v s1 r1 p1 h1 => e.nx _ _ _ _ _ s1 (re.mono s1) r1 h1⟩
def dRet (ta : DE) : DS := fun D env S => ta env S D.rt
theorem ls_ret (h : LE K Z0 ta ta') : LS K Z0 (tRet ta) (dRet ta') := ⟨fun Z S H env σ D D' s0 re rl hh e =>
  h.run Z S H env σ _ _ s0 re rl hh fun Z1 S1 H1 d v s1 r1 p1 h1 => e.rt _ _ _ _ _ s1 r1 p1 h1⟩
def dRetN : DS := fun D _ S => D.rt .non S
theorem ls_retN : LS K Z0 tRetN dRetN := ⟨fun Z S H env σ D D' s0 re rl hh e => e.rt _ _ _ _ _ (Same.refl _) rl .non hh⟩
def dIfS (c : DT) (t u : DS) : DS := fun D env S => c env S fun b S1 => if b = true then t D env S1 else u D env S1
theorem ls_if (hc : LT K Z0 tt tt') (h1 : LS K Z0 t t') (h2 : LS K Z0 u u') : LS K Z0 (tIfS tt t u) (dIfS tt' t' u') := ⟨fun Z S H env σ D D' s0 re rl hh e =>
  hc.run Z S H env σ _ _ s0 re rl hh fun Z1 S1 H1 b s1 r1 hx => by
    by_cases hb : b = true
    · rw [if_pos hb] at hx ⊢
      exact h1.run Z1 S1 H1 env σ _ _ (s0.trans s1) (re.mono s1) r1 hx (e.mono s1)
    · rw [if_neg hb] at hx ⊢
      exact h2.run Z1 S1 H1 env σ _ _ (s0.trans s1) (re.mono s1) r1 hx (e.mono s1)⟩
def dNever : DS := fun _ _ _ => False
theorem ls_never : LS K Z0 tNever dNever := ⟨fun Z S H env σ D D' s0 re rl hh e => hh.elim⟩
def dAsg (te : DE) (g : DG) : DS := fun D env S => te env S fun x S1 => g x env S1 D.nx
theorem ls_asg {ws : List Nat} {g : TG} {g' : DG} (h : LE K Z0 te te') (hg : LG K Z0 ws g g') : LS K Z0 (tAsg te g) (dAsg te' g') := ⟨fun Z S H env σ D D' s0 re rl hh e =>
  h.run Z S H env σ _ _ s0 re rl hh fun Z1 S1 H1 d v s1 r1 p1 h1 => hg.run Z1 S1 H1 env σ _ _ _ _ (s0.trans s1) (re.mono s1) r1 p1 h1 fun Z2 S2 H2 env2 σ2 s2 re2 r2 _ => e.nx _ _ _ _ _ (s1.trans s2) re2 r2⟩
/-- a, b = x, y -/
def dPar (i j : Nat) (t : DA) : DS := fun D env S => t env S fun ds S1 => match ds with
  | [v, w] => D.nx ((env.set i (some v)).set j (some w)) S1
  | _ => False
theorem ls_par {i j : Nat} {ta : TA} {ta' : DA} (h : LA K Z0 ta ta') : LS K Z0 (tPar i j ta) (dPar i j ta') := ⟨fun Z S H env σ D D' s0 re rl hh e =>
  h.run Z S H env σ _ _ s0 re rl hh fun Z1 S1 H1 ds vs s1 r1 p1 h1 => by
    split at h1
    · obtain ⟨v, u, rfl, p, p2⟩ := two_of p1
      exact ⟨v, u, rfl, e.nx _ _ _ _ _ s1 (((re.mono s1).set p i).set p2 j) r1 h1⟩
    · exact h1.elim⟩
/-- x += e -/
def dAugI (f : Int → Int → Int) (i : Nat) (te : DE) : DS := fun D env S => match env[i]? with
  | some (some (.int a)) => te env S fun y S1 => (match y with
    | .int b => D.nx (env.set i (some (.int (f a b)))) S1
    | _ => False)
  | _ => False
theorem ls_augI {f : Int → Int → Int} {i : Nat} (h : LE K Z0 te te') : LS K Z0 (tAug i te (ipI f)) (dAugI f i te') := ⟨fun Z S H env σ D D' s0 re rl hh e => by
  unfold dAugI at hh
  split at hh
  · rename_i a ea
    obtain ⟨v, h1, h2⟩ := re.at_ i _ ea
    cases h2
    exact ⟨_, h1, h.run Z S H env σ _ _ s0 re rl hh fun Z1 S1 H1 d v s1 r1 p1 h1 => by
      cases p1 with
      | int b => exact ⟨a, b, rfl, rfl, e.nx _ _ _ _ _ s1 ((re.mono s1).set (.int _) i) r1 h1⟩
      | _ => exact h1.elim⟩
  · exact hh.elim⟩
/-- o.f = e, o an instance of the store -/
def dFldS (C : Addr) (f : Str) (to te : DE) : DS := fun D env S => te env S fun y S1 => to env S1 fun x S2 => match x with
  | .raw a => (match S2 a with
    | some (.ins C' fs) => C' = C ∧ fs.length < 1000 ∧ D.nx env (updS S2 a (.ins C' (putD f y fs)))
    | _ => False)
  | _ => False
theorem ls_fld {C : Addr} {f : Str} (hC : Cls K C) (hn : NoAttr K C f) (ho : LE K Z0 to_ to') (h : LE K Z0 te te') : LS K Z0 (sFld K to_ te f) (dFldS C f to' te') := ⟨fun Z S H env σ D D' s0 re rl hh e =>
  h.run Z S H env σ _ _ s0 re rl hh fun Z1 S1 H1 y vy s1 r1 p1 h1 => ho.run Z1 S1 H1 env σ _ _ (s0.trans s1) (re.mono s1) r1 h1 fun Z2 S2 H2 x vx s2 r2 p2 h2 => by
    split at h2
    · rename_i a
      cases p2
      split at h2
      · rename_i C' fs e2
        obtain ⟨rfl, hl, h2⟩ := h2
        obtain ⟨_, u, h3, dx, gs, e3, h4⟩ := r2.own a _ e2
        subst e3
        exact ⟨a, _, dx, gs, rfl, h3, hC, hn, by rw [← h4.length]; exact hl, e.nx _ _ _ _ _ (s1.trans s2) (re.mono (s1.trans s2)) (r2.write (o' := .ins _ (putD f y fs)) e2 ⟨dx, _, rfl, h4.put f (p1.mono s2)⟩) h2⟩
      · exact h2.elim
    · exact h2.elim⟩

/-! ### what is told otherwise: frozen, forgotten -/
/-- from the store S and the names' values env one may go on as if they were S2, env2 -/
def Gh (env : DEnv) (S : Sto) (env2 : DEnv) (S2 : Sto) : Prop := ∀ (K : PySem.W.Frag) (Z : Hp) (H : Hp) (σ : L2.St), RelE K Z env σ → Rel K Z S H → ∃ Z', Same Z Z' ∧ RelE K Z' env2 σ ∧ Rel K Z' S2 H
theorem Gh.refl {env : DEnv} {S : Sto} : Gh env S env S := fun _ Z _ _ re rl => ⟨Z, Same.refl Z, re, rl⟩
theorem Gh.trans {e1 e2 e3 : DEnv} {S1 S2 S3 : Sto} (a : Gh e1 S1 e2 S2) (b : Gh e2 S2 e3 S3) : Gh e1 S1 e3 S3 := fun K Z H σ re rl => by
  obtain ⟨Z1, s1, re1, r1⟩ := a K Z H σ re rl
  obtain ⟨Z2, s2, re2, r2⟩ := b K Z1 H σ re1 r1
  exact ⟨Z2, s1.trans s2, re2, r2⟩
theorem Gh.weak {env : DEnv} {S S2 : Sto} (h : ∀ b o, S2 b = some o → S b = some o) : Gh env S env S2 := fun K Z H σ re rl => ⟨Z, Same.refl Z, re, rl.weak h⟩
theorem RelE.frz {Z : Hp} {env : DEnv} {σ : L2.St} (re : RelE K Z env σ) {i : Nat} {d e : D} (hi : env[i]? = some (some d)) (h : ∀ v, Rep K Z d v → Rep K Z e v) : RelE K Z (env.set i (some e)) σ := by
  refine ⟨by rw [List.length_set, re.len], fun j f q => ?_⟩
  by_cases hj : i = j
  · subst hj
    obtain ⟨v, h1, h2⟩ := re.at_ i d hi
    have hl : i < env.length := (List.getElem?_eq_some_iff.mp hi).1
    rw [List.getElem?_set_self hl] at q
    cases q
    exact ⟨v, h1, h v h2⟩
  · rw [List.getElem?_set_ne hj] at q
    exact re.at_ j f q
/-- the list at a, which the name i holds, is frozen -/
theorem Gh.freeze {env : DEnv} {S : Sto} {i : Nat} {a : Addr} {ds : List D} (hi : env[i]? = some (some (.raw a))) (h : S a = some (.lst ds)) : Gh env S (env.set i (some (.lst ds))) (delS S a) := fun K Z H σ re rl => by
  obtain ⟨u, h1, ⟨xs, e, h2⟩, r2, s2⟩ := rl.freeze h
  subst e
  refine ⟨_, s2, (re.mono s2).frz hi fun v p => ?_, r2⟩
  cases p
  exact .lst upd_same (h2.mono s2)
theorem Gh.freezeI {env : DEnv} {S : Sto} {i : Nat} {a C : Addr} {fs : List (Str × D)} (hi : env[i]? = some (some (.raw a))) (h : S a = some (.ins C fs)) : Gh env S (env.set i (some (.ins C fs))) (delS S a) := fun K Z H σ re rl => by
  obtain ⟨u, h1, ⟨dx, xs, e, h2⟩, r2, s2⟩ := rl.freeze h
  subst e
  refine ⟨_, s2, (re.mono s2).frz hi fun v p => ?_, r2⟩
  cases p
  exact .ins upd_same (h2.mono s2)
/-- ahead of a block -/
def dGh (t : DS) : DS := fun D env S => ∃ env2 S2, Gh env S env2 S2 ∧ t D env2 S2
theorem ls_gh (h : LS K Z0 t t') : LS K Z0 t (dGh t') := ⟨fun Z S H env σ D D' s0 re rl hh e => by
  obtain ⟨env2, S2, g, hh⟩ := hh
  obtain ⟨Z1, s1, re1, r1⟩ := g K Z H σ re rl
  exact h.run Z1 S2 H env2 σ D D' (s0.trans s1) re1 r1 hh (e.mono s1)⟩
/-- what is handed back, told otherwise -/
def GhR (S : Sto) (d : D) (S2 : Sto) (d2 : D) : Prop := ∀ (K : PySem.W.Frag) (Z : Hp) (H : Hp) (v : V), Rep K Z d v → Rel K Z S H → ∃ Z', Same Z Z' ∧ Rep K Z' d2 v ∧ Rel K Z' S2 H
theorem GhR.refl {S : Sto} {d : D} : GhR S d S d := fun _ Z _ _ p r => ⟨Z, Same.refl Z, p, r⟩
theorem GhR.trans {S1 S2 S3 : Sto} {d1 d2 d3 : D} (a : GhR S1 d1 S2 d2) (b : GhR S2 d2 S3 d3) : GhR S1 d1 S3 d3 := fun K Z H v p r => by
  obtain ⟨Z1, s1, p1, r1⟩ := a K Z H v p r
  obtain ⟨Z2, s2, p2, r2⟩ := b K Z1 H v p1 r1
  exact ⟨Z2, s1.trans s2, p2, r2⟩
theorem GhR.weak {S S2 : Sto} {d : D} (h : ∀ b o, S2 b = some o → S b = some o) : GhR S d S2 d := fun K Z H v p r => ⟨Z, Same.refl Z, p, r.weak h⟩
theorem GhR.freeze {S : Sto} {a : Addr} {ds : List D} (h : S a = some (.lst ds)) : GhR S (.raw a) (delS S a) (.lst ds) := fun K Z H v p rl => by
  obtain ⟨u, h1, ⟨xs, e, h2⟩, r2, s2⟩ := rl.freeze h
  subst e
  cases p
  exact ⟨_, s2, .lst upd_same (h2.mono s2), r2⟩
def dRetG (ta : DE) : DS := fun D env S => ta env S fun d S1 => ∃ d2 S2, GhR S1 d S2 d2 ∧ D.rt d2 S2
theorem ls_retG (h : LE K Z0 ta ta') : LS K Z0 (tRet ta) (dRetG ta') := ⟨fun Z S H env σ D D' s0 re rl hh e =>
  h.run Z S H env σ _ _ s0 re rl hh fun Z1 S1 H1 d v s1 r1 p1 h1 => by
    obtain ⟨d2, S2, g, h1⟩ := h1
    obtain ⟨Z2, s2, p2, r2⟩ := g K Z1 H1 v p1 r1
    exact e.rt _ _ _ _ _ (s1.trans s2) r2 p2 h1⟩
/-- an expression's value told otherwise -/
def dGhE (ta : DE) : DE := fun env S Q => ta env S fun d S1 => ∃ d2 S2, GhR S1 d S2 d2 ∧ Q d2 S2
theorem le_gh (h : LE K Z0 ta ta') : LE K Z0 ta (dGhE ta') := ⟨fun Z S H env σ Q Q' s0 re rl hh q =>
  h.run Z S H env σ _ _ s0 re rl hh fun Z1 S1 H1 d v s1 r1 p1 h1 => by
    obtain ⟨d2, S2, g, h1⟩ := h1
    obtain ⟨Z2, s2, p2, r2⟩ := g K Z1 H1 v p1 r1
    exact q _ _ _ _ _ (s1.trans s2) r2 p2 h1⟩

/-! ### loops -/
def dWhile (c : DT) (tb : DS) : DS := fun D env S => ∃ P : Nat → DEnv → Sto → Prop, (∃ m, P m env S) ∧ ∀ m env S, P m env S →
  c env S fun b S1 => if b = true then tb { D with nx := fun e s => ∃ m', m' < m ∧ P m' e s, ct := fun e s => ∃ m', m' < m ∧ P m' e s, bk := D.nx } env S1 else D.nx env S1
theorem ls_while (hc : LT K Z0 tt tt') (hb : LS K Z0 t t') : LS K Z0 (tWhile tt t) (dWhile tt' t') := ⟨fun Z S H env σ D D' s0 re rl hh e => by
  obtain ⟨P, ⟨m0, p0⟩, turn⟩ := hh
  refine ⟨fun m σ H => ∃ Z' S env, Same Z Z' ∧ RelE K Z' env σ ∧ Rel K Z' S H ∧ P m env S, ⟨m0, Z, S, env, Same.refl Z, re, rl, p0⟩, ?_⟩
  rintro m σ1 H1 ⟨Z1, S1, env1, s1, re1, r1, p1⟩
  refine hc.run Z1 S1 H1 env1 σ1 _ _ (s0.trans s1) re1 r1 (turn m env1 S1 p1) fun Z2 S2 H2 b s2 r2 hx => ?_
  by_cases hb' : b = true
  · rw [if_pos hb'] at hx ⊢
    refine ⟨fun σ' H' => ∃ Z' S env m', m' < m ∧ Same Z Z' ∧ RelE K Z' env σ' ∧ Rel K Z' S H' ∧ P m' env S, fun σ' H' ⟨Z', S, env, m', hm, s', re', r', p'⟩ => ⟨m', hm, Z', S, env, s', re', r', p'⟩, ?_⟩
    refine hb.run Z2 S2 H2 env1 σ1 _ _ (s0.trans (s1.trans s2)) (re1.mono s2) r2 hx ⟨fun Z3 S3 H3 env3 σ3 s3 re3 r3 p3 => ?_, fun Z3 S3 H3 d v s3 => e.rt Z3 S3 H3 d v ((s1.trans s2).trans s3),
      fun Z3 S3 H3 env3 σ3 s3 => e.nx Z3 S3 H3 env3 σ3 ((s1.trans s2).trans s3), fun Z3 S3 H3 env3 σ3 s3 re3 r3 p3 => ?_⟩
    all_goals
      obtain ⟨m', hm, p3⟩ := p3
      exact ⟨Z3, S3, env3, m', hm, (s1.trans s2).trans s3, re3, r3, p3⟩
  · rw [if_neg hb'] at hx ⊢
    exact e.nx _ _ _ _ _ (s1.trans s2) (re1.mono s2) r2 hx⟩
/-- a walk of these items, while G holds of the store -/
structure WalkD (K : PySem.W.Frag) (Z : Hp) (J : It) (items : List D) (G : Sto → Prop) : Prop where
  goes : ∀ Z' S H i, Same Z Z' → Rel K Z' S H → G S → i < items.length → J.go i H
  stops : ∀ Z' S H, Same Z Z' → Rel K Z' S H → G S → J.stop items.length H
  yields : ∀ Z' S H i x H', Same Z Z' → Rel K Z' S H → G S → i < items.length → J.yld i H x H' → ∃ Z3 d, Same Z' Z3 ∧ Rel K Z3 S H' ∧ items[i]? = some d ∧ Rep K Z3 d x
abbrev DI := DEnv → Sto → (List D → (Sto → Prop) → Sto → Prop) → Prop
structure LI (K : PySem.W.Frag) (Z0 : Hp) (t : TI) (t' : DI) : Prop where
  run : ∀ (Z : Hp) (S : Sto) (H : Hp) (env : DEnv) (σ : L2.St) (R : It → Hp → Prop) (R' : List D → (Sto → Prop) → Sto → Prop), Same Z0 Z → RelE K Z env σ → Rel K Z S H → t' env S R' →
    (∀ (Z' : Hp) (S' : Sto) (H' : Hp) (J : It) (items : List D) (G : Sto → Prop), Same Z Z' → Rel K Z' S' H' → WalkD K Z' J items G → R' items G S' → R J H') → t σ H R
def dFor (wi : DI) (g : DG) (tb : DS) : DS := fun D env S => wi env S fun items G S1 => ∃ P : Nat → DEnv → Sto → Prop, P 0 env S1 ∧ (∀ i env S, P i env S → G S) ∧
  (∀ i x env S, items[i]? = some x → P i env S → g x env S fun env2 S2 => tb { D with nx := P (i + 1), ct := P (i + 1), bk := D.nx } env2 S2) ∧ (∀ env S, P items.length env S → D.nx env S)
theorem ls_for {wi : TI} {wi' : DI} {ws : List Nat} {g : TG} {g' : DG} (hi : LI K Z0 wi wi') (hg : LG K Z0 ws g g') (hb : LS K Z0 t t') : LS K Z0 (tFor wi g t) (dFor wi' g' t') := ⟨fun Z S H env σ D D' s0 re rl hh e => by
  refine hi.run Z S H env σ _ _ s0 re rl hh fun Z1 S1 H1 J items G s1 r1 wk hx => ?_
  obtain ⟨P, p0, pG, turn, done⟩ := hx
  refine ⟨fun i m σ H => i ≤ items.length ∧ m = items.length - i ∧ ∃ Z' S env, Same Z1 Z' ∧ RelE K Z' env σ ∧ Rel K Z' S H ∧ P i env S, ⟨items.length, Nat.zero_le _, rfl, Z1, S1, env, Same.refl _, re.mono s1, r1, p0⟩, ?_⟩
  rintro i m σ2 H2 ⟨hi, rfl, Z2, S2, env2, s2, re2, r2, p2⟩
  by_cases hlt : i < items.length
  · refine .inr ⟨wk.goes Z2 S2 H2 i s2 r2 (pG i env2 S2 p2) hlt, fun σ' H' => ∃ Z' S env, Same Z1 Z' ∧ RelE K Z' env σ' ∧ Rel K Z' S H' ∧ P (i + 1) env S, fun σ' H' ⟨Z', S, env, s', re', r', p'⟩ => ⟨items.length - (i + 1), by omega, hlt, rfl, Z', S, env, s', re', r', p'⟩, fun x H' y => ?_⟩
    obtain ⟨Z3, d, s3, r3, e3, q3⟩ := wk.yields Z2 S2 H2 i x H' s2 r2 (pG i env2 S2 p2) hlt y
    refine hg.run Z3 S2 H' env2 σ2 d x _ _ ((s0.trans s1).trans (s2.trans s3)) (re2.mono s3) r3 q3 (turn i d env2 S2 e3 p2) fun Z4 S4 H4 env4 σ4 s4 re4 r4 _ h4 => ?_
    have sT := (s2.trans s3).trans s4
    exact hb.run Z4 S4 H4 env4 σ4 _ _ ((s0.trans s1).trans sT) re4 r4 h4 ⟨fun Z5 S5 H5 env5 σ5 s5 re5 r5 p5 => ⟨Z5, S5, env5, sT.trans s5, re5, r5, p5⟩, fun Z5 S5 H5 d v s5 => e.rt Z5 S5 H5 d v ((s1.trans sT).trans s5),
      fun Z5 S5 H5 env5 σ5 s5 => e.nx Z5 S5 H5 env5 σ5 ((s1.trans sT).trans s5), fun Z5 S5 H5 env5 σ5 s5 re5 r5 p5 => ⟨Z5, S5, env5, sT.trans s5, re5, r5, p5⟩⟩
  · have ei : i = items.length := by omega
    subst ei
    exact .inl ⟨wk.stops Z2 S2 H2 s2 r2 (pG _ env2 S2 p2), e.nx _ _ _ _ _ (s1.trans s2) re2 r2 (done env2 S2 p2)⟩⟩
/-- over a list or a tuple -/
def diSeq (te : DE) : DI := fun env S R => te env S fun x S1 => match x with
  | .raw a => (match S1 a with
    | some (.lst ds) => R ds (fun S => S a = some (.lst ds)) S1
    | _ => False)
  | x => (match asQ S1 x with
    | some ds => R ds (fun _ => True) S1
    | none => False)
theorem Rel.lock {Z : Hp} {S : Sto} {H : Hp} (r : Rel K Z S H) {a : Addr} {ds : List D} (e : S a = some (.lst ds)) : ∃ xs, H a = some (.lst xs) ∧ Reps K Z ds xs := by
  obtain ⟨_, u, h1, xs, e2, h2⟩ := r.own a _ e
  subst e2
  exact ⟨xs, h1, h2⟩
theorem wd_list {Z : Hp} {a : Addr} {xs : List V} {ds : List D} (h : Z a = some (.lst xs)) (p : Reps K Z ds xs) : WalkD K Z (Itl K a) ds (fun _ => True) := by
  have w : Walk (Itl K a) xs.length (fun H => SqL K H a xs) (YAt xs) := walk_list
  refine ⟨fun Z' S H i s r _ hi => w.goes i H (by rw [← p.length]; exact hi) (.of (r.sub _ _ (s _ _ h))), fun Z' S H s r _ => by rw [p.length]; exact w.stops H (.of (r.sub _ _ (s _ _ h))), fun Z' S H i x H' s r _ hi y => ?_⟩
  obtain ⟨e, hx⟩ := w.yields i H x H' (by rw [← p.length]; exact hi) (.of (r.sub _ _ (s _ _ h))) y
  subst e
  obtain ⟨d, e1, e2⟩ := p.get hx
  exact ⟨Z', d, Same.refl _, r, e1, e2.mono s⟩
theorem wd_tup {Z : Hp} {a : Addr} {xs : List V} {ds : List D} (h : SqT K Z a xs) (p : Reps K Z ds xs) : WalkD K Z (Itt K a) ds (fun _ => True) := by
  have w : Walk (Itt K a) xs.length (fun H => SqT K H a xs) (YAt xs) := walk_tup
  refine ⟨fun Z' S H i s r _ hi => w.goes i H (by rw [← p.length]; exact hi) (Same.sqt r.sub (Same.sqt s h)), fun Z' S H s r _ => by rw [p.length]; exact w.stops H (Same.sqt r.sub (Same.sqt s h)), fun Z' S H i x H' s r _ hi y => ?_⟩
  obtain ⟨e, hx⟩ := w.yields i H x H' (by rw [← p.length]; exact hi) (Same.sqt r.sub (Same.sqt s h)) y
  subst e
  obtain ⟨d, e1, e2⟩ := p.get hx
  exact ⟨Z', d, Same.refl _, r, e1, e2.mono s⟩
theorem wd_listS {Z : Hp} {a : Addr} {ds : List D} : WalkD K Z (Itl K a) ds (fun S => S a = some (.lst ds)) := by
  refine ⟨fun Z' S H i s r g hi => ?_, fun Z' S H s r g => ?_, fun Z' S H i x H' s r g hi y => ?_⟩
  all_goals obtain ⟨xs, h, p⟩ := r.lock g
  · exact (walk_list (xs := xs)).goes i H (by rw [← p.length]; exact hi) (.of h)
  · rw [p.length]; exact (walk_list (xs := xs)).stops H (.of h)
  · obtain ⟨e, hx⟩ := (walk_list (xs := xs)).yields i H x H' (by rw [← p.length]; exact hi) (.of h) y
    subst e
    obtain ⟨d, e1, e2⟩ := p.get hx
    exact ⟨Z', d, Same.refl _, r, e1, e2⟩
theorem li_seq (h : LE K Z0 te te') : LI K Z0 (iSeq K te) (diSeq te') := ⟨fun Z S H env σ R R' s0 re rl hh q =>
  h.run Z S H env σ _ _ s0 re rl hh fun Z1 S1 H1 d v s1 r1 p1 h1 => by
    by_cases hr : ∃ a, d = .raw a
    · obtain ⟨a, rfl⟩ := hr
      cases p1
      have h1' : (match S1 a with
        | some (.lst ds) => R' ds (fun S => S a = some (.lst ds)) S1
        | _ => False) := h1
      split at h1'
      · rename_i ds e
        obtain ⟨xs, h2, p⟩ := r1.lock e
        exact ⟨a, rfl, .inl ⟨⟨xs, .of h2⟩, q _ _ _ _ _ _ s1 r1 wd_listS h1'⟩⟩
      · exact h1'.elim
    · have h1' : (match asQ S1 d with
        | some ds => R' ds (fun _ => True) S1
        | none => False) := by
        cases d with
        | raw a => exact absurd ⟨a, rfl⟩ hr
        | _ => exact h1
      cases p1 with
      | tup h2 h3 => exact ⟨_, rfl, .inr ⟨⟨_, Same.sqt r1.sub h2⟩, q _ _ _ _ _ _ s1 r1 (wd_tup h2 h3) h1'⟩⟩
      | lst h2 h3 => exact ⟨_, rfl, .inl ⟨⟨_, .of (r1.sub _ _ h2)⟩, q _ _ _ _ _ _ s1 r1 (wd_list h2 h3) h1'⟩⟩
      | raw a => exact absurd ⟨a, rfl⟩ hr
      | _ => exact h1'.elim⟩
/-- lo, lo + 1, .. -/
def rngD (lo : Int) (n : Nat) : List D := (List.range n).map fun i => .int (lo + (i : Nat))
theorem rngD_len (lo : Int) (n : Nat) : (rngD lo n).length = n := by unfold rngD; rw [List.length_map, List.length_range]
theorem rngD_get {lo : Int} {n i : Nat} {d : D} : (rngD lo n)[i]? = some d ↔ i < n ∧ d = .int (lo + (i : Nat)) := by
  unfold rngD
  rw [List.getElem?_map]
  by_cases h : i < n
  · rw [List.getElem?_range h]
    simp [h, eq_comm]
  · rw [List.getElem?_eq_none (by rw [List.length_range]; omega)]
    simp [h]
theorem wd_range {Z : Hp} {lo : Int} {n : Nat} : WalkD K Z (Itr lo n) (rngD lo n) (fun _ => True) := by
  refine ⟨fun Z' S H i s r _ hi => by rw [rngD_len] at hi; exact hi, fun Z' S H s r _ => by rw [rngD_len]; exact Nat.le_refl _, fun Z' S H i x H' s r _ hi y => ?_⟩
  rw [rngD_len] at hi
  obtain ⟨rfl, rfl⟩ := y
  exact ⟨Z', _, Same.refl _, r, rngD_get.mpr ⟨hi, rfl⟩, .int _⟩
variable {ar : TA} {ar' : DA}
def diRng1 (t : DA) : DI := fun env S R => t env S fun ds S1 => match ds with
  | [.int j] => -(2 ^ 62) ≤ j ∧ j < 2 ^ 62 ∧ R (rngD 0 j.toNat) (fun _ => True) S1
  | _ => False
def diRng2 (t : DA) : DI := fun env S R => t env S fun ds S1 => match ds with
  | [.int i, .int j] => (-(2 ^ 62) ≤ i ∧ i < 2 ^ 62 ∧ -(2 ^ 62) ≤ j ∧ j < 2 ^ 62) ∧ R (rngD i (j - i).toNat) (fun _ => True) S1
  | _ => False
theorem li_rng1 (h : LA K Z0 ar ar') : LI K Z0 (iRng1 ar) (diRng1 ar') := ⟨fun Z S H env σ R R' s0 re rl hh q =>
  h.run Z S H env σ _ _ s0 re rl hh fun Z1 S1 H1 ds vs s1 r1 p1 h1 => by
    split at h1
    · obtain ⟨v, rfl, p⟩ := one_of p1
      cases p
      exact ⟨_, rfl, h1.1, h1.2.1, q _ _ _ _ _ _ s1 r1 wd_range h1.2.2⟩
    · exact h1.elim⟩
theorem li_rng2 (h : LA K Z0 ar ar') : LI K Z0 (iRng2 ar) (diRng2 ar') := ⟨fun Z S H env σ R R' s0 re rl hh q =>
  h.run Z S H env σ _ _ s0 re rl hh fun Z1 S1 H1 ds vs s1 r1 p1 h1 => by
    split at h1
    · obtain ⟨v, u, rfl, p, p2⟩ := two_of p1
      cases p; cases p2
      exact ⟨_, _, rfl, h1.1, q _ _ _ _ _ _ s1 r1 wd_range h1.2⟩
    · exact h1.elim⟩
/-- (0, x0), (1, x1), .. -/
def enumD (ds : List D) : List D := ds.zipIdx.map fun p => .tup [.int (p.2 : Nat), p.1]
theorem enumD_len (ds : List D) : (enumD ds).length = ds.length := by unfold enumD; rw [List.length_map, List.length_zipIdx]
theorem enumD_get {ds : List D} {i : Nat} {d : D} : (enumD ds)[i]? = some d ↔ ∃ x, ds[i]? = some x ∧ d = .tup [.int (i : Nat), x] := by
  unfold enumD
  rw [List.getElem?_map, List.getElem?_zipIdx]
  cases h : ds[i]? with
  | none => simp
  | some x => simp [eq_comm]
theorem wd_pair {Z : Hp} {J : It} {items : List D} {G : Sto → Prop} (w : ∀ Z' S H, Same Z Z' → Rel K Z' S H → G S → ∃ Gv xs ys, Walk J items.length Gv (YPair xs ys) ∧ Gv H ∧ ∀ i x y, xs i = some x → ys i = some y → ∃ d e, items[i]? = some (.tup [d, e]) ∧ Rep K Z' d x ∧ Rep K Z' e y) :
    WalkD K Z J items G := by
  refine ⟨fun Z' S H i s r g hi => ?_, fun Z' S H s r g => ?_, fun Z' S H i x H' s r g hi y => ?_⟩
  all_goals obtain ⟨Gv, xs, ys, wk, gv, it⟩ := w Z' S H s r g
  · exact wk.goes i H hi gv
  · exact wk.stops H gv
  · obtain ⟨T, x1, y1, rfl, hT, rfl, e1, e2⟩ := wk.yields i H x H' hi gv y
    obtain ⟨d, e, e3, p1, p2⟩ := it i x1 y1 e1 e2
    obtain ⟨r2, s2⟩ := r.laid (o := .tup [x1, y1]) hT
    exact ⟨_, _, s2, r2, e3, .tup (.of upd_same) (.cons (p1.mono s2) (.cons (p2.mono s2) .nil))⟩
def diEnum (t : DA) : DI := fun env S R => t env S fun ds S1 => match ds with
  | [.raw a] => (match S1 a with
    | some (.lst es) => R (enumD es) (fun S => S a = some (.lst es)) S1
    | _ => False)
  | [x] => (match asQ S1 x with
    | some es => R (enumD es) (fun _ => True) S1
    | none => False)
  | _ => False
theorem enum_items {Z : Hp} {ds : List D} {xs : List V} (p : Reps K Z ds xs) : ∀ (i : Nat) (x y : V), (fun i : Nat => some (V.int (i : Nat))) i = some x → xs[i]? = some y → ∃ d e, (enumD ds)[i]? = some (.tup [d, e]) ∧ Rep K Z d x ∧ Rep K Z e y := fun i x y e1 e2 => by
  obtain ⟨d, h1, h2⟩ := p.get e2
  cases e1
  exact ⟨_, d, enumD_get.mpr ⟨d, h1, rfl⟩, .int _, h2⟩
theorem li_enum (h : LA K Z0 ar ar') : LI K Z0 (iEnumA K ar) (diEnum ar') := ⟨fun Z S H env σ R R' s0 re rl hh q =>
  h.run Z S H env σ _ _ s0 re rl hh fun Z1 S1 H1 ds vs s1 r1 p1 h1 => by
    split at h1
    · rename_i a
      obtain ⟨v, rfl, p⟩ := one_of p1
      cases p
      split at h1
      · rename_i es e
        obtain ⟨xs, h2, p⟩ := r1.lock e
        refine ⟨a, rfl, .inl ⟨xs, .of h2, q _ _ _ _ _ _ s1 r1 (wd_pair fun Z' S H s r g => ?_) h1⟩⟩
        obtain ⟨xs, h2, p⟩ := r.lock g
        exact ⟨_, _, _, by rw [enumD_len, p.length]; exact walk_enum, SqL.of h2, enum_items p⟩
      · exact h1.elim
    · rename_i x hx
      obtain ⟨v, rfl, p⟩ := one_of p1
      split at h1
      · rename_i es e
        cases p with
        | @tup a xs ds h2 h3 =>
          cases e
          refine ⟨a, rfl, .inr ⟨xs, Same.sqt r1.sub h2, q _ _ _ _ _ _ s1 r1 (wd_pair fun Z' S H s r g => ?_) h1⟩⟩
          exact ⟨_, _, _, by rw [enumD_len, h3.length]; exact walk_enumT, Same.sqt r.sub (Same.sqt s h2), enum_items (h3.mono s)⟩
        | @lst a xs ds h2 h3 =>
          cases e
          refine ⟨a, rfl, .inl ⟨xs, .of (r1.sub _ _ h2), q _ _ _ _ _ _ s1 r1 (wd_pair fun Z' S H s r g => ?_) h1⟩⟩
          exact ⟨_, _, _, by rw [enumD_len, h3.length]; exact walk_enum, SqL.of (r.sub _ _ (s _ _ h2)), enum_items (h3.mono s)⟩
        | raw a => exact absurd rfl (hx a)
        | _ => cases e
      · exact h1.elim
    · exact h1.elim⟩
end
end DL
end

section
set_option Elab.async false
set_option linter.all false
set_option autoImplicit false
set_option maxRecDepth 100000
set_option maxHeartbeats 2000000
/-! DL7: comprehensions; defs and their calls; exceptions raised and caught. -/
namespace DL
open PySem PySem.Spec PyProof.Rows L2

section
variable {K : PySem.W.Frag} {Z0 : Hp} {ta tb tc te to_ : TE} {ta' tb' tc' te' to' : DE} {tt : TT} {tt' : DT} {t u : TS} {t' u' : DS} {ar : TA} {ar' : DA}
/-! ### comprehensions: what comes is frozen -/
def wipeD (env : DEnv) : List Nat → DEnv
  | [] => env
  | v :: vs => (wipeD env vs).set v none
theorem RelE.wipe {Z : Hp} {env : DEnv} {σ : L2.St} (re : RelE K Z env σ) : ∀ vs : List Nat, RelE K Z (wipeD env vs) (L2.wipe σ vs)
  | [] => re
  | v :: vs => (RelE.wipe re vs).setN v none
/-- P: by the turn, what has been made, the store; at the new list's address (Dd) the store bears o meanwhile -/
def dLc (wi : DI) (g : DG) (tt : DT) (te : DE) (vs : List Nat) : DE := fun env S Q => wi env S fun items G S1 => ∃ P : Nat → List D → Sto → Prop, P 0 [] S1 ∧ (∀ i acc S Dd o, P i acc S → S Dd = none → G (updS S Dd o)) ∧
  (∀ i x acc S Dd o, items[i]? = some x → P i acc S → S Dd = none → g x (wipeD env vs) (updS S Dd o) fun env2 S2 => tt env2 S2 fun b S3 =>
    if b = true then te env2 S3 fun y S4 => acc.length < sizeLine ∧ S4 Dd = some o ∧ P (i + 1) (acc ++ [y]) (delS S4 Dd) else S3 Dd = some o ∧ P (i + 1) acc (delS S3 Dd)) ∧
  (∀ acc S, P items.length acc S → Q (.lst acc) S)
theorem Rel.del {Z : Hp} {S : Sto} {H : Hp} (r : Rel K Z S H) (a : Addr) : Rel K Z (delS S a) H := r.weak fun b o e => by
  by_cases hb : b = a
  · subst hb; rw [delS_same] at e; cases e
  · rw [delS_ne hb] at e; exact e
theorem wipe_sub {ws : List Nat} : ∀ (vs : List Nat) (τ : L2.St), (∀ v ∈ vs, v ∈ ws) → L2.wipe (L2.wipe τ vs) ws = L2.wipe τ ws
  | [], _, _ => rfl
  | v :: vs, τ, h => by
    show L2.wipe ((L2.wipe τ vs).set v none) ws = _
    rw [wipe_set (h v List.mem_cons_self), wipe_sub vs τ fun w hw => h w (List.mem_cons_of_mem _ hw)]
theorem le_lc {wi : TI} {wi' : DI} {g : TG} {g' : DG} {vs : List Nat} (hi : LI K Z0 wi wi') (hg : LG K Z0 vs g g') (ht : LT K Z0 tt tt') (he : LE K Z0 te te') : LE K Z0 (tLc wi g tt te vs) (dLc wi' g' tt' te' vs) := ⟨fun Z S H env σ Q Q' s0 re rl hh q => by
  refine hi.run Z S H env σ _ _ s0 re rl hh fun Z1 S1 H1 J items G s1 r1 wk hx => ?_
  obtain ⟨P, p0, pG, turn, done⟩ := hx
  intro Da hD
  have fixed : ∀ (xs : List V), ∃ o : O, ∀ Z u, RepO K Z o u ↔ u = .lst xs := fun xs => ⟨.abs ⟨fun _ u => u = .lst xs, fun _ _ _ _ h => h⟩, fun Z u => Iff.rfl⟩
  refine ⟨fun i m H => i ≤ items.length ∧ m = items.length - i ∧ ∃ Z' S acc us, Same Z1 Z' ∧ Rel K Z' S H ∧ S Da = none ∧ Z' Da = none ∧ H Da = some (.lst us) ∧ Reps K Z' acc us ∧ P i acc S, ?_, ?_⟩
  · obtain ⟨r2, n2⟩ := r1.new (o := .lst []) (u := .lst []) hD ⟨[], rfl, .nil⟩
    have r3 := r2.del Da
    rw [delS_upd n2] at r3
    exact ⟨items.length, Nat.zero_le _, rfl, Z1, S1, [], [], Same.refl _, r3, n2, r1.sub.free hD, upd_same, .nil, p0⟩
  · rintro i m H2 ⟨hi', rfl, Z2, S2, acc, us, s2, r2, nS, nZ, hDa, pa, p2⟩
    obtain ⟨o, ho⟩ := fixed us
    have r2' : Rel K Z2 (updS S2 Da o) H2 := by
      refine ⟨r2.sub, fun b w e => ?_⟩
      by_cases hb : b = Da
      · subst hb; rw [updS_same] at e; cases e; exact ⟨nZ, _, hDa, (ho _ _).mpr rfl⟩
      · rw [updS_ne hb] at e; exact r2.own b w e
    by_cases hlt : i < items.length
    · refine .inr ⟨wk.goes Z2 _ H2 i s2 r2' (pG i acc S2 Da o p2 nS) hlt, fun H' => ∃ Z' S acc us, Same Z1 Z' ∧ Rel K Z' S H' ∧ S Da = none ∧ Z' Da = none ∧ H' Da = some (.lst us) ∧ Reps K Z' acc us ∧ P (i + 1) acc S,
        fun H' ⟨Z', S, acc, us, z1, z2, z3, z4, z5, z6, z7⟩ => ⟨items.length - (i + 1), by omega, hlt, rfl, Z', S, acc, us, z1, z2, z3, z4, z5, z6, z7⟩, fun x H' y => ?_⟩
      obtain ⟨Z3, d, s3, r3', e3, q3⟩ := wk.yields Z2 _ H2 i x H' s2 r2' (pG i acc S2 Da o p2 nS) hlt y
      have s02 := (s0.trans s1).trans s2
      refine hg.run Z3 (updS S2 Da o) H' (wipeD env vs) (L2.wipe σ vs) d x _ _ (s02.trans s3) (((re.mono ((s1.trans s2).trans s3))).wipe vs) r3' q3 (turn i d acc S2 Da o e3 p2 nS) fun Z4 S4 H4 env4 σ4 s4 re4 r4 w4 h4 => ⟨?_, ?_⟩
      · rw [w4, wipe_sub vs σ fun _ h => h]
      · refine ht.run Z4 S4 H4 env4 σ4 _ _ ((s02.trans s3).trans s4) re4 r4 h4 fun Z5 S5 H5 b s5 r5 h5 => ?_
        have sT := ((s2.trans s3).trans s4).trans s5
        by_cases hb : b = true
        · rw [if_pos hb] at h5 ⊢
          refine he.run Z5 S5 H5 env4 σ4 _ _ (((s02.trans s3).trans s4).trans s5) (re4.mono s5) r5 h5 fun Z6 S6 H6 e v s6 r6 p6 h6 => ?_
          obtain ⟨hl, e6, h6⟩ := h6
          obtain ⟨n6, w6, h7, h8⟩ := r6.own Da o e6
          have e7 := (ho _ _).mp h8
          subst e7
          have sU := ((s3.trans s4).trans s5).trans s6
          refine ⟨us, h7, by rw [← pa.length]; exact hl, Z6, delS S6 Da, acc ++ [e], us ++ [v], s2.trans sU, ?_, delS_same, n6, upd_same, (pa.mono sU).append (.cons p6 .nil), h6⟩
          have r7 := (r6.write (o' := .lst (acc ++ [e])) (u := .lst (us ++ [v])) e6 ⟨_, rfl, (pa.mono sU).append (.cons p6 .nil)⟩).del Da
          have e8 : delS (updS S6 Da (.lst (acc ++ [e]))) Da = delS S6 Da := by
            funext b; unfold delS updS; split <;> rfl
          rw [e8] at r7
          exact r7
        · rw [if_neg hb] at h5 ⊢
          obtain ⟨e6, h6⟩ := h5
          obtain ⟨n6, w6, h7, h8⟩ := r5.own Da o e6
          have e7 := (ho _ _).mp h8
          subst e7
          exact ⟨Z5, delS S5 Da, acc, us, sT, r5.del Da, delS_same, n6, h7, pa.mono ((s3.trans s4).trans s5), h6⟩
    · have ei : i = items.length := by omega
      subst ei
      refine .inl ⟨wk.stops Z2 _ H2 s2 r2' (pG _ acc S2 Da o p2 nS), ?_⟩
      have r2' : Rel K Z2 (updS S2 Da (.lst acc)) H2 := by
        refine ⟨r2.sub, fun b w e => ?_⟩
        by_cases hb : b = Da
        · subst hb; rw [updS_same] at e; cases e; exact ⟨nZ, _, hDa, us, rfl, pa⟩
        · rw [updS_ne hb] at e; exact r2.own b w e
      obtain ⟨u, h1, ⟨xs, e, h2⟩, r3, s3⟩ := r2'.freeze updS_same
      subst e
      rw [delS_upd nS] at r3
      exact q _ _ _ _ _ ((s1.trans s2).trans s3) r3 (.lst upd_same (h2.mono s3)) (done acc S2 p2)⟩

/-! ### defs -/
/-- an exception: its class, its fields -/
abbrev DX := Addr → List (Str × D) → Sto → Prop
/-- what a def does with its arguments and the store: what it hands back, what it raises -/
abbrev DF := List D → Sto → DV → DX → Prop
/-- the fields of an exception, in its dict d -/
def XR (K : PySem.W.Frag) (Z : Hp) (fs : List (Str × D)) (d : Option Addr) : Prop := (d = none ∧ fs = []) ∨ ∃ dd gs, d = some dd ∧ Z dd = some (.xd gs) ∧ RepF K Z fs gs
def spD (K : PySem.W.Frag) (F : DF) : Sp := fun vs H Q E => ∃ (Z : Hp) (S : Sto) (ds : List D) (Q' : DV) (E' : DX), Rel K Z S H ∧ Reps K Z ds vs ∧ F ds S Q' E' ∧
  (∀ (Z' : Hp) (S' : Sto) (H' : Hp) (d : D) (v : V), Same Z Z' → Rel K Z' S' H' → Rep K Z' d v → Q' d S' → Q v H') ∧
  (∀ (Z' : Hp) (S' : Sto) (H' : Hp) (C : Addr) (fs : List (Str × D)) (d : Option Addr), Same Z Z' → Rel K Z' S' H' → XR K Z' fs d → E' C fs S' → E (.ref C) d H')
/-- what is wished of exceptions in a body: by the class, the fields, the names, the store -/
abbrev DW := Addr → List (Str × D) → DEnv → Sto → Prop
structure RW (K : PySem.W.Frag) (Z0 : Hp) (W : WX) (W' : DW) : Prop where
  run : ∀ (Z : Hp) (S : Sto) (H : Hp) (env : DEnv) (σ : L2.St) (C : Addr) (fs : List (Str × D)) (d : Option Addr), Same Z0 Z → RelE K Z env σ → Rel K Z S H → XR K Z fs d → W' C fs env S → W (.ref C) d σ H
def dCall (F : DF) (dvs : List D) (W' : DW) (t : DA) : DE := fun env S Q => t env S fun ds S1 => F (ds ++ dvs) S1 Q (fun C fs S' => W' C fs env S')
theorem le_call {F : DF} {W : WX} {W' : DW} {dvs : List V} {dds : List D} (hd : ∀ Z, Reps K Z dds dvs) (rw' : RW K Z0 W W') (h : LA K Z0 ar ar') : LE K Z0 (tCallSD (spD K F) dvs (WE W) ar) (dCall F dds W' ar') := ⟨fun Z S H env σ Q Q' s0 re rl hh q =>
  h.run Z S H env σ _ _ s0 re rl hh fun Z1 S1 H1 ds vs s1 r1 p1 h1 => ⟨Z1, S1, ds ++ dds, _, _, r1, p1.append (hd Z1), h1, fun Z2 S2 H2 d v s2 => q Z2 S2 H2 d v (s1.trans s2),
    fun Z2 S2 H2 C fs d s2 r2 x2 w2 => rw'.run Z2 S2 H2 env σ C fs d ((s0.trans s1).trans s2) (re.mono (s1.trans s2)) r2 x2 w2⟩⟩
/-- a def that is known: it may be called by its name -/
structure FnD (P : Program) (w : World) (K : PySem.W.Frag) (mg : Str → Option Value) (base : Heap) (k : Nat) (x : Str) (F : DF) (dds : List D) : Prop where
  ex : ∃ (f : Addr) (fd : FuncData) (ps : List Str) (dvs : List V) (ds : List Value), FnOk P w K mg base (L2.CX P w) k f fd ps (spD K F) ∧ mg x = some (.ref f) ∧ PySem.W.keepIn K (.ref f) = true ∧ Binds K fd ps ds ∧ Vals dvs ds ∧ ∀ Z, Reps K Z dds dvs
/-- the start of a body -/
def startD (N : List Str) (ds : List D) : DEnv := ds.map some ++ List.replicate (N.length - ds.length) none
end
end DL
end

section
set_option Elab.async false
set_option linter.all false
set_option autoImplicit false
set_option maxRecDepth 100000
set_option maxHeartbeats 2000000
/-! DL8: the judgements, over families of contexts (a body; a comprehension's block in it; a try's body in it), and their rules. -/
namespace DL
open PySem PySem.Spec PyProof.Rows L2

/-- where a text stands: what is wished of exceptions; inside an except suite the exception's address, class and dict -/
structure HCtx where
  W : WX
  a : Addr
  cls : Value
  d : Option Addr
/-- the same, as data -/
structure DCtx where
  w : DW
  ex : Option (Addr × Addr × List (Str × D))
structure RC (K : PySem.W.Frag) (Z : Hp) (h : HCtx) (c : DCtx) : Prop where
  w : RW K Z h.W c.w
  ex : ∀ (a C : Addr) (fs : List (Str × D)), c.ex = some (a, C, fs) → h.a = a ∧ h.cls = .ref C ∧ XR K Z fs h.d
/-- a family of contexts -/
structure Fm where
  ι : Type
  X : ι → Cx
  ok : ι → HCtx → Prop
  tk : ∀ i h, ok i h → Takes (X i) h.W
/-- contexts of one program -/
class Fam (F : Fm) (P : outParam Program) (w : outParam World) (K : outParam PySem.W.Frag) (mg : outParam (Str → Option Value)) (base : outParam Heap) : Prop where
  prog : ∀ i, (F.X i).prog = P
  w : ∀ i, (F.X i).w = w
  k : ∀ i, (F.X i).K = K
  mg : ∀ i, (F.X i).mg = mg
  base : ∀ i, (F.X i).base = base
section
variable (F : Fm) (K : PySem.W.Frag)
structure PD (e : Expr) (t' : DCtx → DE) : Prop where
  ex : ∃ t : HCtx → TE, (∀ i h, F.ok i h → PE (F.X i) e (t h)) ∧ ∀ Z0 h c, RC K Z0 h c → LE K Z0 (t h) (t' c)
structure PDT (e : Expr) (t' : DCtx → DT) : Prop where
  ex : ∃ t : HCtx → TT, (∀ i h, F.ok i h → PT (F.X i) e (t h)) ∧ ∀ Z0 h c, RC K Z0 h c → LT K Z0 (t h) (t' c)
structure PDW (e : Expr) (t' : DCtx → DT) : Prop where
  ex : ∃ t : HCtx → TT, (∀ i h, F.ok i h → PW (F.X i) e (t h)) ∧ ∀ Z0 h c, RC K Z0 h c → LT K Z0 (t h) (t' c)
structure PDTs (e : List Expr) (t' : DCtx → DT) : Prop where
  ex : ∃ t : HCtx → TT, (∀ i h, F.ok i h → PTs (F.X i) e (t h)) ∧ ∀ Z0 h c, RC K Z0 h c → LT K Z0 (t h) (t' c)
structure PDA (e : List Expr) (t' : DCtx → DA) : Prop where
  ex : ∃ t : HCtx → TA, (∀ i h, F.ok i h → PA (F.X i) e (t h)) ∧ ∀ Z0 h c, RC K Z0 h c → LA K Z0 (t h) (t' c)
structure PDS (e : Stmt) (t' : DCtx → DS) : Prop where
  ex : ∃ t : HCtx → TS, (∀ i h, F.ok i h → PS (F.X i) e (t h)) ∧ ∀ Z0 h c, RC K Z0 h c → LS K Z0 (t h) (t' c)
structure PDSs (e : List Stmt) (t' : DCtx → DS) : Prop where
  ex : ∃ t : HCtx → TS, (∀ i h, F.ok i h → PSs (F.X i) e (t h)) ∧ ∀ Z0 h c, RC K Z0 h c → LS K Z0 (t h) (t' c)
structure PDG (ws : List Nat) (e : Expr) (t' : DCtx → DG) : Prop where
  ex : ∃ t : HCtx → TG, (∀ i h, F.ok i h → PG (F.X i) e (t h)) ∧ ∀ Z0 h c, RC K Z0 h c → LG K Z0 ws (t h) (t' c)
structure PDGs (ws : List Nat) (e : List Expr) (t' : DCtx → DGs) : Prop where
  ex : ∃ t : HCtx → TGs, (∀ i h, F.ok i h → PGs (F.X i) e (t h)) ∧ ∀ Z0 h c, RC K Z0 h c → LGs K Z0 ws (t h) (t' c)
structure PDO (e : Option Expr) (t' : DCtx → DO) : Prop where
  ex : ∃ t : HCtx → TO, (∀ i h, F.ok i h → PO (F.X i) e (t h)) ∧ ∀ Z0 h c, RC K Z0 h c → LO K Z0 (t h) (t' c)
structure PDI (tg iter : Expr) (t' : DCtx → DI) : Prop where
  ex : ∃ t : HCtx → TI, (∀ i h, F.ok i h → PI (F.X i) tg iter (t h)) ∧ ∀ Z0 h c, RC K Z0 h c → LI K Z0 (t h) (t' c)
end
/-- a product of ints, one below 2 ^ 64 -/
def CM (i j : Int) : Prop := (-18446744073709551616 < i ∧ i < 18446744073709551616) ∨ (-18446744073709551616 < j ∧ j < 18446744073709551616)
theorem CM.ok {i j : Int} (h : CM i j) : CMul i j := by
  rcases h with h | h
  · exact .inl ⟨by omega, by omega⟩
  · exact .inr ⟨by omega, by omega⟩
theorem rI_imp {C C' : Int → Int → Prop} {g : Int → Int → D} (h : ∀ i j, C' i j → C i j) : ∀ x y S Q, rI' C' g x y S Q → rI' C g x y S Q := fun x y S Q q => by
  unfold rI' at q ⊢
  split at q
  · exact ⟨h _ _ q.1, q.2⟩
  · exact q.elim
/-- a divisor above 0, below 2 ^ 64 -/
def CD (_ j : Int) : Prop := 0 < j ∧ j < 18446744073709551616
theorem CD.ok {i j : Int} (h : CD i j) : CDivW i j := wide_div (b := 64) h.1 (by have h1 := h.1; have h2 := h.2; omega) (by decide) (by decide)
/-- where nothing may be raised -/
def W0 : DW := fun _ _ _ _ => False
section
variable {F : Fm} {K : PySem.W.Frag} {P : Program} {w : World} {mg : Str → Option Value} {base : Heap} [fam : Fam F P w K mg base]
variable {a b c e : Expr} {es : List Expr} {ta tb tc te : DCtx → DE} {tt uu : DCtx → DT} {t : DCtx → DA} {s : Stmt} {ss : List Stmt} {ds du : DCtx → DS} {pos p p1 p2 : Pos} {x : Str} {ws : List Nat}
include fam

/-! ### expressions -/
theorem pd_v (i : Nat) (hN : ∀ k, (F.X k).N[i]? = some x := by intro _; rfl) (hv : ∀ k, Vis (F.X k).env.scope x := by intro _; first | exact Or.inl rfl | exact Or.inr (Or.inl rfl) | exact Or.inr (Or.inr rfl))
    (hd : (x == ("__debug__" : Str)) = false := by decide) (hcd : (x == ("__classdict__" : Str)) = false := by decide) : PD F K (.Name x pos) (fun c => dVar i) := ⟨fun _ => _, fun k _ _ => pe_var (hN k) (hv k) hd hcd, fun _ _ _ _ => le_var i⟩
theorem pd_int {i : Int} {j : Nat} : PD F K (.Constant (.int i) j pos) (fun c => dC (.int i)) := ⟨fun _ => _, fun _ _ _ => pe_int, fun _ _ _ _ => le_int i⟩
theorem pd_bl {i : Bool} {j : Nat} : PD F K (.Constant (.bool i) j pos) (fun c => dC (.bl i)) := ⟨fun _ => _, fun _ _ _ => pe_bl, fun _ _ _ _ => le_bl i⟩
theorem pd_str {i : Str} {j : Nat} : PD F K (.Constant (.str i) j pos) (fun c => dC (.str i)) := ⟨fun _ => _, fun _ _ _ => pe_str, fun _ _ _ _ => le_str i⟩
theorem pd_non {j : Nat} : PD F K (.Constant .none j pos) (fun c => dC .non) := ⟨fun _ => _, fun _ _ _ => pe_non, fun _ _ _ _ => le_non⟩
/-- a class, a def of the module as a value -/
theorem pd_glob {A : Addr} (hm : mg x = some (.ref A)) (hg : ∀ k, Gl (F.X k) x := by intro _; rfl) (hd : (x == ("__debug__" : Str)) = false := by decide) : PD F K (.Name x pos) (fun c => dC (.raw A)) :=
  ⟨fun _ => _, fun k _ _ => pe_glob (v := .ref A) (hg k) (by rw [fam.mg k]; exact hm) rfl hd, fun _ _ _ _ => le_raw A⟩
/-- a built-in class as a value -/
theorem pd_ty (n : Ty) (hm : mg x = none) (hv : bootBuiltins x = some (.type n.name)) (hg : ∀ k, Gl (F.X k) x := by intro _; rfl) (hn : x ≠ "__name__" := by decide) (hd : (x == ("__debug__" : Str)) = false := by decide) :
    PD F K (.Name x pos) (fun c => dC (.ty n)) := ⟨fun _ => _, fun k _ _ => pe_bltn (v := .ty n.name) (hg k) (by rw [fam.mg k]; exact hm) hv rfl hn hd, fun _ _ _ _ => le_ty n⟩
theorem pd_op {op : Operator} {r : R2} {r' : R2'} (ho : ∀ k, OpR (F.X k) (binaryOp op) r) (hl : ∀ Z0, L2R K Z0 r r') (ha : PD F K a ta) (hb : PD F K b tb) : PD F K (.BinOp a op b pos) (fun c => dOp r' (ta c) (tb c)) := by
  obtain ⟨t1, h1, l1⟩ := ha.ex
  obtain ⟨t2, h2, l2⟩ := hb.ex
  exact ⟨_, fun k h q => pe_op (ho k) (h1 k h q) (h2 k h q), fun Z h c r => le_op (hl Z) (l1 Z h c r) (l2 Z h c r)⟩
theorem opK {f : Value → Value → Sem Value} {r : PySem.W.Frag → R2} (h : ∀ k, OpR (F.X k) f (r (F.X k).K)) : ∀ k, OpR (F.X k) f (r K) := fun k => by
  have := h k
  rw [fam.k k] at this
  exact this
theorem pd_add (ha : PD F K a ta) (hb : PD F K b tb) : PD F K (.BinOp a .Add b pos) (fun c => dOp rAdd' (ta c) (tb c)) := pd_op (opK (r := rAddAll) fun _ => op_addAll) (fun _ => lr_add) ha hb
theorem pd_sub (ha : PD F K a ta) (hb : PD F K b tb) : PD F K (.BinOp a .Sub b pos) (fun c => dOp (rI0' fun i j => .int (i - j)) (ta c) (tb c)) := pd_op (fun _ => op_sub) (fun _ => lr_I0 fun _ _ _ => .int _) ha hb
theorem pd_mul (ha : PD F K a ta) (hb : PD F K b tb) : PD F K (.BinOp a .Mult b pos) (fun c => dOp (rI' CM fun i j => .int (i * j)) (ta c) (tb c)) := pd_op (fun _ => op_mul) (fun _ => (lr_I fun _ _ _ => .int _).imp (rI_imp fun _ _ => CM.ok)) ha hb
theorem pd_div (ha : PD F K a ta) (hb : PD F K b tb) : PD F K (.BinOp a .FloorDiv b pos) (fun c => dOp (rI' CD fun i j => .int (i / j)) (ta c) (tb c)) := pd_op (fun _ => op_fdivW) (fun _ => (lr_I fun _ _ _ => .int _).imp (rI_imp fun _ _ => CD.ok)) ha hb
theorem pd_mod (ha : PD F K a ta) (hb : PD F K b tb) : PD F K (.BinOp a .Mod b pos) (fun c => dOp (rI' (fun _ j => 0 < j) fun i j => .int (i % j)) (ta c) (tb c)) := pd_op (fun _ => op_mod) (fun _ => lr_I fun _ _ _ => .int _) ha hb
theorem pd_pow (ha : PD F K a ta) (hb : PD F K b tb) : PD F K (.BinOp a .Pow b pos) (fun c => dOp (rI' CPow fun i j => .int (i ^ j.toNat)) (ta c) (tb c)) := pd_op (fun _ => op_pow) (fun _ => lr_I fun _ _ _ => .int _) ha hb
theorem pd_neg (ha : PD F K a ta) : PD F K (.UnaryOp .USub a pos) (fun c => dUnI (fun i => -i) (ta c)) := by
  obtain ⟨t1, h1, l1⟩ := ha.ex
  exact ⟨_, fun k h q => pe_un un_neg (h1 k h q), fun Z h c r => le_unI (l1 Z h c r)⟩
/-! ### comparisons -/
theorem pd_cmp {op : CmpOp} {r : R2} {r' : R2'} (ho : ∀ k, OpR (F.X k) (compareOp op) r) (hl : ∀ Z0, L2R K Z0 r r') (ha : PD F K a ta) (hb : PD F K b tb) (hm : behindInMarks op b = false := by first | exact nomark _ | rfl) :
    PD F K (.Compare a [op] [b] pos) (fun c => dOp r' (ta c) (tb c)) := by
  obtain ⟨t1, h1, l1⟩ := ha.ex
  obtain ⟨t2, h2, l2⟩ := hb.ex
  exact ⟨_, fun k h q => pe_cmpR (ho k) (h1 k h q) (h2 k h q) hm, fun Z h c r => le_op (hl Z) (l1 Z h c r) (l2 Z h c r)⟩
theorem pdt_cmp {op : CmpOp} {r : R2} {r' : R2'} (ho : ∀ k, OpR (F.X k) (compareOp op) r) (hl : ∀ Z0, L2R K Z0 r r') (ha : PD F K a ta) (hb : PD F K b tb) (hm : behindInMarks op b = false := by first | exact nomark _ | rfl) :
    PDT F K (.Compare a [op] [b] pos) (fun c => dB (dOp r' (ta c) (tb c))) := by
  obtain ⟨t1, h1, l1⟩ := ha.ex
  obtain ⟨t2, h2, l2⟩ := hb.ex
  exact ⟨_, fun k h q => pt_cmpR (ho k) (h1 k h q) (h2 k h q) hm, fun Z h c r => lt_Test (le_op (hl Z) (l1 Z h c r) (l2 Z h c r))⟩
/-- an operator's rule and its data -/
structure CmpD (F : Fm) (K : PySem.W.Frag) (op : CmpOp) (r' : R2') : Prop where
  ex : ∃ r, (∀ k, OpR (F.X k) (compareOp op) r) ∧ ∀ Z0, L2R K Z0 r r'
theorem c_lt : CmpD F K .Lt (rI0' fun i j => .bl (decide (i < j))) := ⟨_, fun _ => op_lt, fun _ => lr_I0 fun _ _ _ => .bl _⟩
theorem c_le : CmpD F K .LtE (rI0' fun i j => .bl (decide (i ≤ j))) := ⟨_, fun _ => op_le, fun _ => lr_I0 fun _ _ _ => .bl _⟩
theorem c_gt : CmpD F K .Gt (rI0' fun i j => .bl (decide (j < i))) := ⟨_, fun _ => op_gt, fun _ => lr_I0 fun _ _ _ => .bl _⟩
theorem c_ge : CmpD F K .GtE (rI0' fun i j => .bl (decide (j ≤ i))) := ⟨_, fun _ => op_ge, fun _ => lr_I0 fun _ _ _ => .bl _⟩
theorem c_eq {j : Nat} (hr : ∀ k, Room j (F.X k).A) : CmpD F K .Eq rEq' := ⟨_, opK (r := rEqD) fun k => op_eqD (hr k).units, fun _ => lr_eq⟩
theorem c_ne {j : Nat} (hr : ∀ k, Room j (F.X k).A) : CmpD F K .NotEq rNe' := ⟨_, opK (r := rNeD) fun k => op_neD (hr k).units, fun _ => lr_ne⟩
theorem c_is : CmpD F K .Is rIsN' := ⟨_, fun _ => op_isN, fun _ => lr_isN⟩
theorem c_isn : CmpD F K .IsNot rNotN' := ⟨_, fun _ => op_notN, fun _ => lr_notN⟩
theorem c_in : CmpD F K .In (rIn' false) := ⟨_, opK (r := fun K => rIn K false) fun _ => op_in_seq, fun _ => lr_in⟩
theorem c_nin : CmpD F K .NotIn (rIn' true) := ⟨_, opK (r := fun K => rIn K true) fun _ => op_notIn_seq, fun _ => lr_in⟩
theorem pd_c {op : CmpOp} {r' : R2'} (h : CmpD F K op r') (ha : PD F K a ta) (hb : PD F K b tb) (hm : behindInMarks op b = false := by first | exact nomark _ | rfl) : PD F K (.Compare a [op] [b] pos) (fun c => dOp r' (ta c) (tb c)) := by
  obtain ⟨r, h1, h2⟩ := h.ex
  exact pd_cmp h1 h2 ha hb hm
theorem pdt_c {op : CmpOp} {r' : R2'} (h : CmpD F K op r') (ha : PD F K a ta) (hb : PD F K b tb) (hm : behindInMarks op b = false := by first | exact nomark _ | rfl) : PDT F K (.Compare a [op] [b] pos) (fun c => dB (dOp r' (ta c) (tb c))) := by
  obtain ⟨r, h1, h2⟩ := h.ex
  exact pdt_cmp h1 h2 ha hb hm
theorem pd_chain {op op' : CmpOp} {r r' : R2'} (h : CmpD F K op r) (h' : CmpD F K op' r') (ha : PD F K a ta) (hb : PD F K b tb) (hc : PD F K c tc) (hm : lastMarks [op, op'] [b, c] = false := by with_unfolding_all rfl) :
    PD F K (.Compare a [op, op'] [b, c] pos) (fun c => dChain r r' (ta c) (tb c) (tc c)) := by
  obtain ⟨q1, o1, k1⟩ := h.ex
  obtain ⟨q2, o2, k2⟩ := h'.ex
  obtain ⟨t1, h1, l1⟩ := ha.ex
  obtain ⟨t2, h2, l2⟩ := hb.ex
  obtain ⟨t3, h3, l3⟩ := hc.ex
  exact ⟨_, fun k h q => pe_chain (o1 k) (o2 k) (h1 k h q) (h2 k h q) (h3 k h q) hm, fun Z h c r => le_chain (k1 Z) (k2 Z) (l1 Z h c r) (l2 Z h c r) (l3 Z h c r)⟩
theorem pdt_chain {op op' : CmpOp} {r r' : R2'} (h : CmpD F K op r) (h' : CmpD F K op' r') (ha : PD F K a ta) (hb : PD F K b tb) (hc : PD F K c tc) (hm : lastMarks [op, op'] [b, c] = false := by with_unfolding_all rfl) :
    PDT F K (.Compare a [op, op'] [b, c] pos) (fun c => dB (dChain r r' (ta c) (tb c) (tc c))) := by
  obtain ⟨q1, o1, k1⟩ := h.ex
  obtain ⟨q2, o2, k2⟩ := h'.ex
  obtain ⟨t1, h1, l1⟩ := ha.ex
  obtain ⟨t2, h2, l2⟩ := hb.ex
  obtain ⟨t3, h3, l3⟩ := hc.ex
  exact ⟨_, fun k h q => pt_chain (o1 k) (o2 k) (h1 k h q) (h2 k h q) (h3 k h q) hm, fun Z h c r => lt_Test (le_chain (k1 Z) (k2 Z) (l1 Z h c r) (l2 Z h c r) (l3 Z h c r))⟩
/-! ### tests -/
theorem pdt_tru (ha : PD F K a ta) (he : ∀ k whole, isTrue a (F.X k).env whole = (do let v ← whole; standAt a.pos; holding [v] (truthy v)) := by intro _ _; rfl) : PDT F K a (fun c => dTru (ta c)) := by
  obtain ⟨t1, h1, l1⟩ := ha.ex
  exact ⟨_, fun k h q => by have hh := pt_truth (h1 k h q) (he k); rw [fam.k k] at hh; exact hh, fun Z h c r => lt_Tru (l1 Z h c r)⟩
theorem pdt_not (ha : PDT F K a tt) : PDT F K (.UnaryOp .Not a pos) (fun c => dNot (tt c)) := by
  obtain ⟨t1, h1, l1⟩ := ha.ex
  exact ⟨_, fun k h q => pt_not (h1 k h q), fun Z h c r => lt_Not (l1 Z h c r)⟩
theorem pdw_and1 (ha : PDT F K a tt) : PDW F K (.BoolOp .And [a] pos) tt := by
  obtain ⟨t1, h1, l1⟩ := ha.ex
  exact ⟨_, fun k h q => pw_and1 (h1 k h q), fun Z h c r => (l1 Z h c r)⟩
theorem pdw_or1 (ha : PDT F K a tt) : PDW F K (.BoolOp .Or [a] pos) tt := by
  obtain ⟨t1, h1, l1⟩ := ha.ex
  exact ⟨_, fun k h q => pw_or1 (h1 k h q), fun Z h c r => (l1 Z h c r)⟩
theorem pdw_and (ha : PDT F K a tt) (hb : PDW F K (.BoolOp .And (b :: es) pos) uu) : PDW F K (.BoolOp .And (a :: b :: es) pos) (fun c => dAnd (tt c) (uu c)) := by
  obtain ⟨t1, h1, l1⟩ := ha.ex
  obtain ⟨t2, h2, l2⟩ := hb.ex
  exact ⟨_, fun k h q => pw_and (h1 k h q) (h2 k h q), fun Z h c r => lt_And (l1 Z h c r) (l2 Z h c r)⟩
theorem pdw_or (ha : PDT F K a tt) (hb : PDW F K (.BoolOp .Or (b :: es) pos) uu) : PDW F K (.BoolOp .Or (a :: b :: es) pos) (fun c => dOr (tt c) (uu c)) := by
  obtain ⟨t1, h1, l1⟩ := ha.ex
  obtain ⟨t2, h2, l2⟩ := hb.ex
  exact ⟨_, fun k h q => pw_or (h1 k h q) (h2 k h q), fun Z h c r => lt_Or (l1 Z h c r) (l2 Z h c r)⟩
theorem PDW.pdt (ha : PDW F K a tt) : PDT F K a tt := by
  obtain ⟨t1, h1, l1⟩ := ha.ex
  exact ⟨_, fun k h q => (h1 k h q).pt, fun Z h c r => (l1 Z h c r)⟩
theorem pd_one {op : BoolOp} (ha : PD F K a ta) : PD F K (.BoolOp op [a] pos) ta := by
  obtain ⟨t1, h1, l1⟩ := ha.ex
  exact ⟨_, fun k h q => pe_one (h1 k h q), fun Z h c r => (l1 Z h c r)⟩
theorem pd_and (ha : PD F K a ta) (hb : PD F K (.BoolOp .And (b :: es) pos) tb) : PD F K (.BoolOp .And (a :: b :: es) pos) (fun c => dAndT (ta c) (tb c)) := by
  obtain ⟨t1, h1, l1⟩ := ha.ex
  obtain ⟨t2, h2, l2⟩ := hb.ex
  exact ⟨_, fun k h q => by have hh := pe_andT (h1 k h q) (h2 k h q); rw [fam.k k] at hh; exact hh, fun Z h c r => le_AndT (l1 Z h c r) (l2 Z h c r)⟩
theorem pd_or (ha : PD F K a ta) (hb : PD F K (.BoolOp .Or (b :: es) pos) tb) : PD F K (.BoolOp .Or (a :: b :: es) pos) (fun c => dOrT (ta c) (tb c)) := by
  obtain ⟨t1, h1, l1⟩ := ha.ex
  obtain ⟨t2, h2, l2⟩ := hb.ex
  exact ⟨_, fun k h q => by have hh := pe_orT (h1 k h q) (h2 k h q); rw [fam.k k] at hh; exact hh, fun Z h c r => le_OrT (l1 Z h c r) (l2 Z h c r)⟩
theorem pd_not (ha : PD F K a ta) : PD F K (.UnaryOp .Not a pos) (fun c => dNotT (ta c)) := by
  obtain ⟨t1, h1, l1⟩ := ha.ex
  exact ⟨_, fun k h q => by have hh := pe_notT (h1 k h q) (pos := pos); rw [fam.k k] at hh; exact hh, fun Z h c r => le_NotT (l1 Z h c r)⟩
theorem pd_if (h : PDT F K c tt) (ha : PD F K a ta) (hb : PD F K b tb) : PD F K (.IfExp c a b pos) (fun c => dIf (tt c) (ta c) (tb c)) := by
  obtain ⟨t0, h0, l0⟩ := h.ex
  obtain ⟨t1, h1, l1⟩ := ha.ex
  obtain ⟨t2, h2, l2⟩ := hb.ex
  exact ⟨_, fun k h q => pe_ifExp (h0 k h q) (h1 k h q) (h2 k h q), fun Z h c r => le_If (l0 Z h c r) (l1 Z h c r) (l2 Z h c r)⟩
/-! ### arguments, displays, calls -/
theorem pa_n : PDA F K [] (fun c => dNil) := ⟨fun _ => _, fun _ _ _ => pa_nil, fun _ _ _ _ => la_nil⟩
theorem pa_c (ha : PD F K e te) (hr : PDA F K es t) (hs : ∀ k, starEach (e :: es) (F.X k).env = (false, eval e (F.X k).env) :: starEach es (F.X k).env := by intro _; rfl) : PDA F K (e :: es) (fun c => dCons (te c) (t c)) := by
  obtain ⟨t1, h1, l1⟩ := ha.ex
  obtain ⟨t2, h2, l2⟩ := hr.ex
  exact ⟨_, fun k h q => pa_cons (h1 k h q) (h2 k h q) (hs k), fun Z h c r => la_cons (l1 Z h c r) (l2 Z h c r)⟩
theorem pd_tup {n : Nat} (h : PDA F K es t) : PD F K (.Tuple es n pos) (fun c => dTup (t c)) := by
  obtain ⟨t1, h1, l1⟩ := h.ex
  exact ⟨_, fun k h q => pe_tup (h1 k h q), fun Z h c r => le_Tup (l1 Z h c r)⟩
theorem pd_lst (h : PDA F K es t) : PD F K (.List es pos) (fun c => dLst (t c)) := by
  obtain ⟨t1, h1, l1⟩ := h.ex
  exact ⟨_, fun k h q => pe_lst (h1 k h q), fun Z h c r => le_Lst (l1 Z h c r)⟩
theorem pd_lstM (h : PDA F K es t) : PD F K (.List es pos) (fun c => dLstM (t c)) := by
  obtain ⟨t1, h1, l1⟩ := h.ex
  exact ⟨_, fun k h q => pe_lst (h1 k h q), fun Z h c r => le_LstM (l1 Z h c r)⟩
theorem pd_callB {id : String} {r : List V → Hp → VK → Prop} {r' : RL'} (hc : ∀ k, CallR (F.X k) (.builtin id) r) (hl : ∀ Z0, LR K Z0 r r') (hm : mg x = none) (hv : bootBuiltins x = some (.builtin id)) (ha : PDA F K (e :: es) t) (hg : ∀ k, Gl (F.X k) x := by intro _; rfl)
    (hn : x ≠ "__name__" := by decide) (hdb : (x == ("__debug__" : Str)) = false := by decide) (he : ∀ k, starEach (e :: es) (F.X k).env = (false, eval e (F.X k).env) :: starEach es (F.X k).env := by intro _; rfl) (hpl : ∀ k, (backTo pos (starEach es (F.X k).env)).any (·.1) = false := by intro _; rfl) :
    PD F K (.Call (.Name x p) (e :: es) [] pos) (fun c => dCB r' (t c)) := by
  obtain ⟨t1, h1, l1⟩ := ha.ex
  exact ⟨_, fun k h q => pe_callB (hc k) (hg k) (by rw [fam.mg k]; exact hm) hv (h1 k h q) hn hdb (he k) (hpl k), fun Z h c r => le_CB (hl Z) (l1 Z h c r)⟩
theorem pd_callTy {T : String} {r : List V → Hp → VK → Prop} {r' : RL'} (hc : ∀ k, CallR (F.X k) (.type T) r) (hl : ∀ Z0, LR K Z0 r r') (hm : mg x = none) (hv : bootBuiltins x = some (.type T)) (ha : PDA F K (e :: es) t) (hg : ∀ k, Gl (F.X k) x := by intro _; rfl)
    (hn : x ≠ "__name__" := by decide) (hdb : (x == ("__debug__" : Str)) = false := by decide) (he : ∀ k, starEach (e :: es) (F.X k).env = (false, eval e (F.X k).env) :: starEach es (F.X k).env := by intro _; rfl) (hpl : ∀ k, (backTo pos (starEach es (F.X k).env)).any (·.1) = false := by intro _; rfl) :
    PD F K (.Call (.Name x p) (e :: es) [] pos) (fun c => dCB r' (t c)) := by
  obtain ⟨t1, h1, l1⟩ := ha.ex
  exact ⟨_, fun k h q => pe_callTy (hc k) (hg k) (by rw [fam.mg k]; exact hm) hv (h1 k h q) hn hdb (he k) (hpl k), fun Z h c r => le_CB (hl Z) (l1 Z h c r)⟩
theorem callK {f : Value} {r : PySem.W.Frag → List V → Hp → VK → Prop} (h : ∀ k, CallR (F.X k) f (r (F.X k).K)) : ∀ k, CallR (F.X k) f (r K) := fun k => by
  have := h k
  rw [fam.k k] at this
  exact this
/-- a def of the module -/
theorem pd_call {k : Nat} {G : DF} {dds : List D} (c : FnD P w K mg base k x G dds) {j : Nat} (hr : ∀ k, Room j (F.X k).A) (hk : k ≤ j) (ha : PDA F K (e :: es) t) (hg : ∀ k, Gl (F.X k) x := by intro _; rfl)
    (hdb : (x == ("__debug__" : Str)) = false := by decide) (he : ∀ k, starEach (e :: es) (F.X k).env = (false, eval e (F.X k).env) :: starEach es (F.X k).env := by intro _; rfl) (hpl : ∀ k, (backTo pos (starEach es (F.X k).env)).any (·.1) = false := by intro _; rfl) :
    PD F K (.Call (.Name x p) (e :: es) [] pos) (fun c => dCall G dds c.w (t c)) := by
  obtain ⟨f, fd, ps, dvs, ds, h1, h2, h3, h4, h5, h6⟩ := c.ex
  obtain ⟨ta, a1, a2⟩ := ha.ex
  refine ⟨_, fun i h q => ?_, fun Z h c r => le_call h6 r.w (a2 Z h c r)⟩
  have e1 := fam.prog i
  have e2 := fam.w i
  have e3 := fam.k i
  have e4 := fam.mg i
  have e5 := fam.base i
  exact pe_callSD (X := F.X i) (CX := L2.CX (F.X i).prog (F.X i).w) (by rw [e1, e2, e3, e4, e5]; exact h1) ((hr i).mono hk) (hg i) (by rw [e4]; exact h2) (by rw [e3]; exact h3) (by rw [e3]; exact h4) h5 (fun σ => passAt (F.tk i h q) σ) (a1 i h q) hdb (he i) (hpl i)
/-! ### methods, subscripts, slices, fields -/
theorem pd_bm {o : Expr} {to : DCtx → DE} {name : Str} {id : String} {r : V → List V → Hp → VK → Prop} {r' : RM'} {apos cpos : Pos} (slot : Slot "list" name id) (hty : typeOf (.builtin id) = pure (.type "method_descriptor")) (hm : ∀ k, MtR (F.X k) id r) (hl : ∀ Z0, LM K Z0 r r')
    (ho : PD F K o to) (ha : PDA F K (e :: es) t) (hbase : ∀ k, attributeBase o name (F.X k).env (eval o (F.X k).env) = eval o (F.X k).env := by intro _; rfl)
    (hfew : ∀ k, ((backTo cpos (starEach (e :: es) (F.X k).env)).all (fun x => !x.1) && (backToKw cpos (keywordEach [] (F.X k).env)).all (fun x => x.1.isSome)
      && decide ((e :: es).length + ([] : List Keyword).length + (if ([] : List Keyword).isEmpty then 0 else 1) < 30)) = true := by intro _; rfl)
    (hline : (apos.endLine == cpos.line) = true := by rfl) (hs : ∀ k, starEach (e :: es) (F.X k).env = (false, eval e (F.X k).env) :: starEach es (F.X k).env := by intro _; rfl) (hplain : ∀ k, (backTo cpos (starEach es (F.X k).env)).any (·.1) = false := by intro _; rfl) :
    PD F K (.Call (.Attribute o name apos) (e :: es) [] cpos) (fun c => dBM r' (to c) (t c)) := by
  obtain ⟨t1, h1, l1⟩ := ho.ex
  obtain ⟨t2, h2, l2⟩ := ha.ex
  exact ⟨_, fun k h q => by have hh := pe_bm PySem.F.plainAttrs_list slot hty (hm k) (h1 k h q) (h2 k h q) (hbase k) (hfew k) hline (hs k) (hplain k); rw [fam.k k] at hh; exact hh, fun Z h c r => le_BM (hl Z) (l1 Z h c r) (l2 Z h c r)⟩
theorem pd_bm0 {o : Expr} {to : DCtx → DE} {name : Str} {id : String} {r : V → List V → Hp → VK → Prop} {r' : RM'} {apos cpos : Pos} (slot : Slot "list" name id) (hty : typeOf (.builtin id) = pure (.type "method_descriptor")) (hm : ∀ k, MtR (F.X k) id r) (hl : ∀ Z0, LM K Z0 r r')
    (ho : PD F K o to) (hbase : ∀ k, attributeBase o name (F.X k).env (eval o (F.X k).env) = eval o (F.X k).env := by intro _; rfl) (hline : (apos.endLine == cpos.line) = true := by rfl) : PD F K (.Call (.Attribute o name apos) [] [] cpos) (fun c => dBM r' (to c) dNil) := by
  obtain ⟨t1, h1, l1⟩ := ho.ex
  exact ⟨_, fun k h q => by have hh := pe_bm0 PySem.F.plainAttrs_list slot hty (hm k) (h1 k h q) (hbase k) hline; rw [fam.k k] at hh; exact hh, fun Z h c r => le_BM0 (hl Z) (l1 Z h c r)⟩
theorem pd_ix (ha : PD F K a ta) (hb : PD F K b tb) (hs : PlainIx b := by intro _ _; rfl) : PD F K (.Subscript a b pos) (fun c => dOp rIx' (ta c) (tb c)) := by
  obtain ⟨t1, h1, l1⟩ := ha.ex
  obtain ⟨t2, h2, l2⟩ := hb.ex
  exact ⟨_, fun k h q => by have hh := pe_ix (X := F.X k) ix_seq (h1 k h q) (h2 k h q) hs (pos := pos); rw [fam.k k] at hh; exact hh, fun Z h c r => le_op lr_ix (l1 Z h c r) (l2 Z h c r)⟩
theorem po_n : PDO F K none (fun c => dNoPart) := ⟨fun _ => _, fun _ _ _ => po_none, fun _ _ _ _ => lo_none⟩
theorem po_s (h : PD F K a ta) : PDO F K (some a) (fun c => dPart (ta c)) := by
  obtain ⟨t1, h1, l1⟩ := h.ex
  exact ⟨_, fun k h q => po_some (h1 k h q), fun Z h c r => lo_some (l1 Z h c r)⟩
theorem pd_slice {lo hi : Option Expr} {tl th : DCtx → DO} (he : PD F K e te) (hl : PDO F K lo tl) (hu : PDO F K hi th) : PD F K (.Subscript e (.Slice lo hi none p2) pos) (fun c => dSl (te c) (tl c) (th c)) := by
  obtain ⟨t1, h1, l1⟩ := he.ex
  obtain ⟨t2, h2, l2⟩ := hl.ex
  obtain ⟨t3, h3, l3⟩ := hu.ex
  exact ⟨_, fun k h q => by have hh := pe_slice (X := F.X k) sl_all (h1 k h q) (h2 k h q) (h3 k h q) (p2 := p2) (pos := pos); rw [fam.k k] at hh; exact hh, fun Z h c r => le_Sl (l1 Z h c r) (l2 Z h c r) (l3 Z h c r)⟩
theorem pd_fld {C : Addr} {f : Str} (hC : Cls K C) (hn : NoAttr K C f) (h : PD F K e te) (hb : ∀ k, attributeBase e f (F.X k).env (eval e (F.X k).env) = eval e (F.X k).env := by intro _; rfl) : PD F K (.Attribute e f pos) (fun c => dFld C f (te c)) := by
  obtain ⟨t1, h1, l1⟩ := h.ex
  exact ⟨_, fun k h q => by have hh := pe_fld (h1 k h q) (hb k) (pos := pos); rw [fam.k k] at hh; exact hh, fun Z h c r => le_Fld hC hn (l1 Z h c r)⟩
theorem pd_gh (h : PD F K e te) : PD F K e (fun c => dGhE (te c)) := by
  obtain ⟨t1, h1, l1⟩ := h.ex
  exact ⟨_, h1, fun Z h c r => le_gh (l1 Z h c r)⟩
/-! ### targets -/
theorem pg_n {i : Nat} (hN : ∀ k, (F.X k).N.Nodup) (hw : i ∈ ws := by decide) (hi : ∀ k, (F.X k).N[i]? = some x := by intro _; rfl) (hx : ∀ k, Loc (F.X k).env.scope x := by intro _; first | exact .inl rfl | exact .inr rfl)
    (hf : ∀ k, (F.X k).fn x = true ∨ (F.X k).env.scope.names.lookup x = some .local := by intro _; first | exact .inl rfl | exact .inr rfl) : PDG F K ws (.Name x pos) (fun c => dgName i) := ⟨fun _ => _, fun k _ _ => pg_name (hN k) (hi k) (hx k) (hf k), fun _ _ _ _ => lg_name hw⟩
theorem pgs_n : PDGs F K ws [] (fun _ => dgNil) := ⟨fun _ => _, fun _ _ _ => pgs_nil, fun _ _ _ _ => lgs_nil⟩
theorem pgs_c {g : DCtx → DG} {gs : DCtx → DGs} (h1 : PDG F K ws e g) (h2 : PDGs F K ws es gs)
    (hs : ∀ k, (assignEach (e :: es) (F.X k).env).map (·.2) = assign e (F.X k).env :: (assignEach es (F.X k).env).map (·.2) := by intro _; rfl) : PDGs F K ws (e :: es) (fun c => dgCons (g c) (gs c)) := by
  obtain ⟨t1, a1, l1⟩ := h1.ex
  obtain ⟨t2, a2, l2⟩ := h2.ex
  exact ⟨_, fun k h q => pgs_cons (a1 k h q) (a2 k h q) (hs k), fun Z h c r => lgs_cons (l1 Z h c r) (l2 Z h c r)⟩
theorem pg_t {n m : Nat} {gs : DCtx → DGs} (h : PDGs F K ws es gs) (hc : ∀ k, (F.X k).calm = true := by intro _; rfl) (hn : ∀ k, (assignEach es (F.X k).env).length = n := by intro _; rfl) (hst : ∀ k, (assignEach es (F.X k).env).findIdx? (·.1) = none := by intro _; rfl) :
    PDG F K ws (.Tuple es m pos) (fun c => dgTup n (gs c)) := by
  obtain ⟨t1, a1, l1⟩ := h.ex
  exact ⟨_, fun k h q => by have hh := pg_tup (hc k) (a1 k h q) (hn k) (hst k) (k := m) (pos := pos); rw [fam.k k] at hh; exact hh, fun Z h c r => lg_tup (l1 Z h c r)⟩
theorem pg_s {o i : Expr} {to ti : DCtx → DE} (ho : PD F K o to) (hi : PD F K i ti)
    (ha : ∀ k v, assign (.Subscript o i pos) (F.X k).env v = (do
      let ov ← holding [v] (eval o (F.X k).env)
      let iv ← holding [v, ov] (eval i (F.X k).env)
      standAt pos
      holding [v, ov, iv] (setItem ov iv v)
      release [v, ov, iv] []) := by intro _ _; rfl) : PDG F K ws (.Subscript o i pos) (fun c => dgSub (to c) (ti c)) := by
  obtain ⟨t1, h1, l1⟩ := ho.ex
  obtain ⟨t2, h2, l2⟩ := hi.ex
  exact ⟨_, fun k h q => pg_sub (h1 k h q) (h2 k h q) set_list (ha k), fun Z h c r => lg_sub (l1 Z h c r) (l2 Z h c r)⟩
end
end DL
end

section
set_option Elab.async false
set_option linter.all false
set_option autoImplicit false
set_option maxRecDepth 100000
set_option maxHeartbeats 2000000
/-! DL9: statements, loops, comprehensions, a def by its body, raise, try. -/
namespace DL
open PySem PySem.Spec PyProof.Rows L2

section
variable {F : Fm} {K : PySem.W.Frag} {P : Program} {w : World} {mg : Str → Option Value} {base : Heap} [fam : Fam F P w K mg base]
variable {a b c e : Expr} {es : List Expr} {ta tb tc te : DCtx → DE} {tt uu : DCtx → DT} {t : DCtx → DA} {s : Stmt} {ss : List Stmt} {ds du : DCtx → DS} {pos p p1 p2 : Pos} {x : Str} {ws : List Nat}
include fam
/-! ### blocks -/
theorem ss_nil : PDSs F K [] (fun c => dNext) := ⟨fun _ => _, fun _ _ _ => pss_nil, fun _ _ _ _ => ls_next⟩
theorem ss_c (h1 : PDS F K s ds) (h2 : PDSs F K ss du) : PDSs F K (s :: ss) (fun c => dSeq (ds c) (du c)) := by
  obtain ⟨t1, a1, l1⟩ := h1.ex
  obtain ⟨t2, a2, l2⟩ := h2.ex
  exact ⟨_, fun k h q => pss_cons (a1 k h q) (a2 k h q), fun Z h c r => ls_seq (l1 Z h c r) (l2 Z h c r)⟩
theorem ss_1 (h1 : PDS F K s ds) : PDSs F K [s] ds := by
  obtain ⟨t1, a1, l1⟩ := h1.ex
  exact ⟨_, fun k h q => pss_one (a1 k h q), fun Z h c r => (l1 Z h c r)⟩
/-- ahead of a block: something is told otherwise -/
theorem ss_gh (h : PDSs F K ss du) : PDSs F K ss (fun c => dGh (du c)) := by
  obtain ⟨t2, a2, l2⟩ := h.ex
  exact ⟨_, a2, fun Z h c r => ls_gh (l2 Z h c r)⟩
theorem s_pass : PDS F K (.Pass pos) (fun c => dNext) := ⟨fun _ => _, fun _ _ _ => ps_pass, fun _ _ _ _ => ls_next⟩
theorem s_break : PDS F K (.Break pos) (fun c => dBreak) := ⟨fun _ => _, fun _ _ _ => ps_break, fun _ _ _ _ => ls_break⟩
theorem s_cont : PDS F K (.Continue pos) (fun c => dCont) := ⟨fun _ => _, fun _ _ _ => ps_continue, fun _ _ _ _ => ls_cont⟩
theorem s_never : PDS F K s (fun c => dNever) := ⟨fun _ => _, fun _ _ _ => ps_never, fun _ _ _ _ => ls_never⟩
theorem s_expr (h : PD F K e te) (hs : ∀ k, swapsWith e none pos.line (F.X k).env = pure false := by intro _; rfl) : PDS F K (.Expr e pos) (fun c => dDrop (te c)) := by
  obtain ⟨t1, a1, l1⟩ := h.ex
  exact ⟨_, fun k h q => ps_expr (a1 k h q) (hs k), fun Z h c r => ls_drop (l1 Z h c r)⟩
theorem s_ret (h : PD F K e te) : PDS F K (.Return (some e) pos) (fun c => dRet (te c)) := by
  obtain ⟨t1, a1, l1⟩ := h.ex
  exact ⟨_, fun k h q => ps_ret (a1 k h q), fun Z h c r => ls_ret (l1 Z h c r)⟩
theorem s_retG (h : PD F K e te) : PDS F K (.Return (some e) pos) (fun c => dRetG (te c)) := by
  obtain ⟨t1, a1, l1⟩ := h.ex
  exact ⟨_, fun k h q => ps_ret (a1 k h q), fun Z h c r => ls_retG (l1 Z h c r)⟩
theorem s_retN : PDS F K (.Return none pos) (fun c => dRetN) := ⟨fun _ => _, fun _ _ _ => ps_retN, fun _ _ _ _ => ls_retN⟩
theorem s_if {sa sb : List Stmt} (hc : PDT F K c tt) (ha : PDSs F K sa ds) (hb : PDSs F K sb du) : PDS F K (.If c sa sb pos) (fun c => dIfS (tt c) (ds c) (du c)) := by
  obtain ⟨t0, a0, l0⟩ := hc.ex
  obtain ⟨t1, a1, l1⟩ := ha.ex
  obtain ⟨t2, a2, l2⟩ := hb.ex
  exact ⟨_, fun k h q => ps_if (a0 k h q) (a1 k h q) (a2 k h q), fun Z h c r => ls_if (l0 Z h c r) (l1 Z h c r) (l2 Z h c r)⟩
/-- target = e -/
theorem s_asg {tg : Expr} {g : DCtx → DG} (he : PD F K e te) (hg : PDG F K ws tg g) (hs : ∀ k, swapsWithSole [tg] e pos.line (F.X k).env = pure false := by intro _; rfl) (hw : ∀ k, swappedStores [tg] e (F.X k).env = pure none := by intro _; rfl)
    (h1 : ∀ k, (assignEach [tg] (F.X k).env).map (·.2) = [assign tg (F.X k).env] := by intro _; rfl) : PDS F K (.Assign [tg] e pos) (fun c => dAsg (te c) (g c)) := by
  obtain ⟨t1, a1, l1⟩ := he.ex
  obtain ⟨t2, a2, l2⟩ := hg.ex
  exact ⟨_, fun k h q => ps_asg (a1 k h q) (a2 k h q) (hs k) (hw k) (h1 := h1 k), fun Z h c r => ls_asg (l1 Z h c r) (l2 Z h c r)⟩
/-- x = e -/
theorem s_set {i : Nat} {pos' : Pos} (hN : ∀ k, (F.X k).N.Nodup) (he : PD F K e te) (hi : ∀ k, (F.X k).N[i]? = some x := by intro _; rfl) (hx : ∀ k, Loc (F.X k).env.scope x := by intro _; first | exact .inl rfl | exact .inr rfl)
    (hs : ∀ k, swapsWith e (some (.Name x pos')) pos.line (F.X k).env = pure false := by intro _; rfl) (hf : ∀ k, (F.X k).fn x = true ∨ (F.X k).env.scope.names.lookup x = some .local := by intro _; first | exact .inl rfl | exact .inr rfl) :
    PDS F K (.Assign [.Name x pos'] e pos) (fun c => dAsg (te c) (dgName i)) := by
  obtain ⟨t1, a1, l1⟩ := he.ex
  exact ⟨_, fun k h q => ps_set (hN k) (hi k) (hx k) (a1 k h q) (hs k) (hf k), fun Z h c r => ls_asg (l1 Z h c r) (lg_name (ws := [i]) (List.mem_singleton.mpr rfl))⟩
/-- a, b = x, y -/
theorem s_par {i j : Nat} {y : Str} {px py pt : Pos} {kt k2 : Nat} {pt2 : Pos} (hN : ∀ k, (F.X k).N.Nodup) (ha : PDA F K [a, b] t) (hc : ∀ k, (F.X k).calm = true := by intro _; rfl) (hi : ∀ k, (F.X k).N[i]? = some x := by intro _; rfl) (hj : ∀ k, (F.X k).N[j]? = some y := by intro _; rfl) (hij : i ≠ j := by decide)
    (hx : ∀ k, (F.X k).env.scope.names.lookup x = some .local := by intro _; rfl) (hy : ∀ k, (F.X k).env.scope.names.lookup y = some .local := by intro _; rfl)
    (hw : ∀ k, swappedStores [.Tuple [.Name x px, .Name y py] kt pt] (.Tuple [a, b] k2 pt2) (F.X k).env = pure (some [x, y]) := by intro _; rfl)
    (hs : ∀ k, swapsWithSole [.Tuple [.Name x px, .Name y py] kt pt] (.Tuple [a, b] k2 pt2) pos.line (F.X k).env = pure false := by intro _; rfl) :
    PDS F K (.Assign [.Tuple [.Name x px, .Name y py] kt pt] (.Tuple [a, b] k2 pt2) pos) (fun c => dPar i j (t c)) := by
  obtain ⟨t1, a1, l1⟩ := ha.ex
  exact ⟨_, fun k h q => ps_par (hc k) (hN k) (hi k) (hj k) hij (hx k) (hy k) (a1 k h q) (hw k) (hs k), fun Z h c r => ls_par (l1 Z h c r)⟩
theorem s_augA {i : Nat} {pos' : Pos} (hN : ∀ k, (F.X k).N.Nodup) (he : PD F K e te) (hi : ∀ k, (F.X k).N[i]? = some x := by intro _; rfl) (hx : ∀ k, Loc (F.X k).env.scope x := by intro _; first | exact .inl rfl | exact .inr rfl)
    (hf : ∀ k, (F.X k).fn x = true ∨ (F.X k).env.scope.names.lookup x = some .local := by intro _; first | exact .inl rfl | exact .inr rfl) : PDS F K (.AugAssign (.Name x pos') .Add e pos) (fun c => dAugI (fun i j => i + j) i (te c)) := by
  obtain ⟨t1, a1, l1⟩ := he.ex
  exact ⟨_, fun k h q => ps_aug (hN k) (hi k) (hx k) (a1 k h q) ip_add (hf k), fun Z h c r => ls_augI (l1 Z h c r)⟩
theorem s_augS {i : Nat} {pos' : Pos} (hN : ∀ k, (F.X k).N.Nodup) (he : PD F K e te) (hi : ∀ k, (F.X k).N[i]? = some x := by intro _; rfl) (hx : ∀ k, Loc (F.X k).env.scope x := by intro _; first | exact .inl rfl | exact .inr rfl)
    (hf : ∀ k, (F.X k).fn x = true ∨ (F.X k).env.scope.names.lookup x = some .local := by intro _; first | exact .inl rfl | exact .inr rfl) : PDS F K (.AugAssign (.Name x pos') .Sub e pos) (fun c => dAugI (fun i j => i - j) i (te c)) := by
  obtain ⟨t1, a1, l1⟩ := he.ex
  exact ⟨_, fun k h q => ps_aug (hN k) (hi k) (hx k) (a1 k h q) ip_sub (hf k), fun Z h c r => ls_augI (l1 Z h c r)⟩
theorem s_fld {C : Addr} {f : Str} {o : Expr} {to : DCtx → DE} {pos' : Pos} (hC : Cls K C) (hn : NoAttr K C f) (ho : PD F K o to) (he : PD F K e te) (hs : ∀ k, swapsWith e (some (.Attribute o f pos')) pos.line (F.X k).env = pure false := by intro _; rfl) :
    PDS F K (.Assign [.Attribute o f pos'] e pos) (fun c => dFldS C f (to c) (te c)) := by
  obtain ⟨t1, a1, l1⟩ := he.ex
  obtain ⟨t2, a2, l2⟩ := ho.ex
  exact ⟨_, fun k h q => by have hh := ps_fld (a2 k h q) (a1 k h q) (hs k); rw [fam.k k] at hh; exact hh, fun Z h c r => ls_fld hC hn (l2 Z h c r) (l1 Z h c r)⟩
/-! ### loops -/
def PsO (F : Fm) : Prop := ∀ k, PassesOwn (model (F.X k).prog (F.X k).w) (F.X k).A (F.X k).env (F.X k).xe
theorem s_while (hp : PsO F) (hc : PDT F K c tt) (hb : PDSs F K ss ds) : PDS F K (.While c ss [] pos) (fun c => dWhile (tt c) (ds c)) := by
  obtain ⟨t1, a1, l1⟩ := hc.ex
  obtain ⟨t2, a2, l2⟩ := hb.ex
  exact ⟨_, fun k h q => ps_while (hp k) (a1 k h q) (a2 k h q), fun Z h c r => ls_while (l1 Z h c r) (l2 Z h c r)⟩
theorem i_seq {tg : Expr} (h : PD F K e te) : PDI F K tg e (fun c => diSeq (te c)) := by
  obtain ⟨t1, a1, l1⟩ := h.ex
  exact ⟨_, fun k h q => by have hh := pi_seq (tg := tg) (a1 k h q); rw [fam.k k] at hh; exact hh, fun Z h c r => li_seq (l1 Z h c r)⟩
theorem i_r1 {tg : Expr} (hm : mg "range" = none) (ha : PDA F K [a] t) (hg : ∀ k, Gl (F.X k) "range" := by intro _; rfl) (hs : ∀ k, starEach [a] (F.X k).env = [(false, eval a (F.X k).env)] := by intro _; rfl) :
    PDI F K tg (.Call (.Name "range" p) [a] [] pos) (fun c => diRng1 (t c)) := by
  obtain ⟨t1, a1, l1⟩ := ha.ex
  exact ⟨_, fun k h q => pi_range1 (hg k) (by rw [fam.mg k]; exact hm) (a1 k h q) (hs k), fun Z h c r => li_rng1 (l1 Z h c r)⟩
theorem i_r2 {tg : Expr} (hm : mg "range" = none) (ha : PDA F K [a, b] t) (hg : ∀ k, Gl (F.X k) "range" := by intro _; rfl) (hs : ∀ k, starEach [a, b] (F.X k).env = [(false, eval a (F.X k).env), (false, eval b (F.X k).env)] := by intro _; rfl)
    (hs2 : ∀ k, starEach [b] (F.X k).env = [(false, eval b (F.X k).env)] := by intro _; rfl) : PDI F K tg (.Call (.Name "range" p) [a, b] [] pos) (fun c => diRng2 (t c)) := by
  obtain ⟨t1, a1, l1⟩ := ha.ex
  exact ⟨_, fun k h q => pi_range2 (hg k) (by rw [fam.mg k]; exact hm) (a1 k h q) (hs k) (hs2 k), fun Z h c r => li_rng2 (l1 Z h c r)⟩
theorem i_enum {elts : List Expr} {kk : Nat} {tpos : Pos} (hm : mg "enumerate" = none) (ha : PDA F K [e] t) (hg : ∀ k, Gl (F.X k) "enumerate" := by intro _; rfl) (hs : ∀ k, starEach [e] (F.X k).env = [(false, eval e (F.X k).env)] := by intro _; rfl) :
    PDI F K (.Tuple elts kk tpos) (.Call (.Name "enumerate" p) [e] [] pos) (fun c => diEnum (t c)) := by
  obtain ⟨t1, a1, l1⟩ := ha.ex
  exact ⟨_, fun k h q => by have hh := pi_enumA (X := F.X k) (hg k) (by rw [fam.mg k]; exact hm) (a1 k h q) (hs k) (elts := elts) (kk := kk) (tpos := tpos) (p := p) (pos := pos); rw [fam.k k] at hh; exact hh, fun Z h c r => li_enum (l1 Z h c r)⟩
theorem s_for {tg iter : Expr} {wi : DCtx → DI} {g : DCtx → DG} (hp : PsO F) (hi : PDI F K tg iter wi) (hg : PDG F K ws tg g) (hb : PDSs F K ss ds) (hc : ∀ k, (F.X k).calm = true := by intro _; rfl) (hs : ∀ k x, foldedSetIterable iter (F.X k).env x = pure x := by intro _ _; rfl) :
    PDS F K (.For tg iter ss [] pos) (fun c => dFor (wi c) (g c) (ds c)) := by
  obtain ⟨t1, a1, l1⟩ := hi.ex
  obtain ⟨t2, a2, l2⟩ := hg.ex
  obtain ⟨t3, a3, l3⟩ := hb.ex
  exact ⟨_, fun k h q => ps_for (hp k) (hc k) (a1 k h q) (a2 k h q) (a3 k h q) (hs k), fun Z h c r => ls_for (l1 Z h c r) (l2 Z h c r) (l3 Z h c r)⟩
end

/-! ### comprehensions -/
/-- the blocks of a comprehension -/
def BlkI (ι : Type) : Type := ι × Shared × Hp × Addr × List (Str × Addr) × List Addr
def h0 : HCtx := ⟨fun _ _ _ _ => False, 0, .none, none⟩
def c0 : DCtx := ⟨W0, none⟩
def blkF (F : Fm) (scope : Scope) : Fm where
  ι := BlkI F.ι
  X := fun q => (F.X q.1).blk q.2.1 q.2.2.1 scope (compEnvC scope q.2.2.2.2.1 q.2.2.2.1 (F.X q.1).env) q.2.2.2.2.2
  ok := fun _ h => h = h0
  tk := fun _ _ e => by rw [e]; exact takes0
theorem rc0 {K : PySem.W.Frag} {Z : Hp} : RC K Z h0 c0 := ⟨⟨fun _ _ _ _ _ _ _ _ _ _ _ _ h => h⟩, fun _ _ _ h => by cases h⟩
instance {F : Fm} {P : Program} {w : World} {K : PySem.W.Frag} {mg : Str → Option Value} {base : Heap} {scope : Scope} [fam : Fam F P w K mg base] : Fam (blkF F scope) P w K mg base :=
  ⟨fun q => fam.prog q.1, fun q => fam.w q.1, fun q => fam.k q.1, fun q => fam.mg q.1, fun q => fam.base q.1⟩
section
variable {F : Fm} {K : PySem.W.Frag} {P : Program} {w : World} {mg : Str → Option Value} {base : Heap} [fam : Fam F P w K mg base]
variable {elt tg iter c : Expr} {ifs : List Expr} {scope : Scope} {own : List (Str × Nat)} {pos spos : Pos} {wi : DCtx → DI} {g : DCtx → DG} {tt : DCtx → DT} {te : DCtx → DE}
def dYes : DT := fun _ S Q => Q true S
omit fam in
theorem lt_yes {Z0 : Hp} : LT K Z0 tYes dYes := ⟨fun Z S H env σ Q Q' s0 re rl hh q => q _ _ _ _ (Same.refl _) rl hh⟩
include fam
theorem ts_nil : PDTs F K [] (fun c => dYes) := ⟨fun _ => _, fun _ _ _ => pts_nil, fun _ _ _ _ => lt_yes⟩
theorem ts_one (h : PDT F K c tt) : PDTs F K [c] tt := by
  obtain ⟨t1, a1, l1⟩ := h.ex
  exact ⟨_, fun k h q => pts_one (a1 k h q), fun Z h c r => (l1 Z h c r)⟩
theorem pd_lc (hN : ∀ k, (F.X k).N.Nodup) (hi : PDI F K tg iter wi) (ok : ∀ k, BlkOk (F.X k).N (F.X k).env.scope scope own) (hg : PDG (blkF F scope) K (own.map (·.2)) tg g) (ht : PDTs (blkF F scope) K ifs tt) (he : PD (blkF F scope) K elt te)
    (hc : ∀ k, (F.X k).calm = true := by intro _; rfl) (hs : ∀ k x, foldedSetIterable iter (F.X k).env x = pure x := by intro _ _; rfl) : PD F K (.ListComp elt [⟨tg, iter, ifs, 0⟩] scope pos) (fun c => dLc (wi c) (g c0) (tt c0) (te c0) (own.map (·.2))) := by
  obtain ⟨t1, a1, l1⟩ := hi.ex
  obtain ⟨t2, a2, l2⟩ := hg.ex
  obtain ⟨t3, a3, l3⟩ := ht.ex
  obtain ⟨t4, a4, l4⟩ := he.ex
  exact ⟨_, fun k h q => pe_lc (hc k) (hN k) (a1 k h q) (ok k) (fun s H C cl fp => a2 (k, s, H, C, cl, fp) h0 rfl) (fun s H C cl fp => a3 (k, s, H, C, cl, fp) h0 rfl) (fun s H C cl fp => a4 (k, s, H, C, cl, fp) h0 rfl) (hs k), fun Z h c r => le_lc (l1 Z h c r) (l2 Z h0 c0 rc0) (l3 Z h0 c0 rc0) (l4 Z h0 c0 rc0)⟩
theorem s_setLc {i : Nat} {y : Str} {py : Pos} (hN : ∀ k, (F.X k).N.Nodup) (hsw : ∀ k, swapsWith (.ListComp elt [⟨tg, iter, ifs, 0⟩] scope pos) (some (.Name y py)) spos.line (F.X k).env = pure true) (hi : PDI F K tg iter wi) (ok : ∀ k, BlkOk (F.X k).N (F.X k).env.scope scope own)
    (hg : PDG (blkF F scope) K (own.map (·.2)) tg g) (ht : PDTs (blkF F scope) K ifs tt) (he : PD (blkF F scope) K elt te) (hy : ∀ k, (F.X k).N[i]? = some y := by intro _; rfl) (hyl : ∀ k, (F.X k).env.scope.names.lookup y = some .local := by intro _; rfl)
    (hc : ∀ k, (F.X k).calm = true := by intro _; rfl) (hs : ∀ k x, foldedSetIterable iter (F.X k).env x = pure x := by intro _ _; rfl) : PDS F K (.Assign [.Name y py] (.ListComp elt [⟨tg, iter, ifs, 0⟩] scope pos) spos) (fun c => dAsg (dLc (wi c) (g c0) (tt c0) (te c0) (own.map (·.2))) (dgName i)) := by
  obtain ⟨t1, a1, l1⟩ := hi.ex
  obtain ⟨t2, a2, l2⟩ := hg.ex
  obtain ⟨t3, a3, l3⟩ := ht.ex
  obtain ⟨t4, a4, l4⟩ := he.ex
  exact ⟨_, fun k h q => ps_setLc (hc k) (hN k) (hy k) (hyl k) (hsw k) (a1 k h q) (ok k) (fun s H C cl fp => a2 (k, s, H, C, cl, fp) h0 rfl) (fun s H C cl fp => a3 (k, s, H, C, cl, fp) h0 rfl) (fun s H C cl fp => a4 (k, s, H, C, cl, fp) h0 rfl) (hs k), fun Z h c r => ls_asg (le_lc (l1 Z h c r) (l2 Z h0 c0 rc0) (l3 Z h0 c0 rc0) (l4 Z h0 c0 rc0)) (lg_name (ws := [i]) (List.mem_singleton.mpr rfl))⟩
end

/-! ### a def by its body -/
section
variable {P : Program} {w : World} {K : PySem.W.Frag} {mg : Str → Option Value} {base : Heap}
/-- where a def's body may run -/
structure BI (qual : Str) (scope : Scope) (f : Addr) (k : Nat) where
  cdv : Value
  A : Around
  outer : List Env
  s : Shared
  H : Hp
  E : XK
  room : Room k (A.deeper (envOfC qual scope s.heap.objs.size f cdv))
/-- the contexts of a def's body -/
def BF (P : Program) (w : World) (K : PySem.W.Frag) (mg : Str → Option Value) (base : Heap) (N : List Str) (qual : Str) (scope : Scope) (f : Addr) (k : Nat) : Fm where
  ι := BI qual scope f k
  X := fun i => cxOf (L2.CX P w) P w K mg base N qual scope f i.cdv i.A i.outer i.s i.H i.E
  ok := fun i h => h.W = fun cls d _ H => i.E cls d H
  tk := fun i h e => by rw [e]; exact takes_of rfl rfl rfl rfl
instance {N : List Str} {qual : Str} {scope : Scope} {f : Addr} {k : Nat} : Fam (BF P w K mg base N qual scope f k) P w K mg base :=
  ⟨fun _ => rfl, fun _ => rfl, fun _ => rfl, fun _ => rfl, fun _ => rfl⟩
theorem bf_room {N : List Str} {qual : Str} {scope : Scope} {f : Addr} {k : Nat} : ∀ i, Room k ((BF P w K mg base N qual scope f k).X i).A := fun i => i.room
theorem bf_pso {N : List Str} {qual : Str} {scope : Scope} {f : Addr} {k : Nat} : PsO (BF P w K mg base N qual scope f k) := fun i => passes_of (K := fun e s'' => CX P w i.outer i.H i.s i.E e s'') rfl
theorem relE_start {Z : Hp} {N : List Str} : ∀ {ds : List D} {vs : List V}, Reps K Z ds vs → RelE K Z (startD N ds) (L2.start N vs) := fun {ds vs} r => by
  refine ⟨by unfold startD L2.start; simp [r.length], fun i d e => ?_⟩
  unfold startD at e
  unfold L2.start
  by_cases hi : i < ds.length
  · rw [List.getElem?_append_left (by rw [List.length_map]; exact hi), List.getElem?_map] at e
    obtain ⟨d', h1, h2⟩ := Option.map_eq_some_iff.mp e
    cases h2
    obtain ⟨v, h3, h4⟩ := r.getD h1
    refine ⟨v, ?_, h4⟩
    rw [List.getElem?_append_left (by rw [List.length_map, ← r.length]; exact hi), List.getElem?_map, h3]
    rfl
  · rw [List.getElem?_append_right (by rw [List.length_map]; omega)] at e
    obtain ⟨h1, h2⟩ := List.getElem?_eq_some_iff.mp e
    rw [List.getElem_replicate] at h2
    cases h2
/-- a def, by its body: for every wish E' about exceptions the body's reading follows from G -/
theorem fn_ok {x qual : Str} {params : Arguments} {body : List Stmt} {scope : Scope} {dvs : List V} {kws : List (Str × V)} {f : Addr} {fd : FuncData} {N ps : List Str} {k : Nat} {G : DF} (F0 : FunD K x qual params body scope dvs kws f fd) (S : FnScope N ps scope)
    (len : ∀ ds S Q E, G ds S Q E → ds.length = ps.length) {t' : DCtx → DS} (hbody : PDSs (BF P w K mg base N qual scope f k) K body t')
    (rd : ∀ ds S Q E, G ds S Q E → t' ⟨fun C fs _ S => E C fs S, none⟩ { nx := fun _ S' => Q .non S', rt := Q } (startD N ds) S) : FnOk P w K mg base (L2.CX P w) (k + 1) f fd ps (spD K G) := by
  refine F0.ok S (fun vs H Q E h => ?_) fun cdv A outer s H vs Q E hr h => ?_
  · obtain ⟨Z, St, ds, Q', E', _, r, hF, _⟩ := h
    rw [← r.length]
    exact len _ _ _ _ hF
  · obtain ⟨Z, St, ds, Q', E', rl, r, hF, hQ, hE⟩ := h
    obtain ⟨t, a1, l1⟩ := hbody
    refine ⟨t ⟨fun cls d _ H => E cls d H, 0, .none, none⟩, a1 ⟨cdv, A, outer, s, H, E, hr⟩ _ rfl, (l1 Z _ _ ⟨⟨fun Z1 S1 H1 env σ C fs d s1 _ r1 x1 w1 => hE Z1 S1 H1 C fs d s1 r1 x1 w1⟩, fun _ _ _ h => by cases h⟩).run Z St H _ _ _ _ (Same.refl Z) (relE_start r) rl (rd ds St Q' E' hF)
      ⟨fun Z1 S1 H1 env1 σ1 s1 _ r1 h1 => hQ Z1 S1 H1 .non .non s1 r1 .non h1, fun Z1 S1 H1 d v s1 r1 p1 h1 => hQ Z1 S1 H1 d v s1 r1 p1 h1, fun _ _ _ _ _ _ _ _ h => h.elim, fun _ _ _ _ _ _ _ _ h => h.elim⟩⟩
/-- known under its name -/
theorem FnOk.fnD {x : Str} {f : Addr} {fd : FuncData} {ps : List Str} {k : Nat} {G : DF} (h : FnOk P w K mg base (L2.CX P w) k f fd ps (spD K G)) (hm : mg x = some (.ref f)) (hk : PySem.W.keepIn K (.ref f) = true) (hb : Binds K fd ps []) : FnD P w K mg base k x G [] :=
  ⟨f, fd, ps, [], [], h, hm, hk, hb, .nil, fun _ => .nil⟩
/-- more is asked -/
theorem FnD.imp {x : Str} {k : Nat} {F G : DF} {dds : List D} (h : FnD P w K mg base k x F dds) (q : ∀ ds S Q E, G ds S Q E → F ds S Q E) : FnD P w K mg base k x G dds := by
  obtain ⟨f, fd, ps, dvs, ds, h1, h2⟩ := h.ex
  refine ⟨f, fd, ps, dvs, ds, h1.imp fun vs H Q E z => ?_, h2⟩
  obtain ⟨Z, S, ds, Q', E', a, b, c, d⟩ := z
  exact ⟨Z, S, ds, Q', E', a, b, q _ _ _ _ c, d⟩
end
end DL
end

section
set_option Elab.async false
set_option linter.all false
set_option autoImplicit false
set_option maxRecDepth 100000
set_option maxHeartbeats 2000000
/-! DL10: isinstance; exceptions raised and caught. -/
namespace DL
open PySem PySem.Spec PyProof.Rows L2

/-! ### isinstance -/
def subT : Ty → Ty → Bool
  | .bool, .int => true
  | a, b => decide (a = b)
theorem kitB_ty : ∀ a b : Ty, b ≠ .none → kitB a.name b.name = some (subT a b)
  | .int, .int, _ => by decide +kernel
  | .int, .bool, _ => by decide +kernel
  | .int, .str, _ => by decide +kernel
  | .int, .tuple, _ => by decide +kernel
  | .int, .list, _ => by decide +kernel
  | .int, .dict, _ => by decide +kernel
  | .bool, .int, _ => by decide +kernel
  | .bool, .bool, _ => by decide +kernel
  | .bool, .str, _ => by decide +kernel
  | .bool, .tuple, _ => by decide +kernel
  | .bool, .list, _ => by decide +kernel
  | .bool, .dict, _ => by decide +kernel
  | .str, .int, _ => by decide +kernel
  | .str, .bool, _ => by decide +kernel
  | .str, .str, _ => by decide +kernel
  | .str, .tuple, _ => by decide +kernel
  | .str, .list, _ => by decide +kernel
  | .str, .dict, _ => by decide +kernel
  | .tuple, .int, _ => by decide +kernel
  | .tuple, .bool, _ => by decide +kernel
  | .tuple, .str, _ => by decide +kernel
  | .tuple, .tuple, _ => by decide +kernel
  | .tuple, .list, _ => by decide +kernel
  | .tuple, .dict, _ => by decide +kernel
  | .list, .int, _ => by decide +kernel
  | .list, .bool, _ => by decide +kernel
  | .list, .str, _ => by decide +kernel
  | .list, .tuple, _ => by decide +kernel
  | .list, .list, _ => by decide +kernel
  | .list, .dict, _ => by decide +kernel
  | .dict, .int, _ => by decide +kernel
  | .dict, .bool, _ => by decide +kernel
  | .dict, .str, _ => by decide +kernel
  | .dict, .tuple, _ => by decide +kernel
  | .dict, .list, _ => by decide +kernel
  | .dict, .dict, _ => by decide +kernel
  | .none, .int, _ => by decide +kernel
  | .none, .bool, _ => by decide +kernel
  | .none, .str, _ => by decide +kernel
  | .none, .tuple, _ => by decide +kernel
  | .none, .list, _ => by decide +kernel
  | .none, .dict, _ => by decide +kernel
  | _, .none, h => absurd rfl h
/-- the built-in class of a thing -/
def tyD (S : Sto) : D → Option Ty
  | .non => some .none
  | .bl _ => some .bool
  | .int _ => some .int
  | .str _ => some .str
  | .tup _ => some .tuple
  | .lst _ => some .list
  | .dk _ => some .dict
  | .raw a => (match S a with
    | some (.lst _) => some .list
    | some (.dk _) => some .dict
    | _ => none)
  | _ => none
/-- what the written part says of an own class for isinstance -/
structure InsC (K : PySem.W.Frag) (C : Addr) : Prop where
  cl : Cls K C
  ha : PySem.W.findIn K (.ref C) "__class__" = some (some (.builtin "object.__class__"))
  hn : PySem.W.specialIn K (.builtin "object.__class__") "__get__" = some (some (.builtin "getset_descriptor.__get__"))
  htk : PySem.W.takesIn K (.builtin "object.__class__") = some true
  hm : PySem.W.mroIn K C (.type "object") = some true
/-- isinstance where own classes stand: d is of the class c (b: whether) -/
inductive OwnI (K : PySem.W.Frag) (S : Sto) : D → D → Bool → Prop
  | blt {d : D} {C : Addr} {a : Ty} {b : Bool} (h : tyD S d = some a) (q : PySem.W.kitOne K (.type a.name) (.ref C) = some b) : OwnI K S d (.raw C) b
  | insT {d : D} {C : Addr} {fs : List (Str × D)} {n : Ty} {b : Bool} (h : insOf S d = some (C, fs)) (i : InsC K C) (q : PySem.W.kitOne K (.ref C) (.type n.name) = some b) : OwnI K S d (.ty n) b
  | insC {d : D} {C C2 : Addr} {fs : List (Str × D)} {b : Bool} (h : insOf S d = some (C, fs)) (i : InsC K C) (q : PySem.W.kitOne K (.ref C) (.ref C2) = some b) : OwnI K S d (.raw C2) b
def rIsi' (K : PySem.W.Frag) : RL' := fun ds S Q => match ds with
  | [d, .ty n] => (match tyD S d with
    | some a => n ≠ .none ∧ Q (.bl (subT a n)) S
    | none => ∃ b, OwnI K S d (.ty n) b ∧ Q (.bl b) S)
  | [d, c] => ∃ b, OwnI K S d c b ∧ Q (.bl b) S
  | _ => False
section
variable {K : PySem.W.Frag} {Z0 : Hp}
theorem Rel.tyX {Z : Hp} {S : Sto} {H : Hp} (r : Rel K Z S H) {d : D} {v : V} {a : Ty} (h : Rep K Z d v) (e : tyD S d = some a) : TyX K H v (.type a.name) := by
  cases h with
  | non => cases e; exact .base .non
  | bl b => cases e; exact .base (.bl b)
  | int i => cases e; exact .base (.int i)
  | str x => cases e; exact .base (.str x)
  | tup h1 h2 =>
    cases e
    rcases Same.sqt r.sub h1 with (h3 | ⟨o, h3⟩) | ⟨o, its, n, h3, h4, _⟩
    · exact .base (.tup h3)
    · exact .fTuple h3
    · exact .kTuple h3 h4
  | lst h1 h2 => cases e; exact .base (.lst (r.sub _ _ h1))
  | dk h1 h2 => cases e; exact .base (.dK (r.sub _ _ h1))
  | raw a' =>
    have e' : (match S a' with
    | some (.lst _) => some Ty.list
    | some (.dk _) => some Ty.dict
    | _ => none) = some a := e
    split at e'
    · rename_i q
      cases e'
      obtain ⟨_, u, h1, xs, e2, _⟩ := r.own _ _ q
      subst e2
      exact .base (.lst h1)
    · rename_i q
      cases e'
      obtain ⟨_, u, h1, xs, e2, _⟩ := r.own _ _ q
      subst e2
      exact .base (.dK h1)
    · cases e'
  | _ => cases e
theorem Rel.isC {Z : Hp} {S : Sto} {H : Hp} (r : Rel K Z S H) {d c : D} {v u : V} {b : Bool} (h : Rep K Z d v) (h2 : Rep K Z c u) (o : OwnI K S d c b) : ∃ t uv, ClsV u uv ∧ TyX K H v t ∧ PySem.W.kitOne K t uv = some b := by
  cases o with
  | blt e q => cases h2; exact ⟨_, _, .own _, r.tyX h e, q⟩
  | insT e i q =>
    cases h2
    obtain ⟨a, dx, gs, rfl, h3, _⟩ := r.ins h e
    exact ⟨_, _, .ty _, .base (.ins h3 i.cl i.ha i.hn i.htk i.hm), q⟩
  | insC e i q =>
    cases h2
    obtain ⟨a, dx, gs, rfl, h3, _⟩ := r.ins h e
    exact ⟨_, _, .own _, .base (.ins h3 i.cl i.ha i.hn i.htk i.hm), q⟩
theorem lr_isi : LR K Z0 (rIsi K) (rIsi' K) := ⟨fun Z S H xs ds Q Q' s0 rl pr h q => by
  unfold rIsi' at h
  split at h
  · obtain ⟨v, u, rfl, p, p2⟩ := two_of pr
    split at h
    · rename_i e
      cases p2
      exact ⟨v, _, _, _, _, rfl, .ty _, rl.tyX p e, kit_ty (kitB_ty _ _ h.1), q _ _ _ _ _ (Same.refl _) rl (.bl _) h.2⟩
    · obtain ⟨b, o, h⟩ := h
      obtain ⟨t, uv, k1, k2, k3⟩ := rl.isC p p2 o
      exact ⟨v, _, t, uv, b, rfl, k1, k2, k3, q _ _ _ _ _ (Same.refl _) rl (.bl _) h⟩
  · obtain ⟨v, u, rfl, p, p2⟩ := two_of pr
    obtain ⟨b, o, h⟩ := h
    obtain ⟨t, uv, k1, k2, k3⟩ := rl.isC p p2 o
    exact ⟨v, _, t, uv, b, rfl, k1, k2, k3, q _ _ _ _ _ (Same.refl _) rl (.bl _) h⟩
  · exact h.elim⟩
/-- isinstance(x, (A, B, ..)), built-in classes -/
def dIsiT (ns : List Ty) (ta : DE) : DE := fun env S Q => ta env S fun x S1 => match tyD S1 x with
  | some a => Q (.bl (ns.any fun n => subT a n)) S1
  | none => False
theorem kitAny_tys (a : Ty) : ∀ ns : List Ty, Ty.none ∉ ns → PySem.W.kitAny K (.type a.name) (ns.map fun n => Value.type n.name) = some (ns.any fun n => subT a n)
  | [], _ => rfl
  | n :: ns, h => by
    have hn : n ≠ .none := fun e => h (by rw [e]; exact List.mem_cons_self)
    have k1 := kit_ty (K := K) (kitB_ty a n hn)
    rw [List.map_cons, List.any_cons]
    cases e : subT a n with
    | true => rw [e] at k1; exact kitAny_cons k1 (fun z => by cases z) fun _ => by simp
    | false => rw [e] at k1; exact kitAny_cons k1 (fun _ => by rw [kitAny_tys a ns fun z => h (List.mem_cons_of_mem _ z)]; simp) fun z => by cases z
def tTys : List Ty → TA
  | [] => tNil
  | n :: ns => tCons (tC (.ty n.name)) (tTys ns)
theorem tTys_run : ∀ (ns : List Ty) (σ : L2.St) (H : Hp) (Q : List V → Hp → Prop), Q (ns.map fun n => V.ty n.name) H → tTys ns σ H Q
  | [], _, _, _, h => h
  | n :: ns, σ, H, Q, h => tTys_run ns σ H (fun xs H2 => Q (.ty n.name :: xs) H2) h
theorem clsV_tys : ∀ ns : List Ty, Paired ClsV (ns.map fun n => V.ty n.name) (ns.map fun n => Value.type n.name)
  | [] => .nil
  | n :: ns => .cons (.ty _) (clsV_tys ns)
theorem le_isiT {ta : TE} {ta' : DE} (ns : List Ty) (hn : Ty.none ∉ ns) (hl : ns.length ≤ 100) (h : LE K Z0 ta ta') : LE K Z0 (tCB (rIsiT K) (tCons ta (tCons (tTup (tTys ns)) tNil))) (dIsiT ns ta') := ⟨fun Z S H env σ Q Q' s0 re rl hh q =>
  h.run Z S H env σ _ _ s0 re rl hh fun Z1 S1 H1 d v s1 r1 p1 h1 => by
    split at h1
    · rename_i a e
      refine tTys_run ns σ H1 _ ⟨by rw [List.length_map, sizeLine_eq]; omega, fun p hp => ?_⟩
      obtain ⟨r2, s2⟩ := r1.laid (o := .tup (ns.map fun n => V.ty n.name)) hp
      exact ⟨v, p, _, _, _, _, rfl, upd_same, clsV_tys ns, r2.tyX (p1.mono s2) e, kitAny_tys a ns hn, q _ _ _ _ _ (s1.trans s2) r2 (.bl _) h1⟩
    · exact h1.elim⟩
end
section
variable {F : Fm} {K : PySem.W.Frag} {P : Program} {w : World} {mg : Str → Option Value} {base : Heap} [fam : Fam F P w K mg base]
variable {a b e : Expr} {es : List Expr} {ta tb te : DCtx → DE} {t : DCtx → DA} {pos p p1 p2 p3 : Pos} {x : Str}
include fam
theorem pd_isi (hm : mg "isinstance" = none) (ha : PDA F K (e :: es) t) (hg : ∀ k, Gl (F.X k) "isinstance" := by intro _; rfl)
    (he : ∀ k, starEach (e :: es) (F.X k).env = (false, eval e (F.X k).env) :: starEach es (F.X k).env := by intro _; rfl) (hpl : ∀ k, (backTo pos (starEach es (F.X k).env)).any (·.1) = false := by intro _; rfl) :
    PD F K (.Call (.Name "isinstance" p) (e :: es) [] pos) (fun c => dCB (rIsi' K) (t c)) := pd_callB (callK (r := rIsi) fun _ => call_isi) (fun _ => lr_isi) hm (by decide +kernel) ha hg (by decide) (by decide) he hpl
theorem pd_isiT (ns : List Ty) {n : Nat} (hm : mg "isinstance" = none) (ha : PD F K a ta) (hts : ∀ k, PA (F.X k) es (tTys ns)) (hn : Ty.none ∉ ns := by decide) (hl : ns.length ≤ 100 := by decide) (hg : ∀ k, Gl (F.X k) "isinstance" := by intro _; rfl)
    (he : ∀ k, starEach [a, .Tuple es n p2] (F.X k).env = (false, eval a (F.X k).env) :: starEach [.Tuple es n p2] (F.X k).env := by intro _; rfl) (he2 : ∀ k, starEach [.Tuple es n p2] (F.X k).env = (false, eval (.Tuple es n p2) (F.X k).env) :: starEach [] (F.X k).env := by intro _; rfl)
    (hpl : ∀ k, (backTo pos (starEach [.Tuple es n p2] (F.X k).env)).any (·.1) = false := by intro _; rfl) :
    PD F K (.Call (.Name "isinstance" p) [a, .Tuple es n p2] [] pos) (fun c => dIsiT ns (ta c)) := by
  obtain ⟨t1, a1, l1⟩ := ha.ex
  exact ⟨_, fun k h q => by
    have h := pe_callB (X := F.X k) call_isiT (hg k) (by rw [fam.mg k]; exact hm) (by decide +kernel) (pa_cons (a1 k h q) (pa_cons (pe_tup (hts k)) pa_nil (he2 k)) (he k)) (p := p) (pos := pos) (by decide) (by decide) (he k) (hpl k)
    rw [fam.k k] at h
    exact h, fun Z h c r => le_isiT ns hn hl (l1 Z h c r)⟩
end

/-! ### an exception's making -/
/-- an exception class with __init__(self, f1, ..): self.f1 = f1; .. -/
def spX (C : Addr) (names : List Str) : Sp := fun vs H Q _ => ∃ a ws, vs = .ref a :: ws ∧ ws.length = names.length ∧ H a = some (exo a C none) ∧
  ∀ dx H', H dx = none → dx ≠ a → (∀ b o, H b = some o → b ≠ a → H' b = some o) → H' a = some (exo a C (some dx)) → H' dx = some (exd dx (names.zip ws).reverse) → Q .non H'
structure ExC (P : Program) (w : World) (K : PySem.W.Frag) (mg : Str → Option Value) (base : Heap) (x : Str) (C : Addr) (names : List Str) : Prop where
  ex : ∃ (fI : Addr) (fd : FuncData) (ps : List Str), OexC K C ∧ PySem.W.findIn K (.ref C) "__init__" = some (some (.ref fI)) ∧ PySem.W.typeIn K (.ref fI) = some (.type "function") ∧ FnOk P w K mg base (L2.CX P w) 1 fI fd ps (spX C names) ∧ Binds K fd ps [] ∧ mg x = some (.ref C)
def dRaise (C : Addr) (names : List Str) (W' : DW) (t : DA) : DS := fun _ env S => t env S fun ds S1 => ds.length = names.length ∧ W' C ((names.zip ds).reverse) env S1
section
variable {K : PySem.W.Frag} {Z0 : Hp}
theorem RepF.append {Z : Hp} : ∀ {f1 f2 : List (Str × D)} {g1 g2 : List (Str × V)}, RepF K Z f1 g1 → RepF K Z f2 g2 → RepF K Z (f1 ++ f2) (g1 ++ g2)
  | _, _, _, _, .nil, h => h
  | _, _, _, _, .cons a r, h => .cons a (RepF.append r h)
theorem RepF.reverse {Z : Hp} : ∀ {f1 : List (Str × D)} {g1 : List (Str × V)}, RepF K Z f1 g1 → RepF K Z f1.reverse g1.reverse
  | _, _, .nil => .nil
  | _, _, .cons a r => by rw [List.reverse_cons, List.reverse_cons]; exact (RepF.reverse r).append (.cons a .nil)
theorem RepF.zip {Z : Hp} : ∀ (names : List Str) {ds : List D} {vs : List V}, Reps K Z ds vs → RepF K Z (names.zip ds) (names.zip vs)
  | [], _, _, _ => by rw [List.zip_nil_left, List.zip_nil_left]; exact .nil
  | n :: ns, _, _, .nil => by rw [List.zip_nil_right, List.zip_nil_right]; exact .nil
  | n :: ns, _, _, .cons a r => .cons a (RepF.zip ns r)
theorem ls_raise {W : WX} {W' : DW} {C : Addr} {names : List Str} {t : TA} {t' : DA} (hn : names.length ≤ 900) (rw' : RW K Z0 W W') (h : LA K Z0 t t') :
    LS K Z0 (fun _ σ H => tMkO C (spX C names) [] t σ H fun cls d H' => W cls d σ H') (dRaise C names W' t') := ⟨fun Z S H env σ D D' s0 re rl hh e =>
  h.run Z S H env σ _ _ s0 re rl hh fun Z1 S1 H1 ds vs s1 r1 p1 h1 => by
    obtain ⟨hl, h1⟩ := h1
    have hl2 : vs.length = names.length := by rw [← p1.length]; exact hl
    refine ⟨by omega, fun a ha => ⟨a, vs, by rw [List.append_nil], hl2, upd_same, fun dx H2 hdx hne hk h3 h4 => ⟨rfl, dx, _, h3, h4, ?_, ?_⟩⟩⟩
    · rw [upd_ne hne] at hdx; exact hdx
    · rw [upd_ne hne] at hdx
      have hd : ∀ b o, H1 b = some o → (upd (L2.del H2 a) dx (.xd (names.zip vs).reverse)) b = some o := fun b o q => by
        have hba : b ≠ a := ne_of_none q ha
        have hbd : b ≠ dx := ne_of_none q hdx
        rw [upd_ne hbd, L2.del_ne hba]
        exact hk b o (by rw [upd_ne hba]; exact q) hba
      have nz : Z1 dx = none := r1.sub.free hdx
      have sz : Same Z1 (upd Z1 dx (.xd (names.zip vs).reverse)) := fun b u q => by rw [upd_ne (ne_of_none q nz)]; exact q
      have r2 : Rel K (upd Z1 dx (.xd (names.zip vs).reverse)) S1 (upd (L2.del H2 a) dx (.xd (names.zip vs).reverse)) := by
        refine ⟨fun b u q => ?_, fun b o q => ?_⟩
        · by_cases hb : b = dx
          · subst hb; rw [upd_same] at q ⊢; exact q
          · rw [upd_ne hb] at q; exact hd b u (r1.sub b u q)
        · obtain ⟨z1, u, z2, z3⟩ := r1.own b o q
          have hb : b ≠ dx := ne_of_none z2 hdx
          exact ⟨by rw [upd_ne hb]; exact z1, u, hd b u z2, z3.mono sz⟩
      exact rw'.run _ S1 _ env σ C _ (some dx) ((s0.trans s1).trans sz) (re.mono (s1.trans sz)) r2 (.inr ⟨dx, _, rfl, upd_same, ((RepF.zip names p1).reverse).mono sz⟩) h1⟩
end
section
variable {F : Fm} {K : PySem.W.Frag} {P : Program} {w : World} {mg : Str → Option Value} {base : Heap} [fam : Fam F P w K mg base]
variable {e : Expr} {es : List Expr} {t : DCtx → DA} {pos p p1 p2 p3 : Pos} {x : Str}
include fam
theorem s_raise {C : Addr} {names : List Str} {j : Nat} (c : ExC P w K mg base x C names) (hr : ∀ k, Room j (F.X k).A) (hj : 2 ≤ j) (ha : PDA F K (e :: es) t) (hn : names.length ≤ 900 := by decide) (hc : ∀ k, (F.X k).calm = true := by intro _; rfl) (hg : ∀ k, Gl (F.X k) x := by intro _; rfl)
    (hdb : (x == ("__debug__" : Str)) = false := by decide) (he : ∀ k, starEach (e :: es) (F.X k).env = (false, eval e (F.X k).env) :: starEach es (F.X k).env := by intro _; rfl) (hpl : ∀ k, (backTo pos (starEach es (F.X k).env)).any (·.1) = false := by intro _; rfl) :
    PDS F K (.Raise (some (.Call (.Name x p) (e :: es) [] pos)) none p2) (fun c => dRaise C names c.w (t c)) := by
  obtain ⟨fI, fd, ps, h1, h2, h3, h4, h5, h6⟩ := c.ex
  obtain ⟨ta, a1, a2⟩ := ha.ex
  refine ⟨_, fun i h q => ?_, fun Z h c r => ls_raise hn r.w (a2 Z h c r)⟩
  have e1 := fam.prog i
  have e2 := fam.w i
  have e3 := fam.k i
  have e4 := fam.mg i
  have e5 := fam.base i
  exact ps_raise (hc i) (F.tk i h q) (pmk_oex (X := F.X i) (CX := L2.CX (F.X i).prog (F.X i).w) (k := 1) (by rw [e3]; exact h1) (by rw [e3]; exact h2) (by rw [e3]; exact h3) (by rw [e1, e2, e3, e4, e5]; exact h4) ((hr i).mono hj) (by rw [e3]; exact h5) .nil passL (hg i) (by rw [e4]; exact h6) (a1 i h q) hdb (he i) (hpl i))
end
end DL
end

section
set_option Elab.async false
set_option linter.all false
set_option autoImplicit false
set_option maxRecDepth 100000
set_option maxHeartbeats 2000000
/-! DL11: own classes made; try .. except; a tuple repeated; a display of a dict. -/
namespace DL
open PySem PySem.Spec PyProof.Rows L2

/-! ### C(..), the new instance frozen when it has been made -/
def dMake (C : Addr) (G : DF) (dds : List D) (W' : DW) (t : DA) : DE := fun env S Q => t env S fun ds S1 => ∀ x, S1 x = none →
  G (.raw x :: (ds ++ dds)) (updS S1 x (.ins C [])) (fun d S2 => d = .non ∧ ∃ fs, S2 x = some (.ins C fs) ∧ Q (.ins C fs) (delS S2 x)) (fun C' fs S' => W' C' fs env S')
section
variable {K : PySem.W.Frag} {Z0 : Hp} {ar : TA} {ar' : DA}
theorem le_make {C : Addr} {G : DF} {W : WX} {W' : DW} {dvs : List V} {dds : List D} (hd : ∀ Z, Reps K Z dds dvs) (rw' : RW K Z0 W W') (h : LA K Z0 ar ar') : LE K Z0 (fun σ H Q => tMake C (spD K G) dvs (WE W σ) ar σ H Q) (dMake C G dds W' ar') := ⟨fun Z S H env σ Q Q' s0 re rl hh q =>
  h.run Z S H env σ _ _ s0 re rl hh fun Z1 S1 H1 ds vs s1 r1 p1 h1 x dx hx hdx hne => by
    obtain ⟨r2, s2⟩ := r1.laid (o := .own x) hdx
    have hx2 : (upd H1 dx (.own x)) x = none := by rw [upd_ne (fun e => hne e.symm)]; exact hx
    obtain ⟨r3, n3⟩ := r2.new (o := .ins C []) (u := .ins C dx []) hx2 ⟨dx, [], rfl, .nil⟩
    refine ⟨_, _, .raw x :: (ds ++ dds), _, _, r3, .cons (.raw x) (((p1.mono s2)).append (hd _)), h1 x n3, fun Z2 S2 H2 d v z2 r4 p4 h4 => ?_, fun Z2 S2 H2 C' fs d z2 r4 x4 w4 => ?_⟩
    · obtain ⟨rfl, fs, e, h5⟩ := h4
      cases p4
      obtain ⟨u, e2, e3, r5, z3⟩ := r4.freeze e
      obtain ⟨dx', gs, rfl, e4⟩ := e3
      exact ⟨rfl, q _ _ _ _ _ (((s1.trans s2).trans z2).trans z3) r5 (.ins upd_same (e4.mono z3)) h5⟩
    · exact rw'.run Z2 S2 H2 env σ C' fs d (((s0.trans s1).trans s2).trans z2) (re.mono ((s1.trans s2).trans z2)) r4 x4 w4⟩
end
/-- a class's making, where the wish about exceptions knows the names -/
theorem pe_makeAt {X : Cx} {CX : CXT} {k : Nat} {f C : Addr} {fd : FuncData} {ps : List Str} {sp : Sp} {dvs : List V} {ds : List Value} {E : L2.St → XK} {x : Str} {p pos : Pos} {e : Expr} {es : List Expr} {t : TA}
    (M : Mk X.K C f) (F : FnOk X.prog X.w X.K X.mg X.base CX k f fd ps sp) (hr : Room (k + 1) X.A) (hg : Gl X x) (hm : X.mg x = some (.ref C)) (hb : Binds X.K fd ps ds) (hd : Vals dvs ds) (hx : ∀ σ, PassesAt CX X σ (E σ))
    (ha : PA X (e :: es) t) (hdb : (x == ("__debug__" : Str)) = false) (he : starEach (e :: es) X.env = (false, eval e X.env) :: starEach es X.env) (hpl : (backTo pos (starEach es X.env)).any (·.1) = false) :
    PE X (.Call (.Name x p) (e :: es) [] pos) (fun σ H Q => tMake C sp dvs (E σ) t σ H Q) := by
  refine ⟨fun pins s σ H Q I h => wpAny_Call_Name_kw (ld_glob I hg hm ?_ hdb)⟩
  refine PySem.W.callWith_K (h₀ := X.base) I.ok.mod.kin M.kp (thn (ha.run pos pins s σ H _ I h) fun us s1 ⟨vs, H1, I1, r, q⟩ => ⟨I1.kIn, ?_⟩) he hpl
  have hq := q (s1.heap.objs.size + 1) s1.heap.objs.size (I1.hok.fresh (Nat.le_succ _)) (I1.hok.fresh (Nat.le_refl _)) (Nat.ne_of_lt (Nat.lt_succ_self _))
  have I2 := Inv.made (C := C) I1
  have r2 : Vals (V.ref (s1.heap.objs.size + 1) :: (vs ++ dvs)) (Value.ref (s1.heap.objs.size + 1) :: (us ++ ds)) := .cons rfl (r.append hd)
  have hl : (Value.ref (s1.heap.objs.size + 1) :: us ++ ds).length = ps.length := by
    have z := r2.length
    rw [F.len _ _ _ _ hq] at z
    exact z.symm
  refine wpAny_call (make_map (f := f) I1.kIn M.makes M.init (beq_iff_eq.mp M.fn) (codeAny_mono (F.run _ X.stack _ _ ⟨Value.ref (s1.heap.objs.size + 1) :: us, []⟩ (Value.ref (s1.heap.objs.size + 1) :: (us ++ ds)) _ _ (E σ) (hr.make C us [])
    (I2.env0.make C us []) (hb _ (Value.ref (s1.heap.objs.size + 1) :: us) I2.kIn hl) r2 hq) fun r s' z => ?_))
  cases r with
  | error e => exact hx σ pins _ _ e s' I2 z
  | ok fl =>
    cases fl with
    | ret u =>
      obtain ⟨v, H', I3, rv, ev, q3⟩ := I2.after z
      subst ev
      exact ⟨rv, ⟨V.ref (s1.heap.objs.size + 1), H', I3, rfl, q3⟩⟩
    | next => exact False.elim z
    | brk => exact False.elim z
    | cont => exact False.elim z
structure MkD (P : Program) (w : World) (K : PySem.W.Frag) (mg : Str → Option Value) (base : Heap) (k : Nat) (x : Str) (C : Addr) (G : DF) (dds : List D) : Prop where
  ex : ∃ (f : Addr) (fd : FuncData) (ps : List Str) (dvs : List V) (ds : List Value), Mk K C f ∧ FnOk P w K mg base (L2.CX P w) k f fd ps (spD K G) ∧ mg x = some (.ref C) ∧ Binds K fd ps ds ∧ Vals dvs ds ∧ ∀ Z, Reps K Z dds dvs
section
variable {F : Fm} {K : PySem.W.Frag} {P : Program} {w : World} {mg : Str → Option Value} {base : Heap} [fam : Fam F P w K mg base]
variable {e : Expr} {es : List Expr} {t : DCtx → DA} {pos p p1 p2 p3 : Pos} {x : Str}
include fam
theorem pd_make {k : Nat} {C : Addr} {G : DF} {dds : List D} (c : MkD P w K mg base k x C G dds) {j : Nat} (hr : ∀ k, Room j (F.X k).A) (hk : k + 1 ≤ j) (ha : PDA F K (e :: es) t) (hg : ∀ k, Gl (F.X k) x := by intro _; rfl)
    (hdb : (x == ("__debug__" : Str)) = false := by decide) (he : ∀ k, starEach (e :: es) (F.X k).env = (false, eval e (F.X k).env) :: starEach es (F.X k).env := by intro _; rfl) (hpl : ∀ k, (backTo pos (starEach es (F.X k).env)).any (·.1) = false := by intro _; rfl) :
    PD F K (.Call (.Name x p) (e :: es) [] pos) (fun c => dMake C G dds c.w (t c)) := by
  obtain ⟨f, fd, ps, dvs, ds, h1, h2, h3, h4, h5, h6⟩ := c.ex
  obtain ⟨ta, a1, a2⟩ := ha.ex
  refine ⟨fun h σ H Q => tMake C (spD K G) dvs (WE h.W σ) (ta h) σ H Q, fun i h q => ?_, fun Z h c r => le_make h6 r.w (a2 Z h c r)⟩
  have e1 := fam.prog i
  have e2 := fam.w i
  have e3 := fam.k i
  have e4 := fam.mg i
  have e5 := fam.base i
  exact pe_makeAt (X := F.X i) (CX := L2.CX (F.X i).prog (F.X i).w) (E := WE h.W) (by rw [e3]; exact h1) (by rw [e1, e2, e3, e4, e5]; exact h2) ((hr i).mono hk) (hg i) (by rw [e4]; exact h3) (by rw [e3]; exact h4) h5 (fun σ => passAt (F.tk i h q) σ) (a1 i h q) hdb (he i) (hpl i)
end

/-! ### try .. except -/
structure TrI (F : Fm) where
  i : F.ι
  pn : List (Addr × Obj)
  xe : Value → Shared → Prop
  po : PassesOwn (model (F.X i).prog (F.X i).w) (F.X i).A (F.X i).env xe
/-- the bodies of a try -/
def trF (F : Fm) : Fm where
  ι := TrI F
  X := fun q => (F.X q.i).tr q.pn q.xe
  ok := fun q h => Takes ((F.X q.i).tr q.pn q.xe) h.W
  tk := fun _ _ h => h
structure SuI (F : Fm) where
  i : F.ι
  a : Addr
  oe : Obj
  pn : List (Addr × Obj)
/-- an except clause's suite -/
def suF (F : Fm) : Fm where
  ι := SuI F
  X := fun q => (F.X q.i).suite q.a ((q.a, q.oe) :: q.pn)
  ok := fun q h => h.W = (fun _ _ _ _ => False) ∧ h.a = q.a ∧ Zc h.cls h.d q.oe ∧ ∃ vs, q.oe.data = .fields vs
  tk := fun q h e => by rw [e.1]; exact takes0
instance {F : Fm} {P : Program} {w : World} {K : PySem.W.Frag} {mg : Str → Option Value} {base : Heap} [fam : Fam F P w K mg base] : Fam (trF F) P w K mg base :=
  ⟨fun q => fam.prog q.i, fun q => fam.w q.i, fun q => fam.k q.i, fun q => fam.mg q.i, fun q => fam.base q.i⟩
instance {F : Fm} {P : Program} {w : World} {K : PySem.W.Frag} {mg : Str → Option Value} {base : Heap} [fam : Fam F P w K mg base] : Fam (suF F) P w K mg base :=
  ⟨fun q => fam.prog q.i, fun q => fam.w q.i, fun q => fam.k q.i, fun q => fam.mg q.i, fun q => fam.base q.i⟩
theorem tr_pso {F : Fm} : PsO (trF F) := fun q => q.po
theorem tr_room {F : Fm} {j : Nat} (h : ∀ k, Room j (F.X k).A) : ∀ k, Room j ((trF F).X k).A := fun q => h q.i
/-- the ends of a suite behind `as' the name in slot i -/
def offN (i : Nat) (D : DEnds) : DEnds := { nx := fun e S => D.nx (e.set i none) S, rt := D.rt, bk := fun e S => D.bk (e.set i none) S, ct := fun e S => D.ct (e.set i none) S }
def xAs (K : PySem.W.Frag) (C0 : Addr) (i : Nat) (ts : DCtx → DS) (w0 : DW) (D : DEnds) : DW := fun C fs env S =>
  (PySem.W.exmOne K (.ref C) (.ref C0) = some true ∧ ∀ a, ts ⟨W0, some (a, C, fs)⟩ (offN i D) (env.set i (some (.raw a))) S) ∨ (PySem.W.exmOne K (.ref C) (.ref C0) = some false ∧ w0 C fs env S)
def dTryAs (K : PySem.W.Frag) (C0 : Addr) (i : Nat) (tb ts : DCtx → DS) (c : DCtx) : DS := fun D env S => tb ⟨xAs K C0 i ts c.w D, none⟩ D env S
def xOn (K : PySem.W.Frag) (C0 : Addr) (ts : DCtx → DS) (w0 : DW) (D : DEnds) : DW := fun C fs env S =>
  (PySem.W.exmOne K (.ref C) (.ref C0) = some true ∧ ∀ a, ts ⟨W0, some (a, C, fs)⟩ D env S) ∨ (PySem.W.exmOne K (.ref C) (.ref C0) = some false ∧ w0 C fs env S)
def dTryOn (K : PySem.W.Frag) (C0 : Addr) (tb ts : DCtx → DS) (c : DCtx) : DS := fun D env S => tb ⟨xOn K C0 ts c.w D, none⟩ D env S
theorem XR.mono {K : PySem.W.Frag} {Z Z' : Hp} {fs : List (Str × D)} {d : Option Addr} (s : Same Z Z') (h : XR K Z fs d) : XR K Z' fs d := by
  rcases h with h | ⟨dd, gs, h1, h2, h3⟩
  · exact .inl h
  · exact .inr ⟨dd, gs, h1, s _ _ h2, h3.mono s⟩
section
variable {K : PySem.W.Frag} {C0 : Addr} {i : Nat} {t1 t2 : HCtx → TS} {tb ts : DCtx → DS} {h : HCtx} {c : DCtx} {Z0 : Hp}
theorem ls_tryAs (l1 : ∀ Z0 h c, RC K Z0 h c → LS K Z0 (t1 h) (tb c)) (l2 : ∀ Z0 h c, RC K Z0 h c → LS K Z0 (t2 h) (ts c)) (r : RC K Z0 h c) :
    LS K Z0 (fun D σ H => t1 ⟨wAs K (.ref C0) i (fun a cls d => t2 ⟨fun _ _ _ _ => False, a, cls, d⟩) h.W D, 0, .none, none⟩ D σ H) (dTryAs K C0 i tb ts c) := ⟨fun Z S H env σ D D' s0 re rl hh e => by
  refine (l1 Z _ ⟨xAs K C0 i ts c.w D', none⟩ ⟨⟨fun Z1 S1 H1 env1 σ1 C fs d z1 re1 r1 x1 w1 => ?_⟩, fun _ _ _ z => by cases z⟩).run Z S H env σ D D' (Same.refl _) re rl hh e
  rcases w1 with ⟨m, w1⟩ | ⟨m, w1⟩
  · refine ⟨true, m, fun _ a ha => ?_, fun z => by cases z⟩
    have w2 := w1 a
    refine (l2 Z1 ⟨fun _ _ _ _ => False, a, .ref C, d⟩ ⟨W0, some (a, C, fs)⟩ ⟨⟨fun _ _ _ _ _ _ _ _ _ _ _ _ z => z⟩, fun _ _ _ z => by cases z; exact ⟨rfl, rfl, x1⟩⟩).run Z1 S1 H1 _ _ _ _ (Same.refl _) (re1.set (.raw a) i) r1 w2 ?_
    exact ⟨fun Z2 S2 H2 e2 σ2 z2 re2 r2 q => e.nx Z2 S2 H2 _ _ (z1.trans z2) (re2.setN i none) r2 q, fun Z2 S2 H2 d v z2 r2 p2 q => e.rt Z2 S2 H2 d v (z1.trans z2) r2 p2 q,
      fun Z2 S2 H2 e2 σ2 z2 re2 r2 q => e.bk Z2 S2 H2 _ _ (z1.trans z2) (re2.setN i none) r2 q, fun Z2 S2 H2 e2 σ2 z2 re2 r2 q => e.ct Z2 S2 H2 _ _ (z1.trans z2) (re2.setN i none) r2 q⟩
  · exact ⟨false, m, (fun z => by cases z), fun _ => r.w.run Z1 S1 H1 env1 σ1 C fs d (s0.trans z1) re1 r1 x1 w1⟩⟩
theorem ls_tryOn (l1 : ∀ Z0 h c, RC K Z0 h c → LS K Z0 (t1 h) (tb c)) (l2 : ∀ Z0 h c, RC K Z0 h c → LS K Z0 (t2 h) (ts c)) (r : RC K Z0 h c) :
    LS K Z0 (fun D σ H => t1 ⟨wOnly K (.ref C0) (fun a cls d => t2 ⟨fun _ _ _ _ => False, a, cls, d⟩) h.W D, 0, .none, none⟩ D σ H) (dTryOn K C0 tb ts c) := ⟨fun Z S H env σ D D' s0 re rl hh e => by
  refine (l1 Z _ ⟨xOn K C0 ts c.w D', none⟩ ⟨⟨fun Z1 S1 H1 env1 σ1 C fs d z1 re1 r1 x1 w1 => ?_⟩, fun _ _ _ z => by cases z⟩).run Z S H env σ D D' (Same.refl _) re rl hh e
  rcases w1 with ⟨m, w1⟩ | ⟨m, w1⟩
  · refine ⟨true, m, fun _ a ha => ?_, fun z => by cases z⟩
    exact (l2 Z1 ⟨fun _ _ _ _ => False, a, .ref C, d⟩ ⟨W0, some (a, C, fs)⟩ ⟨⟨fun _ _ _ _ _ _ _ _ _ _ _ _ z => z⟩, fun _ _ _ z => by cases z; exact ⟨rfl, rfl, x1⟩⟩).run Z1 S1 H1 _ _ _ _ (Same.refl _) re1 r1 (w1 a) (e.mono z1)
  · exact ⟨false, m, (fun z => by cases z), fun _ => r.w.run Z1 S1 H1 env1 σ1 C fs d (s0.trans z1) re1 r1 x1 w1⟩⟩
end
/-- e.f of the exception in hand, of the class C -/
def dXf (C : Addr) (f : Str) (te : DCtx → DE) (c : DCtx) : DE := fun env S Q => te c env S fun x S1 => ∃ a fs v, c.ex = some (a, C, fs) ∧ x = .raw a ∧ fs.lookup f = some v ∧ Q v S1
section
variable {F : Fm} {K : PySem.W.Frag} {P : Program} {w : World} {mg : Str → Option Value} {base : Heap} [fam : Fam F P w K mg base]
variable {e : Expr} {te : DCtx → DE} {tb ts : DCtx → DS} {body suite : List Stmt} {b0 : Stmt} {pos p np : Pos} {x n : Str}
include fam
theorem s_tryAs {C0 : Addr} {i : Nat} (hm : mg x = some (.ref C0)) (hN : ∀ k, (F.X k).N.Nodup) (hb : PDSs (trF F) K body tb) (hs : PDSs (suF F) K (b0 :: suite) ts) (hst : ∀ k, (F.X k).stack = (F.X k).env :: (F.X k).outer := by intro _; rfl) (hf : ∀ k, (F.X k).env.frame = some (F.X k).env.locals := by intro _; rfl)
    (hi : ∀ k, (F.X k).N[i]? = some n := by intro _; rfl) (hln : ∀ k, (F.X k).env.kindOf n = some .local := by intro _; rfl) (hg : ∀ k, Gl (F.X k) x := by intro _; rfl) (hdb : (x == ("__debug__" : Str)) = false := by decide) :
    PDS F K (.Try body [.ExceptHandler (some (.Name x np)) (some n) (b0 :: suite) p] [] [] pos) (dTryAs K C0 i tb ts) := by
  obtain ⟨t1, a1, l1⟩ := hb.ex
  obtain ⟨t2, a2, l2⟩ := hs.ex
  refine ⟨fun h D σ H => t1 ⟨wAs K (.ref C0) i (fun a cls d => t2 ⟨fun _ _ _ _ => False, a, cls, d⟩) h.W D, 0, .none, none⟩ D σ H, fun k h q => ?_, fun Z h c r => ls_tryAs l1 l2 r⟩
  have z := ps_try_as (X := F.X k) (c := .ref C0) (Wout := h.W) (tb := fun W => t1 ⟨W, 0, .none, none⟩) (ts := fun a cls d => t2 ⟨fun _ _ _ _ => False, a, cls, d⟩) (np := np) (pos := pos) (pos' := p) (hst k) (hf k) (hN k) (hi k) (hln k) ⟨hg k, hdb, .inl (by rw [fam.mg k]; exact hm)⟩ (F.tk k h q)
    (fun W pn xe tk po => a1 ⟨k, pn, xe, po⟩ ⟨W, 0, .none, none⟩ tk) (fun a oe cls d pn zc vs => a2 ⟨k, a, oe, pn⟩ ⟨fun _ _ _ _ => False, a, cls, d⟩ ⟨rfl, rfl, zc, vs⟩)
  rw [fam.k k] at z
  exact z
theorem s_tryOn {C0 : Addr} (hm : mg x = some (.ref C0)) (hb : PDSs (trF F) K body tb) (hs : PDSs (suF F) K (b0 :: suite) ts) (hst : ∀ k, (F.X k).stack = (F.X k).env :: (F.X k).outer := by intro _; rfl)
    (hf : ∀ k, (F.X k).env.frame = some (F.X k).env.locals := by intro _; rfl) (hg : ∀ k, Gl (F.X k) x := by intro _; rfl) (hdb : (x == ("__debug__" : Str)) = false := by decide) :
    PDS F K (.Try body [.ExceptHandler (some (.Name x np)) none (b0 :: suite) p] [] [] pos) (dTryOn K C0 tb ts) := by
  obtain ⟨t1, a1, l1⟩ := hb.ex
  obtain ⟨t2, a2, l2⟩ := hs.ex
  refine ⟨fun h D σ H => t1 ⟨wOnly K (.ref C0) (fun a cls d => t2 ⟨fun _ _ _ _ => False, a, cls, d⟩) h.W D, 0, .none, none⟩ D σ H, fun k h q => ?_, fun Z h c r => ls_tryOn l1 l2 r⟩
  have z := ps_try_only (X := F.X k) (c := .ref C0) (Wout := h.W) (tb := fun W => t1 ⟨W, 0, .none, none⟩) (ts := fun a cls d => t2 ⟨fun _ _ _ _ => False, a, cls, d⟩) (np := np) (pos := pos) (pos' := p) (hst k) (hf k) ⟨hg k, hdb, .inl (by rw [fam.mg k]; exact hm)⟩ (F.tk k h q)
    (fun W pn xe tk po => a1 ⟨k, pn, xe, po⟩ ⟨W, 0, .none, none⟩ tk) (fun a oe cls d pn zc vs => a2 ⟨k, a, oe, pn⟩ ⟨fun _ _ _ _ => False, a, cls, d⟩ ⟨rfl, rfl, zc, vs⟩)
  rw [fam.k k] at z
  exact z
theorem pd_xf {C : Addr} {f : Str} (hc : XfC K C) (hn : PySem.W.findIn K (.ref C) f = some none) (he : PD (suF F) K e te) (hb : ∀ k, attributeBase e f (F.X k).env (eval e (F.X k).env) = eval e (F.X k).env := by intro _; rfl) :
    PD (suF F) K (.Attribute e f pos) (dXf C f te) := by
  obtain ⟨t1, a1, l1⟩ := he.ex
  refine ⟨fun h => tXf h.a h.cls h.d C f (t1 h), fun q h ok => ?_, fun Z h c r => ⟨fun Z1 S H env σ Q Q' s0 re rl hh q => ?_⟩⟩
  · obtain ⟨k, a, oe, pn⟩ := q
    obtain ⟨h1, h2, h3, h4⟩ := ok
    have z := a1 ⟨k, a, oe, pn⟩ h ⟨h1, h2, h3, h4⟩
    obtain ⟨W, a', cls, d⟩ := h
    have h2' : a' = a := h2
    subst h2'
    exact pe_xf (X := F.X k) (by rw [fam.k k]; exact hc) (by rw [fam.k k]; exact hn) h3 h4 z (hb k)
  · refine (l1 Z h c r).run Z1 S H env σ _ _ s0 re rl hh fun Z2 S2 H2 d v s2 r2 p2 ⟨a, fs, v', h1, h2, h3, h4⟩ => ?_
    subst h2
    obtain ⟨q1, q2, q3⟩ := r.ex _ _ _ h1
    cases p2
    rcases q3 with ⟨_, q4⟩ | ⟨dd, gs, q4, q5, q6⟩
    · rw [q4] at h3; cases h3
    · obtain ⟨v2, q7, q8⟩ := q6.lookup f h3
      have sZ := s0.trans s2
      exact ⟨by rw [q1], q2, dd, gs, v2, q4, r2.sub _ _ (sZ _ _ q5), q7, q _ _ _ _ _ s2 r2 (q8.mono sZ) h4⟩
end

/-! ### a tuple repeated -/
def rRep' : R2' := fun x y S Q => match x, y with
  | .tup xs, .int k => xs ≠ [] ∧ 2 ≤ k ∧ k ≤ 1000 ∧ xs.length ≤ 1000 ∧ Q (.tup (List.replicate k.toNat xs).flatten) S
  | _, _ => False
theorem Reps.repl {K : PySem.W.Frag} {Z : Hp} {ds : List D} {vs : List V} (h : Reps K Z ds vs) : ∀ n : Nat, Reps K Z (List.replicate n ds).flatten (List.replicate n vs).flatten
  | 0 => .nil
  | n + 1 => by rw [List.replicate_succ, List.replicate_succ, List.flatten_cons, List.flatten_cons]; exact h.append (Reps.repl h n)
theorem lr_rep {K : PySem.W.Frag} {Z0 : Hp} : L2R K Z0 (rRepT K) rRep' := ⟨fun Z S H x y d e Q Q' s0 rl pd pe h q => by
  unfold rRep' at h
  split at h
  · obtain ⟨h1, h2, h3, h4, h5⟩ := h
    cases pe
    cases pd with
    | tup a r =>
      refine ⟨_, _, _, rfl, rfl, Same.sqt rl.sub a, fun z => h1 (by subst z; cases r; rfl), h2, h3, by rw [← r.length]; exact h4, fun p hp => ?_⟩
      obtain ⟨r2, s2⟩ := rl.laid (o := .tup (List.replicate _ _).flatten) hp
      exact q _ _ _ _ _ s2 r2 (.tup (.inl (.inl upd_same)) ((r.repl _).mono s2)) h5
  · exact h.elim⟩
section
variable {F : Fm} {K : PySem.W.Frag} {P : Program} {w : World} {mg : Str → Option Value} {base : Heap} [fam : Fam F P w K mg base]
variable {a b : Expr} {ta tb : DCtx → DE} {pos : Pos}
include fam
theorem pd_rep (ha : PD F K a ta) (hb : PD F K b tb) : PD F K (.BinOp a .Mult b pos) (fun c => dOp rRep' (ta c) (tb c)) := pd_op (opK (r := rRepT) fun _ => op_repT) (fun _ => lr_rep) ha hb
end

/-! ### {k: v} -/
theorem le_dispC {K : PySem.W.Frag} {Z0 : Hp} {kk : Key} {v : V} {d : D} (hd : ∀ Z, Rep K Z d v) : LE K Z0 (tDisp [(tC (kV kk), tC v)]) (dC (.dk [(kk, d)])) := ⟨fun Z S H env σ Q Q' s0 re rl hh q p hp => by
  refine ⟨upd_same, [(kk, v)], rfl, by simp, ?_⟩
  have e : upd (upd H p (.dK [])) p (.dK (mergeK [] [(kk, v)])) = upd H p (.dK [(kk, v)]) := by
    funext b; unfold upd; split <;> rfl
  show Q _ (upd (upd H p (.dK [])) p (.dK (mergeK [] [(kk, v)])))
  rw [e]
  obtain ⟨r2, s2⟩ := rl.laid (o := .dK [(kk, v)]) hp
  exact q _ _ _ _ _ s2 r2 (.dk upd_same (.cons (hd _) .nil)) hh⟩
section
variable {F : Fm} {K : PySem.W.Frag} {P : Program} {w : World} {mg : Str → Option Value} {base : Heap} [fam : Fam F P w K mg base]
variable {pos p1 p2 : Pos} {j1 j2 : Nat} {i1 i2 : Int}
include fam
theorem pd_dispII : PD F K (.Dict [some (.Constant (.int i1) j1 p1)] [.Constant (.int i2) j2 p2] pos) (fun _ => dC (.dk [(.inl i1, .int i2)])) :=
  ⟨fun _ => _, fun _ _ _ => pe_disp (pps_cons pe_int pe_int pps_nil) rfl rfl (fun z => by cases z) (by simp), fun _ _ _ _ => le_dispC (kk := .inl i1) fun _ => .int i2⟩
end
end DL
end

section
set_option Elab.async false
set_option linter.all false
set_option autoImplicit false
set_option maxRecDepth 100000
set_option maxHeartbeats 2000000
/-! DL12: short forms for calls of built-in things; comprehensions whose list may change; a thing opened to a reading of its own. -/
namespace DL
open PySem PySem.Spec PyProof.Rows L2

theorem blk_room {F : Fm} {scope : Scope} {j : Nat} (h : ∀ k, Room j (F.X k).A) : ∀ k, Room j ((blkF F scope).X k).A := fun q => h q.1

/-! ### a comprehension whose list may change -/
def dLcM (wi : DI) (g : DG) (tt : DT) (te : DE) (vs : List Nat) : DE := fun env S Q => wi env S fun items G S1 => ∃ P : Nat → List D → Sto → Prop, P 0 [] S1 ∧ (∀ i acc S Dd o, P i acc S → S Dd = none → G (updS S Dd o)) ∧
  (∀ i x acc S Dd o, items[i]? = some x → P i acc S → S Dd = none → g x (wipeD env vs) (updS S Dd o) fun env2 S2 => tt env2 S2 fun b S3 =>
    if b = true then te env2 S3 fun y S4 => acc.length < sizeLine ∧ S4 Dd = some o ∧ P (i + 1) (acc ++ [y]) (delS S4 Dd) else S3 Dd = some o ∧ P (i + 1) acc (delS S3 Dd)) ∧
  (∀ acc S a, P items.length acc S → S a = none → Q (.raw a) (updS S a (.lst acc)))
section
variable {K : PySem.W.Frag} {Z0 : Hp} {te : TE} {te' : DE} {tt : TT} {tt' : DT}
theorem le_lcM {wi : TI} {wi' : DI} {g : TG} {g' : DG} {vs : List Nat} (hi : LI K Z0 wi wi') (hg : LG K Z0 vs g g') (ht : LT K Z0 tt tt') (he : LE K Z0 te te') : LE K Z0 (tLc wi g tt te vs) (dLcM wi' g' tt' te' vs) := ⟨fun Z S H env σ Q Q' s0 re rl hh q => by
  refine hi.run Z S H env σ _ _ s0 re rl hh fun Z1 S1 H1 J items G s1 r1 wk hx => ?_
  obtain ⟨P, p0, pG, turn, done⟩ := hx
  intro Da hD
  have fixed : ∀ (xs : List V), ∃ o : O, ∀ Z u, RepO K Z o u ↔ u = .lst xs := fun xs => ⟨.abs ⟨fun _ u => u = .lst xs, fun _ _ _ _ h => h⟩, fun Z u => Iff.rfl⟩
  refine ⟨fun i m H => i ≤ items.length ∧ m = items.length - i ∧ ∃ Z' S acc us, Same Z1 Z' ∧ Rel K Z' S H ∧ S Da = none ∧ Z' Da = none ∧ H Da = some (.lst us) ∧ Reps K Z' acc us ∧ P i acc S, ?_, ?_⟩
  · obtain ⟨r2, n2⟩ := r1.new (o := .lst []) (u := .lst []) hD ⟨[], rfl, .nil⟩
    have r3 := r2.del Da
    rw [delS_upd n2] at r3
    exact ⟨items.length, Nat.zero_le _, rfl, Z1, S1, [], [], Same.refl _, r3, n2, r1.sub.free hD, upd_same, .nil, p0⟩
  · rintro i m H2 ⟨hi', rfl, Z2, S2, acc, us, s2, r2, nS, nZ, hDa, pa, p2⟩
    obtain ⟨o, ho⟩ := fixed us
    have r2' : Rel K Z2 (updS S2 Da o) H2 := by
      refine ⟨r2.sub, fun b w e => ?_⟩
      by_cases hb : b = Da
      · subst hb; rw [updS_same] at e; cases e; exact ⟨nZ, _, hDa, (ho _ _).mpr rfl⟩
      · rw [updS_ne hb] at e; exact r2.own b w e
    by_cases hlt : i < items.length
    · refine .inr ⟨wk.goes Z2 _ H2 i s2 r2' (pG i acc S2 Da o p2 nS) hlt, fun H' => ∃ Z' S acc us, Same Z1 Z' ∧ Rel K Z' S H' ∧ S Da = none ∧ Z' Da = none ∧ H' Da = some (.lst us) ∧ Reps K Z' acc us ∧ P (i + 1) acc S,
        fun H' ⟨Z', S, acc, us, z1, z2, z3, z4, z5, z6, z7⟩ => ⟨items.length - (i + 1), by omega, hlt, rfl, Z', S, acc, us, z1, z2, z3, z4, z5, z6, z7⟩, fun x H' y => ?_⟩
      obtain ⟨Z3, d, s3, r3', e3, q3⟩ := wk.yields Z2 _ H2 i x H' s2 r2' (pG i acc S2 Da o p2 nS) hlt y
      have s02 := (s0.trans s1).trans s2
      refine hg.run Z3 (updS S2 Da o) H' (wipeD env vs) (L2.wipe σ vs) d x _ _ (s02.trans s3) (((re.mono ((s1.trans s2).trans s3))).wipe vs) r3' q3 (turn i d acc S2 Da o e3 p2 nS) fun Z4 S4 H4 env4 σ4 s4 re4 r4 w4 h4 => ⟨?_, ?_⟩
      · rw [w4, wipe_sub vs σ fun _ h => h]
      · refine ht.run Z4 S4 H4 env4 σ4 _ _ ((s02.trans s3).trans s4) re4 r4 h4 fun Z5 S5 H5 b s5 r5 h5 => ?_
        have sT := ((s2.trans s3).trans s4).trans s5
        by_cases hb : b = true
        · rw [if_pos hb] at h5 ⊢
          refine he.run Z5 S5 H5 env4 σ4 _ _ (((s02.trans s3).trans s4).trans s5) (re4.mono s5) r5 h5 fun Z6 S6 H6 e v s6 r6 p6 h6 => ?_
          obtain ⟨hl, e6, h6⟩ := h6
          obtain ⟨n6, w6, h7, h8⟩ := r6.own Da o e6
          have e7 := (ho _ _).mp h8
          subst e7
          have sU := ((s3.trans s4).trans s5).trans s6
          refine ⟨us, h7, by rw [← pa.length]; exact hl, Z6, delS S6 Da, acc ++ [e], us ++ [v], s2.trans sU, ?_, delS_same, n6, upd_same, (pa.mono sU).append (.cons p6 .nil), h6⟩
          have r7 := (r6.write (o' := .lst (acc ++ [e])) (u := .lst (us ++ [v])) e6 ⟨_, rfl, (pa.mono sU).append (.cons p6 .nil)⟩).del Da
          have e8 : delS (updS S6 Da (.lst (acc ++ [e]))) Da = delS S6 Da := by
            funext b; unfold delS updS; split <;> rfl
          rw [e8] at r7
          exact r7
        · rw [if_neg hb] at h5 ⊢
          obtain ⟨e6, h6⟩ := h5
          obtain ⟨n6, w6, h7, h8⟩ := r5.own Da o e6
          have e7 := (ho _ _).mp h8
          subst e7
          exact ⟨Z5, delS S5 Da, acc, us, sT, r5.del Da, delS_same, n6, h7, pa.mono ((s3.trans s4).trans s5), h6⟩
    · have ei : i = items.length := by omega
      subst ei
      refine .inl ⟨wk.stops Z2 _ H2 s2 r2' (pG _ acc S2 Da o p2 nS), ?_⟩
      have r2' : Rel K Z2 (updS S2 Da (.lst acc)) H2 := by
        refine ⟨r2.sub, fun b w e => ?_⟩
        by_cases hb : b = Da
        · subst hb; rw [updS_same] at e; cases e; exact ⟨nZ, _, hDa, us, rfl, pa⟩
        · rw [updS_ne hb] at e; exact r2.own b w e
      exact q _ _ _ _ _ (s1.trans s2) r2' (.raw Da) (done acc S2 Da p2 nS)⟩
end
section
variable {F : Fm} {K : PySem.W.Frag} {P : Program} {w : World} {mg : Str → Option Value} {base : Heap} [fam : Fam F P w K mg base]
variable {elt tg iter c : Expr} {ifs : List Expr} {scope : Scope} {own : List (Str × Nat)} {pos spos : Pos} {wi : DCtx → DI} {g : DCtx → DG} {tt : DCtx → DT} {te : DCtx → DE}
include fam
theorem pd_lcM (hN : ∀ k, (F.X k).N.Nodup) (hi : PDI F K tg iter wi) (ok : ∀ k, BlkOk (F.X k).N (F.X k).env.scope scope own) (hg : PDG (blkF F scope) K (own.map (·.2)) tg g) (ht : PDTs (blkF F scope) K ifs tt) (he : PD (blkF F scope) K elt te)
    (hc : ∀ k, (F.X k).calm = true := by intro _; rfl) (hs : ∀ k x, foldedSetIterable iter (F.X k).env x = pure x := by intro _ _; rfl) : PD F K (.ListComp elt [⟨tg, iter, ifs, 0⟩] scope pos) (fun c => dLcM (wi c) (g c0) (tt c0) (te c0) (own.map (·.2))) := by
  obtain ⟨t1, a1, l1⟩ := hi.ex
  obtain ⟨t2, a2, l2⟩ := hg.ex
  obtain ⟨t3, a3, l3⟩ := ht.ex
  obtain ⟨t4, a4, l4⟩ := he.ex
  exact ⟨_, fun k h q => pe_lc (hc k) (hN k) (a1 k h q) (ok k) (fun s H C cl fp => a2 (k, s, H, C, cl, fp) h0 rfl) (fun s H C cl fp => a3 (k, s, H, C, cl, fp) h0 rfl) (fun s H C cl fp => a4 (k, s, H, C, cl, fp) h0 rfl) (hs k), fun Z h c r => le_lcM (l1 Z h c r) (l2 Z h0 c0 rc0) (l3 Z h0 c0 rc0) (l4 Z h0 c0 rc0)⟩
theorem s_setLcM {i : Nat} {y : Str} {py : Pos} (hN : ∀ k, (F.X k).N.Nodup) (hsw : ∀ k, swapsWith (.ListComp elt [⟨tg, iter, ifs, 0⟩] scope pos) (some (.Name y py)) spos.line (F.X k).env = pure true) (hi : PDI F K tg iter wi) (ok : ∀ k, BlkOk (F.X k).N (F.X k).env.scope scope own)
    (hg : PDG (blkF F scope) K (own.map (·.2)) tg g) (ht : PDTs (blkF F scope) K ifs tt) (he : PD (blkF F scope) K elt te) (hy : ∀ k, (F.X k).N[i]? = some y := by intro _; rfl) (hyl : ∀ k, (F.X k).env.scope.names.lookup y = some .local := by intro _; rfl)
    (hc : ∀ k, (F.X k).calm = true := by intro _; rfl) (hs : ∀ k x, foldedSetIterable iter (F.X k).env x = pure x := by intro _ _; rfl) : PDS F K (.Assign [.Name y py] (.ListComp elt [⟨tg, iter, ifs, 0⟩] scope pos) spos) (fun c => dAsg (dLcM (wi c) (g c0) (tt c0) (te c0) (own.map (·.2))) (dgName i)) := by
  obtain ⟨t1, a1, l1⟩ := hi.ex
  obtain ⟨t2, a2, l2⟩ := hg.ex
  obtain ⟨t3, a3, l3⟩ := ht.ex
  obtain ⟨t4, a4, l4⟩ := he.ex
  exact ⟨_, fun k h q => ps_setLc (hc k) (hN k) (hy k) (hyl k) (hsw k) (a1 k h q) (ok k) (fun s H C cl fp => a2 (k, s, H, C, cl, fp) h0 rfl) (fun s H C cl fp => a3 (k, s, H, C, cl, fp) h0 rfl) (fun s H C cl fp => a4 (k, s, H, C, cl, fp) h0 rfl) (hs k), fun Z h c r => ls_asg (le_lcM (l1 Z h c r) (l2 Z h0 c0 rc0) (l3 Z h0 c0 rc0) (l4 Z h0 c0 rc0)) (lg_name (ws := [i]) (List.mem_singleton.mpr rfl))⟩
end

/-! ### a thing opened: whatever it is, it has a reading R -/
def Opn (env : DEnv) (S : Sto) (R : DEnv → Sto → Prop) : Prop := ∀ (K : PySem.W.Frag) (Z : Hp) (H : Hp) (σ : L2.St), RelE K Z env σ → Rel K Z S H → ∃ Z' env2 S2, R env2 S2 ∧ Same Z Z' ∧ RelE K Z' env2 σ ∧ Rel K Z' S2 H
def dOpen (t : DS) : DS := fun D env S => ∃ R, Opn env S R ∧ ∀ env2 S2, R env2 S2 → t D env2 S2
theorem ls_open {K : PySem.W.Frag} {Z0 : Hp} {t : TS} {t' : DS} (h : LS K Z0 t t') : LS K Z0 t (dOpen t') := ⟨fun Z S H env σ D D' s0 re rl hh e => by
  obtain ⟨R, g, hh⟩ := hh
  obtain ⟨Z1, env2, S2, z, s1, re1, r1⟩ := g K Z H σ re rl
  exact h.run Z1 S2 H env2 σ D D' (s0.trans s1) re1 r1 (hh _ _ z) (e.mono s1)⟩
section
variable {F : Fm} {K : PySem.W.Frag} {P : Program} {w : World} {mg : Str → Option Value} {base : Heap} [fam : Fam F P w K mg base]
variable {a b e o : Expr} {es : List Expr} {ss : List Stmt} {ta tb te to : DCtx → DE} {t : DCtx → DA} {du : DCtx → DS} {pos p p1 apos cpos : Pos} {x : Str}
include fam
theorem ss_open (h : PDSs F K ss du) : PDSs F K ss (fun c => dOpen (du c)) := by
  obtain ⟨t2, a2, l2⟩ := h.ex
  exact ⟨_, a2, fun Z h c r => ls_open (l2 Z h c r)⟩

/-! ### built-in things called -/
theorem pd_len (hm : mg "len" = none) (ha : PDA F K (e :: es) t) (hg : ∀ k, Gl (F.X k) "len" := by intro _; rfl) (he : ∀ k, starEach (e :: es) (F.X k).env = (false, eval e (F.X k).env) :: starEach es (F.X k).env := by intro _; rfl)
    (hpl : ∀ k, (backTo pos (starEach es (F.X k).env)).any (·.1) = false := by intro _; rfl) : PD F K (.Call (.Name "len" p) (e :: es) [] pos) (fun c => dCB rLen' (t c)) := pd_callB (callK (r := fun K xs H Q => ∃ x n, xs = [x] ∧ LenV K x H n ∧ Q (.int (n : Nat)) H) fun _ => call_len) (fun _ => lr_len) hm (by decide +kernel) ha hg (by decide) (by decide) he hpl
theorem pd_abs (hm : mg "abs" = none) (ha : PDA F K (e :: es) t) (hg : ∀ k, Gl (F.X k) "abs" := by intro _; rfl) (he : ∀ k, starEach (e :: es) (F.X k).env = (false, eval e (F.X k).env) :: starEach es (F.X k).env := by intro _; rfl)
    (hpl : ∀ k, (backTo pos (starEach es (F.X k).env)).any (·.1) = false := by intro _; rfl) : PD F K (.Call (.Name "abs" p) (e :: es) [] pos) (fun c => dCB rAbs' (t c)) := pd_callB (fun _ => call_abs) (fun _ => lr_abs) hm (by decide +kernel) ha hg (by decide) (by decide) he hpl
theorem pd_sum (hm : mg "sum" = none) (ha : PDA F K (e :: es) t) (hc : ∀ k, (F.X k).calm = true := by intro _; rfl) (hg : ∀ k, Gl (F.X k) "sum" := by intro _; rfl) (he : ∀ k, starEach (e :: es) (F.X k).env = (false, eval e (F.X k).env) :: starEach es (F.X k).env := by intro _; rfl)
    (hpl : ∀ k, (backTo pos (starEach es (F.X k).env)).any (·.1) = false := by intro _; rfl) : PD F K (.Call (.Name "sum" p) (e :: es) [] pos) (fun c => dCB rSum' (t c)) := pd_callB (callK (r := rSum) fun k => cr_sum (hc k)) (fun _ => lr_sum) hm (by decide +kernel) ha hg (by decide) (by decide) he hpl
theorem pd_int1 (hm : mg "int" = none) (ha : PDA F K (e :: es) t) (hg : ∀ k, Gl (F.X k) "int" := by intro _; rfl) (he : ∀ k, starEach (e :: es) (F.X k).env = (false, eval e (F.X k).env) :: starEach es (F.X k).env := by intro _; rfl)
    (hpl : ∀ k, (backTo pos (starEach es (F.X k).env)).any (·.1) = false := by intro _; rfl) : PD F K (.Call (.Name "int" p) (e :: es) [] pos) (fun c => dCB rInt' (t c)) := pd_callTy (fun _ => call_int1) (fun _ => lr_int) hm (by decide +kernel) ha hg (by decide) (by decide) he hpl
theorem pd_listOf (hm : mg "list" = none) (ha : PDA F K (e :: es) t) (hg : ∀ k, Gl (F.X k) "list" := by intro _; rfl) (he : ∀ k, starEach (e :: es) (F.X k).env = (false, eval e (F.X k).env) :: starEach es (F.X k).env := by intro _; rfl)
    (hpl : ∀ k, (backTo pos (starEach es (F.X k).env)).any (·.1) = false := by intro _; rfl) : PD F K (.Call (.Name "list" p) (e :: es) [] pos) (fun c => dCB rListOf' (t c)) :=
  pd_callTy (callK (r := fun K xs H Q => ∃ p ys, xs = [.ref p] ∧ (SqL K H p ys ∨ SqT K H p ys) ∧ ∀ l, H l = none → Q (.ref l) (upd H l (.lst ys))) fun _ => call_list_of) (fun _ => lr_listOf) hm (by decide +kernel) ha hg (by decide) (by decide) he hpl
theorem pd_listOfM (hm : mg "list" = none) (ha : PDA F K (e :: es) t) (hg : ∀ k, Gl (F.X k) "list" := by intro _; rfl) (he : ∀ k, starEach (e :: es) (F.X k).env = (false, eval e (F.X k).env) :: starEach es (F.X k).env := by intro _; rfl)
    (hpl : ∀ k, (backTo pos (starEach es (F.X k).env)).any (·.1) = false := by intro _; rfl) : PD F K (.Call (.Name "list" p) (e :: es) [] pos) (fun c => dCB rListOfM' (t c)) :=
  pd_callTy (callK (r := fun K xs H Q => ∃ p ys, xs = [.ref p] ∧ (SqL K H p ys ∨ SqT K H p ys) ∧ ∀ l, H l = none → Q (.ref l) (upd H l (.lst ys))) fun _ => call_list_of) (fun _ => lr_listOfM) hm (by decide +kernel) ha hg (by decide) (by decide) he hpl
theorem pd_tupOf (hm : mg "tuple" = none) (ha : PDA F K (e :: es) t) (hg : ∀ k, Gl (F.X k) "tuple" := by intro _; rfl) (he : ∀ k, starEach (e :: es) (F.X k).env = (false, eval e (F.X k).env) :: starEach es (F.X k).env := by intro _; rfl)
    (hpl : ∀ k, (backTo pos (starEach es (F.X k).env)).any (·.1) = false := by intro _; rfl) : PD F K (.Call (.Name "tuple" p) (e :: es) [] pos) (fun c => dCB rTupOf' (t c)) :=
  pd_callTy (callK (r := fun K xs H Q => ∃ p ys, xs = [.ref p] ∧ ((SqL K H p ys ∧ ∀ l, H l = none → Q (.ref l) (upd H l (.tup ys))) ∨ (SqT K H p ys ∧ Q (.ref p) H))) fun _ => call_tuple_of) (fun _ => lr_tupOf) hm (by decide +kernel) ha hg (by decide) (by decide) he hpl
/-! ### list(range(..)), tuple(range(..)) -/
def dRg1 (ta : DE) : DA := fun env S Q => ta env S fun x S1 => match x with
  | .int n => Q [.int 0, .int n] S1
  | _ => False
def dRg2 (ta tb : DE) : DA := fun env S Q => ta env S fun x S1 => tb env S1 fun y S2 => match x, y with
  | .int i, .int j => Q [.int i, .int j] S2
  | _, _ => False
def dLstRgM (t : DA) : DE := fun env S Q => t env S fun ds S1 => match ds with
  | [.int i, .int j] => RgOk i j ∧ ∀ a, S1 a = none → Q (.raw a) (updS S1 a (.lst (rngD i (j - i).toNat)))
  | _ => False
def dLstRg (t : DA) : DE := fun env S Q => t env S fun ds S1 => match ds with
  | [.int i, .int j] => RgOk i j ∧ Q (.lst (rngD i (j - i).toNat)) S1
  | _ => False
def dTupRg (t : DA) : DE := fun env S Q => t env S fun ds S1 => match ds with
  | [.int i, .int j] => RgOk i j ∧ Q (.tup (rngD i (j - i).toNat)) S1
  | _ => False
/-- a range made: its reading -/
structure LRg (K : PySem.W.Frag) (Z0 : Hp) (t : L2.St → Hp → (Int → Int → Hp → Prop) → Prop) (t' : DA) : Prop where
  run : ∀ (Z : Hp) (S : Sto) (H : Hp) (env : DEnv) (σ : L2.St) (Q : Int → Int → Hp → Prop) (Q' : List D → Sto → Prop), Same Z0 Z → RelE K Z env σ → Rel K Z S H → t' env S Q' →
    (∀ (Z' : Hp) (S' : Sto) (H' : Hp) (i j : Int), Same Z Z' → Rel K Z' S' H' → Q' [.int i, .int j] S' → Q i j H') → t σ H Q
omit fam in
theorem lrg_1 {Z0 : Hp} {ta : TE} {ta' : DE} (h : LE K Z0 ta ta') : LRg K Z0 (tRg1 ta) (dRg1 ta') := ⟨fun Z S H env σ Q Q' s0 re rl hh q =>
  h.run Z S H env σ _ _ s0 re rl hh fun Z1 S1 H1 d v s1 r1 p1 h1 => by
    split at h1
    · cases p1; exact ⟨_, rfl, q _ _ _ _ _ s1 r1 h1⟩
    · exact h1.elim⟩
omit fam in
theorem lrg_2 {Z0 : Hp} {ta tb : TE} {ta' tb' : DE} (h : LE K Z0 ta ta') (h2 : LE K Z0 tb tb') : LRg K Z0 (tRg2 ta tb) (dRg2 ta' tb') := ⟨fun Z S H env σ Q Q' s0 re rl hh q =>
  h.run Z S H env σ _ _ s0 re rl hh fun Z1 S1 H1 d v s1 r1 p1 h1 => h2.run Z1 S1 H1 env σ _ _ (s0.trans s1) (re.mono s1) r1 h1 fun Z2 S2 H2 d2 v2 s2 r2 p2 h2 => by
    split at h2
    · cases p1; cases p2; exact ⟨_, _, rfl, rfl, q _ _ _ _ _ (s1.trans s2) r2 h2⟩
    · exact h2.elim⟩
structure PDRg (F : Fm) (K : PySem.W.Frag) (e : Expr) (t' : DCtx → DA) : Prop where
  ex : ∃ t : HCtx → L2.St → Hp → (Int → Int → Hp → Prop) → Prop, (∀ i h, F.ok i h → PRg (F.X i) e (t h)) ∧ ∀ Z0 h c, RC K Z0 h c → LRg K Z0 (t h) (t' c)
theorem rg_1 (hm : mg "range" = none) (ha : PD F K a ta) (hg : ∀ k, Gl (F.X k) "range" := by intro _; rfl) (na : ∀ k, starEach [a] (F.X k).env = (false, eval a (F.X k).env) :: starEach [] (F.X k).env := by intro _; rfl) :
    PDRg F K (.Call (.Name "range" p) [a] [] pos) (fun c => dRg1 (ta c)) := by
  obtain ⟨t1, a1, l1⟩ := ha.ex
  exact ⟨_, fun k h q => prg_1 (hg k) (by rw [fam.mg k]; exact hm) (a1 k h q) (na k), fun Z h c r => lrg_1 (l1 Z h c r)⟩
theorem rg_2 (hm : mg "range" = none) (ha : PD F K a ta) (hb : PD F K b tb) (hg : ∀ k, Gl (F.X k) "range" := by intro _; rfl) (na : ∀ k, starEach [a, b] (F.X k).env = (false, eval a (F.X k).env) :: starEach [b] (F.X k).env := by intro _; rfl)
    (nb : ∀ k, starEach [b] (F.X k).env = (false, eval b (F.X k).env) :: starEach [] (F.X k).env := by intro _; rfl) (hp : ∀ k, (backTo pos (starEach [b] (F.X k).env)).any (·.1) = false := by intro _; rfl) : PDRg F K (.Call (.Name "range" p) [a, b] [] pos) (fun c => dRg2 (ta c) (tb c)) := by
  obtain ⟨t1, a1, l1⟩ := ha.ex
  obtain ⟨t2, a2, l2⟩ := hb.ex
  exact ⟨_, fun k h q => prg_2 (hg k) (by rw [fam.mg k]; exact hm) (a1 k h q) (a2 k h q) (na k) (nb k) (hp k), fun Z h c r => lrg_2 (l1 Z h c r) (l2 Z h c r)⟩
omit fam in
theorem reps_rg {K : PySem.W.Frag} {Z : Hp} {i j : Int} : Reps K Z (rngD i (j - i).toNat) (rgV i j) := by
  unfold rngD rgV
  generalize List.range (j - i).toNat = l
  induction l with
  | nil => exact .nil
  | cons a l ih => exact .cons (.int _) ih
theorem pd_lstRgM (hm : mg "list" = none) (hr : PDRg F K e t) (hc : ∀ k, (F.X k).calm = true := by intro _; rfl) (hg : ∀ k, Gl (F.X k) "list" := by intro _; rfl) (na : ∀ k, starEach [e] (F.X k).env = (false, eval e (F.X k).env) :: starEach [] (F.X k).env := by intro _; rfl) :
    PD F K (.Call (.Name "list" p) [e] [] pos) (fun c => dLstRgM (t c)) := by
  obtain ⟨t1, a1, l1⟩ := hr.ex
  refine ⟨_, fun k h q => pe_listRg (hc k) (hg k) (by rw [fam.mg k]; exact hm) (a1 k h q) (na k), fun Z h c r => ⟨fun Z S H env σ Q Q' s0 re rl hh q => ?_⟩⟩
  refine (l1 _ h c r).run Z S H env σ _ _ s0 re rl hh fun Z1 S1 H1 i j s1 r1 h1 => ⟨h1.1, fun p hp => ?_⟩
  obtain ⟨r2, n2⟩ := r1.new (o := .lst (rngD i (j - i).toNat)) (u := .lst (rgV i j)) hp ⟨_, rfl, reps_rg⟩
  exact q _ _ _ _ _ s1 r2 (.raw p) (h1.2 p n2)
theorem pd_lstRg (hm : mg "list" = none) (hr : PDRg F K e t) (hc : ∀ k, (F.X k).calm = true := by intro _; rfl) (hg : ∀ k, Gl (F.X k) "list" := by intro _; rfl) (na : ∀ k, starEach [e] (F.X k).env = (false, eval e (F.X k).env) :: starEach [] (F.X k).env := by intro _; rfl) :
    PD F K (.Call (.Name "list" p) [e] [] pos) (fun c => dLstRg (t c)) := by
  obtain ⟨t1, a1, l1⟩ := hr.ex
  refine ⟨_, fun k h q => pe_listRg (hc k) (hg k) (by rw [fam.mg k]; exact hm) (a1 k h q) (na k), fun Z h c r => ⟨fun Z S H env σ Q Q' s0 re rl hh q => ?_⟩⟩
  refine (l1 _ h c r).run Z S H env σ _ _ s0 re rl hh fun Z1 S1 H1 i j s1 r1 h1 => ⟨h1.1, fun p hp => ?_⟩
  obtain ⟨r2, s2⟩ := r1.laid (o := .lst (rgV i j)) hp
  exact q _ _ _ _ _ (s1.trans s2) r2 (.lst upd_same reps_rg) h1.2
theorem pd_tupRg (hm : mg "tuple" = none) (hr : PDRg F K e t) (hc : ∀ k, (F.X k).calm = true := by intro _; rfl) (hg : ∀ k, Gl (F.X k) "tuple" := by intro _; rfl) (na : ∀ k, starEach [e] (F.X k).env = (false, eval e (F.X k).env) :: starEach [] (F.X k).env := by intro _; rfl) :
    PD F K (.Call (.Name "tuple" p) [e] [] pos) (fun c => dTupRg (t c)) := by
  obtain ⟨t1, a1, l1⟩ := hr.ex
  refine ⟨_, fun k h q => pe_tupRg (hc k) (hg k) (by rw [fam.mg k]; exact hm) (a1 k h q) (na k), fun Z h c r => ⟨fun Z S H env σ Q Q' s0 re rl hh q => ?_⟩⟩
  refine (l1 _ h c r).run Z S H env σ _ _ s0 re rl hh fun Z1 S1 H1 i j s1 r1 h1 => ⟨h1.1, fun p hp => ?_⟩
  obtain ⟨r2, s2⟩ := r1.laid (o := .tup (rgV i j)) hp
  exact q _ _ _ _ _ (s1.trans s2) r2 (.tup (.inl (.inl upd_same)) reps_rg) h1.2
/-! ### methods of lists -/
theorem pd_append (ho : PD F K o to) (ha : PDA F K (e :: es) t) (hbase : ∀ k, attributeBase o "append" (F.X k).env (eval o (F.X k).env) = eval o (F.X k).env := by intro _; rfl)
    (hfew : ∀ k, ((backTo cpos (starEach (e :: es) (F.X k).env)).all (fun x => !x.1) && (backToKw cpos (keywordEach [] (F.X k).env)).all (fun x => x.1.isSome) && decide ((e :: es).length + ([] : List Keyword).length + (if ([] : List Keyword).isEmpty then 0 else 1) < 30)) = true := by intro _; rfl)
    (hline : (apos.endLine == cpos.line) = true := by rfl) (hs : ∀ k, starEach (e :: es) (F.X k).env = (false, eval e (F.X k).env) :: starEach es (F.X k).env := by intro _; rfl) (hplain : ∀ k, (backTo cpos (starEach es (F.X k).env)).any (·.1) = false := by intro _; rfl) :
    PD F K (.Call (.Attribute o "append" apos) (e :: es) [] cpos) (fun c => dBM rAppend' (to c) (t c)) := pd_bm PySem.F.slot_list_append rfl (fun _ => mt_append) (fun _ => lm_append) ho ha hbase hfew hline hs hplain
theorem pd_insert (ho : PD F K o to) (ha : PDA F K (e :: es) t) (hbase : ∀ k, attributeBase o "insert" (F.X k).env (eval o (F.X k).env) = eval o (F.X k).env := by intro _; rfl)
    (hfew : ∀ k, ((backTo cpos (starEach (e :: es) (F.X k).env)).all (fun x => !x.1) && (backToKw cpos (keywordEach [] (F.X k).env)).all (fun x => x.1.isSome) && decide ((e :: es).length + ([] : List Keyword).length + (if ([] : List Keyword).isEmpty then 0 else 1) < 30)) = true := by intro _; rfl)
    (hline : (apos.endLine == cpos.line) = true := by rfl) (hs : ∀ k, starEach (e :: es) (F.X k).env = (false, eval e (F.X k).env) :: starEach es (F.X k).env := by intro _; rfl) (hplain : ∀ k, (backTo cpos (starEach es (F.X k).env)).any (·.1) = false := by intro _; rfl) :
    PD F K (.Call (.Attribute o "insert" apos) (e :: es) [] cpos) (fun c => dBM rInsert' (to c) (t c)) := pd_bm PySem.F.slot_list_insert rfl (fun _ => mt_insert) (fun _ => lm_insert) ho ha hbase hfew hline hs hplain
theorem pd_popAt (ho : PD F K o to) (ha : PDA F K (e :: es) t) (hbase : ∀ k, attributeBase o "pop" (F.X k).env (eval o (F.X k).env) = eval o (F.X k).env := by intro _; rfl)
    (hfew : ∀ k, ((backTo cpos (starEach (e :: es) (F.X k).env)).all (fun x => !x.1) && (backToKw cpos (keywordEach [] (F.X k).env)).all (fun x => x.1.isSome) && decide ((e :: es).length + ([] : List Keyword).length + (if ([] : List Keyword).isEmpty then 0 else 1) < 30)) = true := by intro _; rfl)
    (hline : (apos.endLine == cpos.line) = true := by rfl) (hs : ∀ k, starEach (e :: es) (F.X k).env = (false, eval e (F.X k).env) :: starEach es (F.X k).env := by intro _; rfl) (hplain : ∀ k, (backTo cpos (starEach es (F.X k).env)).any (·.1) = false := by intro _; rfl) :
    PD F K (.Call (.Attribute o "pop" apos) (e :: es) [] cpos) (fun c => dBM rPopAt' (to c) (t c)) := pd_bm PySem.F.slot_list_pop rfl (fun _ => mt_popAt) (fun _ => lm_popAt) ho ha hbase hfew hline hs hplain
theorem pd_pop (ho : PD F K o to) (hbase : ∀ k, attributeBase o "pop" (F.X k).env (eval o (F.X k).env) = eval o (F.X k).env := by intro _; rfl) (hline : (apos.endLine == cpos.line) = true := by rfl) :
    PD F K (.Call (.Attribute o "pop" apos) [] [] cpos) (fun c => dBM rPop' (to c) dNil) := pd_bm0 PySem.F.slot_list_pop rfl (fun _ => mt_pop) (fun _ => lm_pop) ho hbase hline
theorem pd_reverse (ho : PD F K o to) (hbase : ∀ k, attributeBase o "reverse" (F.X k).env (eval o (F.X k).env) = eval o (F.X k).env := by intro _; rfl) (hline : (apos.endLine == cpos.line) = true := by rfl) :
    PD F K (.Call (.Attribute o "reverse" apos) [] [] cpos) (fun c => dBM rReverse' (to c) dNil) := pd_bm0 PySem.F.slot_list_reverse rfl (fun _ => mt_reverse) (fun _ => lm_reverse) ho hbase hline
end
end DL
end

section
set_option Elab.async false
set_option linter.all false
set_option autoImplicit false
set_option maxRecDepth 100000
set_option maxHeartbeats 2000000
/-! DL13: the readings unfolded, each only where it is applied. -/
namespace DL
open PySem PySem.Spec PyProof.Rows L2

section
variable {env : DEnv} {S : Sto} {Q : DV} {ta tb tc te : DE} {tt uu : DT} {t : DA} {E : DEnds} {du ds : DS} {QB : Bool → Sto → Prop} {QA : List D → Sto → Prop} {QG : DEnv → Sto → Prop} {QO : Option Int → Sto → Prop}
theorem x_C {d : D} : dC d env S Q = Q d S := rfl
theorem x_V0 {d : D} {r : DEnv} : dVar 0 (some d :: r) S Q = Q d S := rfl
theorem x_V {i : Nat} {o : Option D} {r : DEnv} : dVar (i + 1) (o :: r) S Q = dVar i r S Q := rfl
theorem x_op {r : R2'} : dOp r ta tb env S Q = ta env S fun x S1 => tb env S1 fun y S2 => r x y S2 Q := rfl
theorem x_I {C : Int → Int → Prop} {g : Int → Int → D} {i j : Int} : rI' C g (.int i) (.int j) S Q = (C i j ∧ Q (g i j) S) := rfl
theorem x_I0 {g : Int → Int → D} {i j : Int} : rI0' g (.int i) (.int j) S Q = Q (g i j) S := rfl
theorem x_addI {i j : Int} : rAdd' (.int i) (.int j) S Q = Q (.int (i + j)) S := rfl
theorem x_addT {i j : List D} : rAdd' (.tup i) (.tup j) S Q = (i.length + j.length ≤ sizeLine ∧ Q (.tup (i ++ j)) S) := rfl
theorem x_B : dB te env S QB = te env S fun x S1 => match x with
  | .bl b => QB b S1
  | _ => False := rfl
theorem x_And : dAnd tt uu env S QB = tt env S fun c S1 => if c = true then uu env S1 QB else QB false S1 := rfl
theorem x_Or : dOr tt uu env S QB = tt env S fun c S1 => if c = true then QB true S1 else uu env S1 QB := rfl
theorem x_Not : dNot tt env S QB = tt env S fun c S1 => QB (!c) S1 := rfl
theorem x_Tru : dTru te env S QB = te env S fun x S1 => match truD S1 x with
  | some k => QB k S1
  | none => False := rfl
theorem x_AndT : dAndT ta tb env S Q = ta env S fun x S1 => match truD S1 x with
  | some k => if k = true then tb env S1 Q else Q x S1
  | none => False := rfl
theorem x_OrT : dOrT ta tb env S Q = ta env S fun x S1 => match truD S1 x with
  | some k => if k = true then Q x S1 else tb env S1 Q
  | none => False := rfl
theorem x_NotT : dNotT ta env S Q = ta env S fun x S1 => match truD S1 x with
  | some k => Q (.bl (!k)) S1
  | none => False := rfl
theorem x_If : dIf tt ta tb env S Q = tt env S fun c S1 => if c = true then ta env S1 Q else tb env S1 Q := rfl
theorem x_nil : dNil env S QA = QA [] S := rfl
theorem x_cons : dCons ta t env S QA = ta env S fun x S1 => t env S1 fun xs S2 => QA (x :: xs) S2 := rfl
theorem x_Tup : dTup t env S Q = t env S fun ds S1 => ds.length ≤ sizeLine ∧ Q (.tup ds) S1 := rfl
theorem x_Lst : dLst t env S Q = t env S fun ds S1 => ds.length ≤ sizeLine ∧ Q (.lst ds) S1 := rfl
theorem x_LstM : dLstM t env S Q = t env S fun ds S1 => ds.length ≤ sizeLine ∧ ∀ a, S1 a = none → Q (.raw a) (updS S1 a (.lst ds)) := rfl
theorem x_CB {r : RL'} : dCB r t env S Q = t env S fun ds S1 => r ds S1 Q := rfl
theorem x_Chain {r r' : R2'} : dChain r r' ta tb tc env S Q = ta env S fun x S1 => tb env S1 fun y S2 => r x y S2 fun z S3 => match z with
  | .bl k => if k = true then tc env S3 fun w S4 => r' y w S4 Q else Q (.bl false) S3
  | _ => False := rfl
theorem x_UnI {g : Int → Int} : dUnI g ta env S Q = ta env S fun x S1 => match x with
  | .int i => Q (.int (g i)) S1
  | _ => False := rfl
theorem x_int {i : Int} : rInt' [.int i] S Q = Q (.int i) S := rfl
theorem x_abs {i : Int} : rAbs' [.int i] S Q = Q (.int (if i < 0 then -i else i)) S := rfl
theorem x_lenT {es : List D} : rLen' [.tup es] S Q = Q (.int es.length) S := rfl
theorem x_lenL {es : List D} : rLen' [.lst es] S Q = Q (.int es.length) S := rfl
theorem x_len {d : D} {es : List D} (h : asQ S d = some es) : rLen' [d] S Q = Q (.int es.length) S := by
  unfold rLen'
  cases d with
  | str z => cases h
  | _ => simp only [h]
theorem x_listOfT {es : List D} : rListOf' [.tup es] S Q = Q (.lst es) S := rfl
theorem x_listOfL {es : List D} : rListOf' [.lst es] S Q = Q (.lst es) S := rfl
theorem x_listOf {d : D} {es : List D} (h : asQ S d = some es) : rListOf' [d] S Q = Q (.lst es) S := by unfold rListOf'; simp only [h]
theorem x_tupOfT {es : List D} : rTupOf' [.tup es] S Q = Q (.tup es) S := rfl
theorem x_tupOfL {es : List D} : rTupOf' [.lst es] S Q = Q (.tup es) S := rfl
theorem x_tupOf {d : D} {es : List D} (h : asQ S d = some es) : rTupOf' [d] S Q = Q (.tup es) S := by unfold rTupOf'; simp only [h]
theorem x_call {F : DF} {dds : List D} {W' : DW} : dCall F dds W' t env S Q = t env S fun ds S1 => F (ds ++ dds) S1 Q (fun C fs S' => W' C fs env S') := rfl
theorem x_make {C : Addr} {G : DF} {dds : List D} {W' : DW} : dMake C G dds W' t env S Q = t env S fun ds S1 => ∀ x, S1 x = none →
  G (.raw x :: (ds ++ dds)) (updS S1 x (.ins C [])) (fun d S2 => d = .non ∧ ∃ fs, S2 x = some (.ins C fs) ∧ Q (.ins C fs) (delS S2 x)) (fun C' fs S' => W' C' fs env S') := rfl
theorem x_BM {r : RM'} : dBM r ta t env S Q = ta env S fun x S1 => (asL S1 x).isSome = true ∧ t env S1 fun ds S2 => r x ds S2 Q := rfl
theorem x_NoPart : dNoPart env S QO = QO none S := rfl
theorem x_Part : dPart ta env S QO = ta env S fun x S1 => match x with
  | .int i => QO (some i) S1
  | _ => False := rfl
theorem x_Sl {tl th : DO} : dSl te tl th env S Q = te env S fun x S1 => tl env S1 fun l S2 => th env S2 fun u S3 => match x with
  | .str z => z.length ≤ sizeLine ∧ Q (.str (cutS z l u)) S3
  | .tup ds => Q (.tup (cutD ds l u)) S3
  | x => (match asL S3 x with
    | some ds => Q (.lst (cutD ds l u)) S3
    | none => False) := rfl
theorem x_Fld {C C' : Addr} {f : Str} {fs : List (Str × D)} : dFld C f (dC (.ins C' fs)) env S Q = (C' = C ∧ (match fs.lookup f with
    | some d => Q d S
    | none => False)) := rfl
theorem x_Fld' {C : Addr} {f : Str} : dFld C f ta env S Q = ta env S fun x S1 => match insOf S1 x with
  | some (C', fs) => C' = C ∧ (match fs.lookup f with
    | some d => Q d S1
    | none => False)
  | none => False := rfl
theorem x_gName {i : Nat} {d : D} : dgName i d env S QG = QG (env.set i (some d)) S := rfl
theorem x_gNil : dgNil [] env S QG = QG env S := rfl
theorem x_gCons {g : DG} {u : DGs} {d : D} {r : List D} : dgCons g u (d :: r) env S QG = g d env S fun env' S' => u r env' S' QG := rfl
theorem x_gTup {n : Nat} {u : DGs} {ds : List D} : dgTup n u (.tup ds) env S QG = (ds.length = n ∧ u ds env S QG) := rfl
theorem x_next : dNext E env S = E.nx env S := rfl
theorem x_brk : dBreak E env S = E.bk env S := rfl
theorem x_cont : dCont E env S = E.ct env S := rfl
theorem x_drop : dDrop ta E env S = ta env S fun _ S1 => E.nx env S1 := rfl
theorem x_ret : dRet ta E env S = ta env S E.rt := rfl
theorem x_retG : dRetG ta E env S = ta env S fun d S1 => ∃ d2 S2, GhR S1 d S2 d2 ∧ E.rt d2 S2 := rfl
theorem x_ifS : dIfS tt ds du E env S = tt env S fun b S1 => if b = true then ds E env S1 else du E env S1 := rfl
theorem x_asg {g : DG} : dAsg ta g E env S = ta env S fun x S1 => g x env S1 E.nx := rfl
theorem x_raise {C : Addr} {names : List Str} {W' : DW} : dRaise C names W' t E env S = t env S fun ds S1 => ds.length = names.length ∧ W' C ((names.zip ds).reverse) env S1 := rfl
theorem x_augI {f : Int → Int → Int} {i : Nat} {a : Int} (h : env[i]? = some (some (.int a))) : dAugI f i te E env S = te env S fun y S1 => (match y with
    | .int b => E.nx (env.set i (some (.int (f a b)))) S1
    | _ => False) := by unfold dAugI; simp only [h] <;> rfl
/-- one statement of a block: what follows is kept shut -/
theorem x_seq (h : ∀ R : DEnv → Sto → Prop, (∀ e s, du E e s → R e s) → ds { nx := R, rt := E.rt, bk := E.bk, ct := E.ct } env S) : dSeq ds du E env S := h (du E) fun _ _ z => z
theorem x_isi {K : PySem.W.Frag} {n a : Ty} {d : D} (h : tyD S d = some a) : rIsi' K [d, .ty n] S Q = (n ≠ .none ∧ Q (.bl (subT a n)) S) := by unfold rIsi'; simp only [h]
theorem x_isiO {K : PySem.W.Frag} {c d : D} {b : Bool} (h : OwnI K S d c b) (n : tyD S d = none ∨ ∃ a, c = .raw a) (q : Q (.bl b) S) : rIsi' K [d, c] S Q := by
  unfold rIsi'
  split
  · rename_i d' n' e
    cases e
    rcases n with n | ⟨a, n⟩
    · simp only [n]; exact ⟨b, h, q⟩
    · cases n
  · rename_i e
    cases e
    exact ⟨b, h, q⟩
  · rename_i h1 h2
    exact absurd rfl (h2 d c)
theorem x_isiT {ns : List Ty} : dIsiT ns ta env S Q = ta env S fun x S1 => match tyD S1 x with
  | some a => Q (.bl (ns.any fun n => subT a n)) S1
  | none => False := rfl
end
section
variable {env : DEnv} {S : Sto} {te : DE} {wi : DI} {g : DG} {tb ds : DS} {E : DEnds} {R : List D → (Sto → Prop) → Sto → Prop} {t : DA} {c : DT}
theorem x_for : dFor wi g tb E env S = wi env S fun items G S1 => ∃ P : Nat → DEnv → Sto → Prop, P 0 env S1 ∧ (∀ i env S, P i env S → G S) ∧
  (∀ i x env S, items[i]? = some x → P i env S → g x env S fun env2 S2 => tb { E with nx := P (i + 1), ct := P (i + 1), bk := E.nx } env2 S2) ∧ (∀ env S, P items.length env S → E.nx env S) := rfl
theorem x_while : dWhile c tb E env S = ∃ P : Nat → DEnv → Sto → Prop, (∃ m, P m env S) ∧ ∀ m env S, P m env S →
  c env S fun b S1 => if b = true then tb { E with nx := fun e s => ∃ m', m' < m ∧ P m' e s, ct := fun e s => ∃ m', m' < m ∧ P m' e s, bk := E.nx } env S1 else E.nx env S1 := rfl
theorem x_iSeq : diSeq te env S R = te env S fun x S1 => match x with
  | .raw a => (match S1 a with
    | some (.lst ds) => R ds (fun S => S a = some (.lst ds)) S1
    | _ => False)
  | x => (match asQ S1 x with
    | some ds => R ds (fun _ => True) S1
    | none => False) := rfl
theorem as_lst {es : List D} : asQ S (.lst es) = some es := rfl
theorem as_tup {es : List D} : asQ S (.tup es) = some es := rfl
theorem x_iRng1 : diRng1 t env S R = t env S fun ds S1 => match ds with
  | [.int j] => -(2 ^ 62) ≤ j ∧ j < 2 ^ 62 ∧ R (rngD 0 j.toNat) (fun _ => True) S1
  | _ => False := rfl
theorem x_iRng2 : diRng2 t env S R = t env S fun ds S1 => match ds with
  | [.int i, .int j] => (-(2 ^ 62) ≤ i ∧ i < 2 ^ 62 ∧ -(2 ^ 62) ≤ j ∧ j < 2 ^ 62) ∧ R (rngD i (j - i).toNat) (fun _ => True) S1
  | _ => False := rfl
theorem x_iEnum : diEnum t env S R = t env S fun ds S1 => match ds with
  | [.raw a] => (match S1 a with
    | some (.lst es) => R (enumD es) (fun S => S a = some (.lst es)) S1
    | _ => False)
  | [x] => (match asQ S1 x with
    | some es => R (enumD es) (fun _ => True) S1
    | none => False)
  | _ => False := rfl
theorem x_lc {wi : DI} {g : DG} {tt : DT} {vs : List Nat} {Q : DV} : dLc wi g tt te vs env S Q = wi env S fun items G S1 => ∃ P : Nat → List D → Sto → Prop, P 0 [] S1 ∧ (∀ i acc S Dd o, P i acc S → S Dd = none → G (updS S Dd o)) ∧
  (∀ i x acc S Dd o, items[i]? = some x → P i acc S → S Dd = none → g x (wipeD env vs) (updS S Dd o) fun env2 S2 => tt env2 S2 fun b S3 =>
    if b = true then te env2 S3 fun y S4 => acc.length < sizeLine ∧ S4 Dd = some o ∧ P (i + 1) (acc ++ [y]) (delS S4 Dd) else S3 Dd = some o ∧ P (i + 1) acc (delS S3 Dd)) ∧
  (∀ acc S, P items.length acc S → Q (.lst acc) S) := rfl
theorem x_lcM {wi : DI} {g : DG} {tt : DT} {vs : List Nat} {Q : DV} : dLcM wi g tt te vs env S Q = wi env S fun items G S1 => ∃ P : Nat → List D → Sto → Prop, P 0 [] S1 ∧ (∀ i acc S Dd o, P i acc S → S Dd = none → G (updS S Dd o)) ∧
  (∀ i x acc S Dd o, items[i]? = some x → P i acc S → S Dd = none → g x (wipeD env vs) (updS S Dd o) fun env2 S2 => tt env2 S2 fun b S3 =>
    if b = true then te env2 S3 fun y S4 => acc.length < sizeLine ∧ S4 Dd = some o ∧ P (i + 1) (acc ++ [y]) (delS S4 Dd) else S3 Dd = some o ∧ P (i + 1) acc (delS S3 Dd)) ∧
  (∀ acc S a, P items.length acc S → S a = none → Q (.raw a) (updS S a (.lst acc))) := rfl
theorem x_yes {Q : Bool → Sto → Prop} : dYes env S Q = Q true S := rfl
theorem x_append {S : Sto} {a : Addr} {es : List D} {y : D} {Q : DV} (h : ownL S (.raw a) = some (a, es)) : rAppend' (.raw a) [y] S Q = (es.length < sizeLine ∧ Q .non (updS S a (.lst (es ++ [y])))) := by unfold rAppend'; simp only [h]
theorem x_Rg1 {ta : DE} {QA : List D → Sto → Prop} : dRg1 ta env S QA = ta env S fun x S1 => match x with
  | .int n => QA [.int 0, .int n] S1
  | _ => False := rfl
theorem x_Rg2 {ta tb : DE} {QA : List D → Sto → Prop} : dRg2 ta tb env S QA = ta env S fun x S1 => tb env S1 fun y S2 => match x, y with
  | .int i, .int j => QA [.int i, .int j] S2
  | _, _ => False := rfl
theorem x_gSub {to ti : DE} {d : D} {Q : DEnv → Sto → Prop} : dgSub to ti d env S Q = to env S fun o S1 => ti env S1 fun i S2 => match ownL S2 o, i with
  | some (a, ds), .int k => (match ixN ds.length k with
    | some j => Q env (updS S2 a (.lst (ds.set j d)))
    | none => False)
  | _, _ => False := rfl
theorem x_ixQ {Q : DV} {d : D} {i : Int} {es : List D} (h : asQ S d = some es) : rIx' d (.int i) S Q = (match atI es i with
      | some d => Q d S
      | none => False) := by
  cases d with
  | str z => cases h
  | _ => simp only [rIx', h] <;> rfl
theorem x_ixT {Q : DV} {i : Int} {es : List D} : rIx' (.tup es) (.int i) S Q = (match atI es i with
      | some d => Q d S
      | none => False) := rfl
theorem x_ixL {Q : DV} {i : Int} {es : List D} : rIx' (.lst es) (.int i) S Q = (match atI es i with
      | some d => Q d S
      | none => False) := rfl
theorem x_eqI {Q : DV} {i j : Int} : rEq' (.int i) (.int j) S Q = Q (.bl (i == j)) S := propext ⟨fun h => h.2.2, fun h => ⟨rfl, rfl, h⟩⟩
theorem x_neI {Q : DV} {i j : Int} : rNe' (.int i) (.int j) S Q = Q (.bl (!(i == j))) S := propext ⟨fun h => h.2.2, fun h => ⟨rfl, rfl, h⟩⟩
theorem as_upd {h : Addr} {es : List D} : asQ (updS S h (.lst es)) (.raw h) = some es := by simp only [asQ, asL, updS_same]
theorem asl_upd {h : Addr} {es : List D} : asL (updS S h (.lst es)) (.raw h) = some es := by simp only [asL, updS_same]
theorem own_upd {h : Addr} {es : List D} : ownL (updS S h (.lst es)) (.raw h) = some (h, es) := by simp only [ownL, updS_same]
theorem atI_ok {α : Type} {xs : List α} {i : Int} (h0 : 0 ≤ i) (h1 : i < xs.length) : atI xs i = xs[i.toNat]? := by
  unfold atI ixN
  rw [if_pos h0, if_pos h1]
  rfl
theorem tr_bl {b : Bool} : truD S (.bl b) = some b := rfl
theorem tr_int {i : Int} : truD S (.int i) = some (i != 0) := rfl
end
end DL
end

section
set_option Elab.async false
set_option linter.all false
set_option autoImplicit false
set_option maxRecDepth 100000
set_option maxHeartbeats 2000000
/-! DL14: the script as it comes (a list, maybe frozen); own exceptions' __init__; what leaves a law. -/
namespace DL
open PySem PySem.Spec PyProof.Rows L2

/-! ### the script -/
def scrP (ns : List Int) : Pr := ⟨fun _ u => u = .lst (ns.map V.int) ∨ ∃ o, u = .frz o (.lst (ns.map V.int)), fun _ _ _ _ h => h⟩
/-- a list of the module's own -/
def KeptL (K : PySem.W.Frag) (a : Addr) (ns : List Int) : Prop := ∃ (o : Obj) (its : Array Value) (n : Nat), K.lookup a = some o ∧ o.cls = .type "list" ∧ o.dict = none ∧ o.data = .seq its n ∧ its.size ≤ sizeLine ∧ Vals (ns.map V.int) its.toList
def IsScr (K : PySem.W.Frag) (S : Sto) (a : Addr) (ns : List Int) : Prop := S a = some (.abs (scrP ns)) ∨ KeptL K a ns
theorem IsScr.upd {K : PySem.W.Frag} {S : Sto} {a b : Addr} {ns : List Int} {o : O} (h : IsScr K S a ns) (hb : S b = none) : IsScr K (updS S b o) a ns := by
  rcases h with h | h
  · exact .inl (by rw [updS_ne (neS h hb)]; exact h)
  · exact .inr h
def rLenS' (K : PySem.W.Frag) : RL' := fun ds S Q => match ds with
  | [.raw a] => ∃ ns : List Int, IsScr K S a ns ∧ Q (.int ns.length) S
  | _ => False
def diSeqS (K : PySem.W.Frag) (te : DE) : DI := fun env S R => te env S fun x S1 => ∃ a ns, x = .raw a ∧ IsScr K S1 a ns ∧ R (ns.map D.int) (fun S => IsScr K S a ns) S1
section
variable {K : PySem.W.Frag} {Z0 : Hp} {te : TE} {te' : DE}
theorem Rel.scr {Z : Hp} {S : Sto} {H : Hp} (r : Rel K Z S H) {a : Addr} {ns : List Int} (e : IsScr K S a ns) : SqL K H a (ns.map V.int) := by
  rcases e with e | e
  · obtain ⟨_, u, h1, h2⟩ := r.own a _ e
    rcases h2 with h2 | ⟨o, h2⟩
    · exact .inl (.inl (by rw [h1, h2]))
    · exact .inl (.inr ⟨o, by rw [h1, h2]⟩)
  · exact .inr e
theorem lr_lenS : LR K Z0 (fun xs H Q => ∃ x n, xs = [x] ∧ LenV K x H n ∧ Q (.int (n : Nat)) H) (rLenS' K) := ⟨fun Z S H xs ds Q Q' s0 rl pr h q => by
  unfold rLenS' at h
  split at h
  · obtain ⟨v, rfl, p⟩ := one_of pr
    cases p
    obtain ⟨ns, e, h⟩ := h
    refine ⟨_, (ns.map V.int).length, rfl, .inl ⟨_, rl.scr e, rfl⟩, ?_⟩
    rw [List.length_map]
    exact q _ _ _ _ _ (Same.refl _) rl (.int _) h
  · exact h.elim⟩
theorem wd_scr {Z : Hp} {a : Addr} {ns : List Int} : WalkD K Z (Itl K a) (ns.map D.int) (fun S => IsScr K S a ns) := by
  refine ⟨fun Z' S H i s r g hi => ?_, fun Z' S H s r g => ?_, fun Z' S H i x H' s r g hi y => ?_⟩
  · exact (walk_list (xs := ns.map V.int)).goes i H (by rw [List.length_map] at hi ⊢; exact hi) (r.scr g)
  · rw [List.length_map]
    have := (walk_list (xs := ns.map V.int)).stops H (r.scr g)
    rw [List.length_map] at this
    exact this
  · obtain ⟨e, hx⟩ := (walk_list (xs := ns.map V.int)).yields i H x H' (by rw [List.length_map] at hi ⊢; exact hi) (r.scr g) y
    subst e
    rw [List.getElem?_map] at hx
    obtain ⟨n, hn, rfl⟩ := Option.map_eq_some_iff.mp hx
    exact ⟨Z', .int n, Same.refl _, r, by rw [List.getElem?_map, hn]; rfl, .int n⟩
theorem li_seqS (h : LE K Z0 te te') : LI K Z0 (iSeq K te) (diSeqS K te') := ⟨fun Z S H env σ R R' s0 re rl hh q =>
  h.run Z S H env σ _ _ s0 re rl hh fun Z1 S1 H1 d v s1 r1 p1 h1 => by
    obtain ⟨a, ns, rfl, e, h1⟩ := h1
    cases p1
    exact ⟨a, rfl, .inl ⟨⟨_, r1.scr e⟩, q _ _ _ _ _ _ s1 r1 wd_scr h1⟩⟩⟩
end
section
variable {F : Fm} {K : PySem.W.Frag} {P : Program} {w : World} {mg : Str → Option Value} {base : Heap} [fam : Fam F P w K mg base]
variable {e : Expr} {es : List Expr} {te : DCtx → DE} {t : DCtx → DA} {pos p : Pos}
include fam
theorem pd_lenS (hm : mg "len" = none) (ha : PDA F K (e :: es) t) (hg : ∀ k, Gl (F.X k) "len" := by intro _; rfl) (he : ∀ k, starEach (e :: es) (F.X k).env = (false, eval e (F.X k).env) :: starEach es (F.X k).env := by intro _; rfl)
    (hpl : ∀ k, (backTo pos (starEach es (F.X k).env)).any (·.1) = false := by intro _; rfl) : PD F K (.Call (.Name "len" p) (e :: es) [] pos) (fun c => dCB (rLenS' K) (t c)) := pd_callB (callK (r := fun K xs H Q => ∃ x n, xs = [x] ∧ LenV K x H n ∧ Q (.int (n : Nat)) H) fun _ => call_len) (fun _ => lr_lenS) hm (by decide +kernel) ha hg (by decide) (by decide) he hpl
theorem i_seqS {tg : Expr} (h : PD F K e te) : PDI F K tg e (fun c => diSeqS K (te c)) := by
  obtain ⟨t1, a1, l1⟩ := h.ex
  exact ⟨_, fun k h q => by have hh := pi_seq (tg := tg) (a1 k h q); rw [fam.k k] at hh; exact hh, fun Z h c r => li_seqS (l1 Z h c r)⟩
end

/-! ### own exceptions -/
def oexB (K : PySem.W.Frag) (C : Addr) : Bool := (match K.lookup C with
    | some ⟨.type "type", _, .cls cd, sl⟩ => (match cd.mro, sl.toList with
      | .ref C' :: bm, [_, _, _, _, some (.builtin n), _] => C' == C && n == "ValueError.__new__" && !cd.hasDel && cd.hasDict && PySem.HandSPX.refsVE bm
      | _, _ => false)
    | _ => false) && (decide (PySem.W.findIn K (.ref C) "__setattr__" = some (some (.builtin "object.__setattr__"))) && (decide (PySem.W.subIn K (.ref C) (.type "BaseException") = some true) && (decide (PySem.W.typeIn K (.ref C) = some (.type "type")) && PySem.W.keepIn K (.ref C))))
theorem oexB_ok {K : PySem.W.Frag} {C : Addr} (h : oexB K C = true) : OexC K C := by
  unfold oexB at h
  simp only [Bool.and_eq_true, decide_eq_true_eq] at h
  obtain ⟨h0, h1, h2, h3, h4⟩ := h
  refine ⟨?_, h1, h2, h3, h4⟩
  split at h0
  · rename_i dd cd sl ho
    split at h0
    · rename_i C' bm k0 k1 k2 k3 n k5 hm hs
      simp only [Bool.and_eq_true, beq_iff_eq, Bool.not_eq_true'] at h0
      obtain ⟨⟨⟨⟨rfl, rfl⟩, hdel⟩, hdct⟩, ht⟩ := h0
      obtain ⟨nm, bs, mro, ns, qn, hd, sn, sub, ab, col, del⟩ := cd
      dsimp only at hm hdel hdct
      subst hm hdel hdct
      have hsl : sl = #[k0, k1, k2, k3, some (.builtin "ValueError.__new__"), k5] := by
        obtain ⟨l⟩ := sl
        simp only at hs
        rw [hs]
      subst hsl
      exact ⟨nm, qn, ns, bs, bm, sn, sub, ab, col, dd, k0, k1, k2, k3, k5, ho, ht⟩
    · cases h0
  · cases h0
/-! ### what leaves the law -/
def CXE : CXT := fun outer H s E u s' => ∃ P w, L2.CX P w outer H s E u s'
theorem cxe {P : Program} {w : World} {K : PySem.W.Frag} {mg : Str → Option Value} {base : Heap} {k : Nat} {f : Addr} {fd : FuncData} {ps : List Str} {sp : Sp} (F : FnOk P w K mg base (L2.CX P w) k f fd ps sp) : FnOk P w K mg base CXE k f fd ps sp :=
  ⟨F.len, fun A outer s H args us vs Q E hr he hb hv hs => codeAny_mono (F.run A outer s H args us vs Q E hr he hb hv hs) fun r s' h => by
    cases r with
    | error e => exact ⟨P, w, h⟩
    | ok fl => cases fl <;> exact h⟩
theorem cxe_end (H : Hp) (s : Shared) (e : Value) (s' : Shared) : CXE [] H s (fun _ _ _ => False) e s' → False := fun ⟨_, _, _, _, _, _, _, _, _, _, _, _, _, _, h⟩ => h
end DL
end

section
set_option Elab.async false
set_option linter.all false
set_option autoImplicit false
set_option maxRecDepth 100000
set_option maxHeartbeats 2000000
/-! DL15: more built-in things: all, any, min, max, tuple(reversed(..)). -/
namespace DL
open PySem PySem.Spec PyProof.Rows L2 RT

def dTupRev (te : DE) : DE := fun env S Q => te env S fun x S1 => match asL S1 x with
  | some ds => Q (.tup ds.reverse) S1
  | none => False
section
variable {F : Fm} {K : PySem.W.Frag} {P : Program} {w : World} {mg : Str → Option Value} {base : Heap} [fam : Fam F P w K mg base]
variable {a b e : Expr} {es : List Expr} {ta tb te : DCtx → DE} {t : DCtx → DA} {pos p p2 pos2 : Pos}
include fam
theorem pd_all (hm : mg "all" = none) (ha : PDA F K (e :: es) t) (hc : ∀ k, (F.X k).calm = true := by intro _; rfl) (hg : ∀ k, Gl (F.X k) "all" := by intro _; rfl) (he : ∀ k, starEach (e :: es) (F.X k).env = (false, eval e (F.X k).env) :: starEach es (F.X k).env := by intro _; rfl)
    (hpl : ∀ k, (backTo pos (starEach es (F.X k).env)).any (·.1) = false := by intro _; rfl) : PD F K (.Call (.Name "all" p) (e :: es) [] pos) (fun c => dCB rAll' (t c)) := pd_callB (callK (r := rAll) fun k => cr_all (hc k)) (fun _ => lr_all) hm (by decide +kernel) ha hg (by decide) (by decide) he hpl
theorem pd_any (hm : mg "any" = none) (ha : PDA F K (e :: es) t) (hc : ∀ k, (F.X k).calm = true := by intro _; rfl) (hg : ∀ k, Gl (F.X k) "any" := by intro _; rfl) (he : ∀ k, starEach (e :: es) (F.X k).env = (false, eval e (F.X k).env) :: starEach es (F.X k).env := by intro _; rfl)
    (hpl : ∀ k, (backTo pos (starEach es (F.X k).env)).any (·.1) = false := by intro _; rfl) : PD F K (.Call (.Name "any" p) (e :: es) [] pos) (fun c => dCB rAny' (t c)) := pd_callB (callK (r := rAny) fun k => cr_any (hc k)) (fun _ => lr_any) hm (by decide +kernel) ha hg (by decide) (by decide) he hpl
theorem pd_max2 (hm : mg "max" = none) (ha : PDA F K (e :: es) t) (hc : ∀ k, (F.X k).calm = true := by intro _; rfl) (hg : ∀ k, Gl (F.X k) "max" := by intro _; rfl) (he : ∀ k, starEach (e :: es) (F.X k).env = (false, eval e (F.X k).env) :: starEach es (F.X k).env := by intro _; rfl)
    (hpl : ∀ k, (backTo pos (starEach es (F.X k).env)).any (·.1) = false := by intro _; rfl) : PD F K (.Call (.Name "max" p) (e :: es) [] pos) (fun c => dCB rMax2' (t c)) := pd_callB (fun k => call_max2 (hc k)) (fun _ => lr_max2) hm (by decide +kernel) ha hg (by decide) (by decide) he hpl
theorem pd_min2 (hm : mg "min" = none) (ha : PDA F K (e :: es) t) (hc : ∀ k, (F.X k).calm = true := by intro _; rfl) (hg : ∀ k, Gl (F.X k) "min" := by intro _; rfl) (he : ∀ k, starEach (e :: es) (F.X k).env = (false, eval e (F.X k).env) :: starEach es (F.X k).env := by intro _; rfl)
    (hpl : ∀ k, (backTo pos (starEach es (F.X k).env)).any (·.1) = false := by intro _; rfl) : PD F K (.Call (.Name "min" p) (e :: es) [] pos) (fun c => dCB rMin2' (t c)) := pd_callB (fun k => call_min2 (hc k)) (fun _ => lr_min2) hm (by decide +kernel) ha hg (by decide) (by decide) he hpl
theorem pd_maxL (hm : mg "max" = none) (ha : PDA F K (e :: es) t) (hc : ∀ k, (F.X k).calm = true := by intro _; rfl) (hg : ∀ k, Gl (F.X k) "max" := by intro _; rfl) (he : ∀ k, starEach (e :: es) (F.X k).env = (false, eval e (F.X k).env) :: starEach es (F.X k).env := by intro _; rfl)
    (hpl : ∀ k, (backTo pos (starEach es (F.X k).env)).any (·.1) = false := by intro _; rfl) : PD F K (.Call (.Name "max" p) (e :: es) [] pos) (fun c => dCB rMaxL' (t c)) := pd_callB (callK (r := rMax) fun k => cr_max (hc k)) (fun _ => lr_maxL) hm (by decide +kernel) ha hg (by decide) (by decide) he hpl
theorem pd_minL (hm : mg "min" = none) (ha : PDA F K (e :: es) t) (hc : ∀ k, (F.X k).calm = true := by intro _; rfl) (hg : ∀ k, Gl (F.X k) "min" := by intro _; rfl) (he : ∀ k, starEach (e :: es) (F.X k).env = (false, eval e (F.X k).env) :: starEach es (F.X k).env := by intro _; rfl)
    (hpl : ∀ k, (backTo pos (starEach es (F.X k).env)).any (·.1) = false := by intro _; rfl) : PD F K (.Call (.Name "min" p) (e :: es) [] pos) (fun c => dCB rMinL' (t c)) := pd_callB (callK (r := rMin) fun k => cr_min (hc k)) (fun _ => lr_minL) hm (by decide +kernel) ha hg (by decide) (by decide) he hpl
theorem pd_tupRev (hm : mg "tuple" = none) (hm2 : mg "reversed" = none) (ha : PD F K e te) (hc : ∀ k, (F.X k).calm = true := by intro _; rfl) (hg : ∀ k, Gl (F.X k) "tuple" := by intro _; rfl) (hg2 : ∀ k, Gl (F.X k) "reversed" := by intro _; rfl)
    (hs : ∀ k, starEach [e] (F.X k).env = (false, eval e (F.X k).env) :: starEach [] (F.X k).env := by intro _; rfl)
    (hs2 : ∀ k, starEach [.Call (.Name "reversed" p2) [e] [] pos2] (F.X k).env = (false, eval (.Call (.Name "reversed" p2) [e] [] pos2) (F.X k).env) :: starEach [] (F.X k).env := by intro _; rfl) :
    PD F K (.Call (.Name "tuple" p) [.Call (.Name "reversed" p2) [e] [] pos2] [] pos) (fun c => dTupRev (te c)) := by
  obtain ⟨t1, a1, l1⟩ := ha.ex
  refine ⟨fun h => tTupRev K (t1 h), fun k h q => ?_, fun Z h c r => ⟨fun Z S H env σ Q Q' s0 re rl hh q => ?_⟩⟩
  · have z := pe_tupRev (X := F.X k) (p := p) (p2 := p2) (pos := pos) (pos2 := pos2) (hc k) (hg k) (by rw [fam.mg k]; exact hm) (hg2 k) (by rw [fam.mg k]; exact hm2) (a1 k h q) (hs k) (hs2 k)
    rw [fam.k k] at z
    exact z
  · refine (l1 _ h c r).run Z S H env σ _ _ s0 re rl hh fun Z1 S1 H1 d v s1 r1 p1 h1 => ?_
    split at h1
    · rename_i ds e
      obtain ⟨a, xs, rfl, h2, h3⟩ := r1.lst p1 e
      refine ⟨a, xs, rfl, .of h2, fun q' hq => ?_⟩
      obtain ⟨r2, s2⟩ := r1.laid (o := .tup xs.reverse) hq
      exact q _ _ _ _ _ (s1.trans s2) r2 (.tup (.inl (.inl upd_same)) ((h3.reverse).mono s2)) h1
    · exact h1.elim
end
end DL
end

section
set_option Elab.async false
set_option linter.all false
set_option autoImplicit false
set_option maxRecDepth 100000
set_option maxHeartbeats 2000000
/-! DL16: ints of the module; own methods; properties. -/
namespace DL
open PySem PySem.Spec PyProof.Rows L2

/-- o.m(..), the wish about exceptions knowing the names -/
def tMethAt (C : Addr) (m : Str) (sp : Sp) (dvs : List V) (E : L2.St → XK) (ta : TE) (t : TA) : TE := fun σ H Q => tMeth C m sp dvs (E σ) ta t σ H Q
section
variable {X : Cx} {CX : CXT} {k : Nat} {f C : Addr} {fd : FuncData} {ps : List Str} {sp : Sp} {dvs : List V} {ds : List Value} {E : L2.St → XK} {m : Str} {apos pos : Pos} {e o : Expr} {es : List Expr} {ta : TE} {t : TA} {pl : Sem Bool}
theorem pe_methAt (he : PE X o ta) (c : Cls X.K C) (hm : Meth X.K C m f) (F : FnOk X.prog X.w X.K X.mg X.base CX k f fd ps sp) (hr : Room k X.A) (hb : Binds X.K fd ps ds) (hd : Vals dvs ds) (hx : ∀ σ, PassesAt CX X σ (E σ)) (ha : PA X (e :: es) t)
    (hst : starEach (e :: es) X.env = (false, eval e X.env) :: starEach es X.env) (hpl : (backTo pos (starEach es X.env)).any (·.1) = false)
    (ht : eval (.Call (.Attribute o m apos) (e :: es) [] pos) X.env = (do let ov ← eval o X.env; standAt apos.atName; let (f, first) ← holding [ov] (getMethod ov m pl); callWith pos f first (backTo pos (starEach (e :: es) X.env)) (backToKw pos (keywordEach [] X.env)))) :
    PE X (.Call (.Attribute o m apos) (e :: es) [] pos) (tMethAt C m sp dvs E ta t) :=
  ⟨fun pins s σ H Q I h => PySem.W.methodCall_KW (pl := pl) (thn (he.run pins s σ H _ I h) fun u s1 ⟨x, H1, I1, rx, a, dx, fs, ex, ea, l, q⟩ => by
    subst ex
    have eu : u = Value.ref a := rx
    subst eu
    exact getmeth_ok I1 ea c hm l (PySem.W.callWith_K (first := [.ref a]) (h₀ := X.base) I.ok.mod.kin hm.kp (thn (ha.run pos pins s1 σ H1 _ I1 q) fun us s2 ⟨vs, H2, I2, r, q2⟩ => ⟨I2.kIn, run_fnSD (us := .ref a :: us) (vs := .ref a :: vs) F hr hb hd (hx σ) I2 (.cons rfl r) q2⟩) hst hpl)) ht⟩
theorem pe_methAt0 (he : PE X o ta) (c : Cls X.K C) (hm : Meth X.K C m f) (F : FnOk X.prog X.w X.K X.mg X.base CX k f fd ps sp) (hr : Room k X.A) (hb : Binds X.K fd ps ds) (hd : Vals dvs ds) (hx : ∀ σ, PassesAt CX X σ (E σ))
    (ht : eval (.Call (.Attribute o m apos) [] [] pos) X.env = (do let ov ← eval o X.env; standAt apos.atName; let (f, first) ← holding [ov] (getMethod ov m pl); callWith pos f first (backTo pos (starEach [] X.env)) (backToKw pos (keywordEach [] X.env)))) :
    PE X (.Call (.Attribute o m apos) [] [] pos) (tMethAt C m sp dvs E ta tNil) :=
  ⟨fun pins s σ H Q I h => PySem.W.methodCall_KW (pl := pl) (thn (he.run pins s σ H _ I h) fun u s1 ⟨x, H1, I1, rx, a, dx, fs, ex, ea, l, q⟩ => by
    subst ex
    have eu : u = Value.ref a := rx
    subst eu
    exact getmeth_ok I1 ea c hm l (PySem.W.callWith_K0 (first := [.ref a]) I1.kIn hm.kp (run_fnSD (us := [.ref a]) (vs := [.ref a]) F hr hb hd (hx σ) I1 (.cons rfl .nil) q))) ht⟩
end
/-- o.m(..) of an own class: the promise F, told of the instance as data -/
def dMeth (C : Addr) (m : Str) (F : DF) (dds : List D) (W' : DW) (to : DE) (t : DA) : DE := fun env S Q => to env S fun x S1 => ∃ fs, insOf S1 x = some (C, fs) ∧ fs.lookup m = none ∧
  t env S1 fun ds S2 => F (x :: (ds ++ dds)) S2 Q (fun C fs S' => W' C fs env S')
section
variable {K : PySem.W.Frag} {Z0 : Hp} {to_ : TE} {to' : DE} {ar : TA} {ar' : DA}
theorem le_meth {C : Addr} {m : Str} {F : DF} {W : WX} {W' : DW} {dvs : List V} {dds : List D} (hd : ∀ Z, Reps K Z dds dvs) (rw' : RW K Z0 W W') (ho : LE K Z0 to_ to') (h : LA K Z0 ar ar') : LE K Z0 (tMethAt C m (spD K F) dvs (WE W) to_ ar) (dMeth C m F dds W' to' ar') := ⟨fun Z S H env σ Q Q' s0 re rl hh q =>
  ho.run Z S H env σ _ _ s0 re rl hh fun Z1 S1 H1 x v s1 r1 p1 ⟨fs, hi, hl, h1⟩ => by
    obtain ⟨a, dx, gs, rfl, h2, h3⟩ := r1.ins p1 hi
    refine ⟨a, dx, gs, rfl, h2, h3.lookup_none m hl, ?_⟩
    exact h.run Z1 S1 H1 env σ _ _ (s0.trans s1) (re.mono s1) r1 h1 fun Z2 S2 H2 ds vs s2 r2 p2 h2 => ⟨Z2, S2, x :: (ds ++ dds), _, _, r2, .cons (p1.mono s2) (p2.append (hd Z2)), h2, fun Z3 S3 H3 d v s3 => q Z3 S3 H3 d v ((s1.trans s2).trans s3),
      fun Z3 S3 H3 C fs d s3 r3 x3 w3 => rw'.run Z3 S3 H3 env σ C fs d (((s0.trans s1).trans s2).trans s3) (re.mono ((s1.trans s2).trans s3)) r3 x3 w3⟩⟩
end
/-- an own method that is known -/
structure MtD (P : Program) (w : World) (K : PySem.W.Frag) (mg : Str → Option Value) (base : Heap) (k : Nat) (C : Addr) (m : Str) (F : DF) (dds : List D) : Prop where
  ex : ∃ (f : Addr) (fd : FuncData) (ps : List Str) (dvs : List V) (ds : List Value), Cls K C ∧ Meth K C m f ∧ FnOk P w K mg base (L2.CX P w) k f fd ps (spD K F) ∧ Binds K fd ps ds ∧ Vals dvs ds ∧ ∀ Z, Reps K Z dds dvs
section
variable {F : Fm} {K : PySem.W.Frag} {P : Program} {w : World} {mg : Str → Option Value} {base : Heap} [fam : Fam F P w K mg base]
variable {e o : Expr} {es : List Expr} {to : DCtx → DE} {t : DCtx → DA} {pos p apos : Pos} {x m : Str}
include fam
theorem pd_meth {pl : Fm → Sem Bool} {k : Nat} {C : Addr} {G : DF} {dds : List D} (c : MtD P w K mg base k C m G dds) {j : Nat} (hr : ∀ k, Room j (F.X k).A) (hk : k ≤ j) (ho : PD F K o to) (ha : PDA F K (e :: es) t)
    (he : ∀ k, starEach (e :: es) (F.X k).env = (false, eval e (F.X k).env) :: starEach es (F.X k).env := by intro _; rfl) (hpl : ∀ k, (backTo pos (starEach es (F.X k).env)).any (·.1) = false := by intro _; rfl)
    (ht : ∀ k, eval (.Call (.Attribute o m apos) (e :: es) [] pos) (F.X k).env = (do let ov ← eval o (F.X k).env; standAt apos.atName; let (f, first) ← holding [ov] (getMethod ov m (pl F)); callWith pos f first (backTo pos (starEach (e :: es) (F.X k).env)) (backToKw pos (keywordEach [] (F.X k).env))) := by intro _; rfl) :
    PD F K (.Call (.Attribute o m apos) (e :: es) [] pos) (fun c => dMeth C m G dds c.w (to c) (t c)) := by
  obtain ⟨f, fd, ps, dvs, ds, h0, h1, h2, h4, h5, h6⟩ := c.ex
  obtain ⟨tt, b1, b2⟩ := ho.ex
  obtain ⟨ta, a1, a2⟩ := ha.ex
  refine ⟨fun h => tMethAt C m (spD K G) dvs (WE h.W) (tt h) (ta h), fun i h q => ?_, fun Z h c r => le_meth h6 r.w (b2 Z h c r) (a2 Z h c r)⟩
  have e1 := fam.prog i
  have e2 := fam.w i
  have e3 := fam.k i
  have e4 := fam.mg i
  have e5 := fam.base i
  exact pe_methAt (X := F.X i) (CX := L2.CX (F.X i).prog (F.X i).w) (E := WE h.W) (b1 i h q) (by rw [e3]; exact h0) (by rw [e3]; exact h1) (by rw [e1, e2, e3, e4, e5]; exact h2) ((hr i).mono hk) (by rw [e3]; exact h4) h5 (fun σ => passAt (F.tk i h q) σ) (a1 i h q) (he i) (hpl i) (ht i)
/-- an int of the module -/
theorem pd_gint {i : Int} (hm : ∃ t, mg x = some (.int i t)) (hg : ∀ k, Gl (F.X k) x := by intro _; rfl) (hd : (x == ("__debug__" : Str)) = false := by decide) : PD F K (.Name x pos) (fun c => dC (.int i)) := by
  obtain ⟨t, hm⟩ := hm
  exact ⟨fun _ => _, fun k _ _ => pe_glob (v := .int i) (hg k) (by rw [fam.mg k]; exact hm) ⟨t, rfl⟩ hd, fun _ _ _ _ => le_int i⟩
end
end DL
end

section
set_option Elab.async false
set_option linter.all false
set_option autoImplicit false
set_option maxRecDepth 100000
set_option maxHeartbeats 2000000
/-! DL17: a list repeated. -/
namespace DL
open PySem PySem.Spec PyProof.Rows L2

def rRepLM' : R2' := fun x y S Q => match asL S x, y with
  | some xs, .int k => -(2 ^ 63) ≤ k ∧ k < 2 ^ 63 ∧ xs.length * k.toNat ≤ sizeLine ∧ ∀ a, S a = none → Q (.raw a) (updS S a (.lst (List.replicate k.toNat xs).flatten))
  | _, _ => False
def rRepL' : R2' := fun x y S Q => match asL S x, y with
  | some xs, .int k => -(2 ^ 63) ≤ k ∧ k < 2 ^ 63 ∧ xs.length * k.toNat ≤ sizeLine ∧ Q (.lst (List.replicate k.toNat xs).flatten) S
  | _, _ => False
theorem lr_repLM {K : PySem.W.Frag} {Z0 : Hp} : L2R K Z0 rRep rRepLM' := ⟨fun Z S H x y d e Q Q' s0 rl pd pe h q => by
  unfold rRepLM' at h
  split at h
  · rename_i xs k e
    cases pe
    obtain ⟨a, vs, rfl, h2, h3⟩ := rl.lst pd e
    refine ⟨a, k, vs, rfl, rfl, h2, h.1, h.2.1, by rw [← h3.length]; exact h.2.2.1, fun p hp => ?_⟩
    obtain ⟨r2, n2⟩ := rl.new (o := .lst (List.replicate k.toNat xs).flatten) (u := .lst (List.replicate k.toNat vs).flatten) hp ⟨_, rfl, h3.repl _⟩
    exact q _ _ _ _ _ (Same.refl _) r2 (.raw p) (h.2.2.2 p n2)
  · exact h.elim⟩
theorem lr_repL {K : PySem.W.Frag} {Z0 : Hp} : L2R K Z0 rRep rRepL' := ⟨fun Z S H x y d e Q Q' s0 rl pd pe h q => by
  unfold rRepL' at h
  split at h
  · rename_i xs k e
    cases pe
    obtain ⟨a, vs, rfl, h2, h3⟩ := rl.lst pd e
    refine ⟨a, k, vs, rfl, rfl, h2, h.1, h.2.1, by rw [← h3.length]; exact h.2.2.1, fun p hp => ?_⟩
    obtain ⟨r2, s2⟩ := rl.laid (o := .lst (List.replicate k.toNat vs).flatten) hp
    exact q _ _ _ _ _ s2 r2 (.lst upd_same ((h3.repl _).mono s2)) h.2.2.2
  · exact h.elim⟩
section
variable {F : Fm} {K : PySem.W.Frag} {P : Program} {w : World} {mg : Str → Option Value} {base : Heap} [fam : Fam F P w K mg base]
variable {a b : Expr} {ta tb : DCtx → DE} {pos : Pos}
include fam
theorem pd_repLM (ha : PD F K a ta) (hb : PD F K b tb) : PD F K (.BinOp a .Mult b pos) (fun c => dOp rRepLM' (ta c) (tb c)) := pd_op (fun _ => op_rep) (fun _ => lr_repLM) ha hb
theorem pd_repL (ha : PD F K a ta) (hb : PD F K b tb) : PD F K (.BinOp a .Mult b pos) (fun c => dOp rRepL' (ta c) (tb c)) := pd_op (fun _ => op_rep) (fun _ => lr_repL) ha hb
end
end DL
end

section
set_option Elab.async false
set_option linter.all false
set_option autoImplicit false
set_option maxRecDepth 100000
set_option maxHeartbeats 2000000
/-! DL18: a tuple turned round by a slice. -/
namespace HT
open PySem PySem.Spec PyProof.Rows PySem.Calls L2
section
variable {prog : Program} {w : World} {A : Around} {E : Value → Shared → Prop} {s : Shared}
theorem places_back (n : Nat) : Builtin.Slice.slicePlaces ((n : Int) - 1) (-1) (-1) = n := by
  unfold Builtin.Slice.slicePlaces
  rw [if_neg (by decide)]
  split
  · have e : ((n : Int) - 1 - -1 - 1) / (- -1) = (n : Int) - 1 := by rw [show (- -1 : Int) = 1 by decide, Int.ediv_one]; omega
    rw [e]; omega
  · omega
theorem pick_back (xs : Array Value) : ((List.range xs.size).filterMap fun (m : Nat) => xs[(((xs.size : Int) - 1) + (m : Int) * (-1)).toNat]?).toArray = xs.toList.reverse.toArray := by
  have e : (fun (m : Nat) => xs[(((xs.size : Int) - 1) + (m : Int) * (-1)).toNat]?) = (fun x => xs[x]?) ∘ fun k => xs.size - 1 - k := by
    funext m
    have : (((xs.size : Int) - 1) + (m : Int) * (-1)).toNat = xs.size - 1 - m := by omega
    simp only [Function.comp, this]
  rw [e, ← List.filterMap_map, PySem.W.krv_range, List.filterMap_reverse, PySem.W.krv_all]
theorem item_back {t sl : Addr} {items : Array Value} {vs : Value} {Q : Value → Shared → Prop} (ht : IsTup s.heap t items) (hs : s.heap.IsSliceOf sl .none .none vs) (ps : IsPart vs (some (-1)))
    (h : Q (.ref s.heap.objs.size) { s with heap := s.heap.push { cls := .type "tuple", data := .seq items.toList.reverse.toArray } }) (hsz : items.size ≤ sizeLine) : wpAny (model prog w) A (getItem (.ref t) (.ref sl)) Q E s := by
  have hz : sizeOk (.seq items.toList.reverse.toArray) := by
    show items.toList.reverse.toArray.size ≤ sizeLine
    rw [List.size_toArray, List.length_reverse, Array.length_toList]; exact hsz
  obtain ⟨os, hos, hcs, hds⟩ := id hs
  have hT : s.TypeIs (.ref sl) "slice" := ⟨os, hos, hcs⟩
  unfold getItem
  try with_reducible refine wpAny_holding ?_
  first | refine wpAny_bind (wpAny_pure ?_) | skip
  refine wpAny_bind (wpAny_sequenceKey ht.typeIs (by decide) (wpAny_bind (wpAny_callSpecial?_slot (name := Str.ofString "__getitem__") ht.typeIs PyProof.Rows.slot_tuple_getitem (wpAny_call_entry PyProof.Rows.slot_tuple_getitem ht.typeIs entry_tuple_getitem ?_ (args_tuple_getitem _ _)))))
  show wpAny _ _ (Builtin.Tuple.tupleItemsOf (.ref t) >>= _) _ _ s
  refine wpAny_bind (tupleItemsOf_ ht (wpAny_bind (wpAny_typeOf hT ?_)))
  rw [if_pos (by decide)]
  refine wpAny_bind ?_
  unfold Builtin.Slice.sliceApplied Builtin.Slice.sliceFields
  refine wpAny_bind (wpAny_bind (wpAny_field hos hds (x := .none) rfl (wpAny_bind (wpAny_field hos hds (x := .none) rfl (wpAny_bind (wpAny_field hos hds (x := vs) rfl (wpAny_pure ?_)))))))
  refine wpAny_bind (slicePart_ ps ?_)
  show wpAny _ _ (if ((-1 : Int) == 0) = true then _ else _) _ _ s
  rw [if_neg (by decide)]
  refine wpAny_bind (slicePart_ .none (wpAny_bind (slicePart_ .none (wpAny_bind (wpAny_pure ?_)))))
  show wpAny _ _ (pure (((items.size : Int) - 1), (-1 : Int), Builtin.Slice.slicePlaces ((items.size : Int) - 1) (-1) (-1))) _ _ s
  rw [places_back]
  refine wpAny_pure ?_
  have hno : ¬ ((((items.size : Int) - 1) == 0 && (-1 : Int) == 1 && items.size == items.size) = true) := by simp
  show wpAny _ _ (if (((items.size : Int) - 1) == 0 && (-1 : Int) == 1 && items.size == items.size) = true then _ else _) _ _ s
  rw [if_neg hno, pick_back]
  first
    | exact wpAny_bind (m := Builtin.Tuple.tupleExact _) (wpAny_newObj_type (wpAny_pure ⟨_, rfl, wpAny_pure h⟩) hz)
    | exact wpAny_bind (m := Builtin.Tuple.tupleExact _) (wpAny_newObj_type (wpAny_bind (wpAny_pure (wpAny_pure ⟨_, rfl, wpAny_pure h⟩))) hz)
    | exact wpAny_bind (wpAny_bind (m := Builtin.Tuple.tupleExact _) (wpAny_newObj_type (wpAny_pure (wpAny_pure ⟨_, rfl, wpAny_pure h⟩)) hz))
    | exact wpAny_bind (wpAny_bind (m := Builtin.Tuple.tupleExact _) (wpAny_newObj_type (wpAny_pure ⟨_, rfl, wpAny_pure h⟩) hz))
end
end HT
namespace DL
open PySem PySem.Spec PyProof.Rows L2
def tRevT (K : PySem.W.Frag) (te : TE) : TE := fun σ H Q => te σ H fun x H1 => ∃ a xs, x = .ref a ∧ SqT K H1 a xs ∧ ∀ p, H1 p = none → Q (.ref p) (upd H1 p (.tup xs.reverse))
theorem pe_revT {X : Cx} {e : Expr} {te : TE} {k : Nat} {p1 p2 p3 pos : Pos} (he : PE X e te) : PE X (.Subscript e (.Slice none none (some (.UnaryOp .USub (.Constant (.int 1) k p1) p2)) p3) pos) (tRevT X.K te) := by
  refine ⟨fun pins s σ H Q I h => Subscript_ (thn (he.run pins s σ H _ I h) fun v s1 ⟨x, H1, I1, r1, q1⟩ => ?_)⟩
  obtain ⟨a, xs, ex, hx, q⟩ := q1
  subst ex
  have ev : v = Value.ref a := r1
  subst ev
  have hst : PO X (some (.UnaryOp .USub (.Constant (.int 1) k p1) p2)) (tPart (tUn (rU fun i => .int (-i)) (tC (.int 1)))) := po_some (pe_un un_neg pe_int)
  refine wpAny_Slice (thn (po_none.run pins s1 σ H1 (fun o H2 => o = none ∧ H2 = H1) I1 ⟨rfl, rfl⟩) fun vl s2 ⟨l, H2, I2, pl, el, e2⟩ => thn (po_none.run pins s2 σ H2 (fun o H3 => o = none ∧ H3 = H2) I2 ⟨rfl, rfl⟩) fun vu s3 ⟨u, H3, I3, pu, eu, e3⟩ => ?_)
  subst el e2 eu e3
  refine thn (hst.run pins s3 σ H3 (fun o H4 => o = some (-1) ∧ H4 = H3) I3 ⟨1, rfl, -1, rfl, rfl, rfl⟩) fun vs s4 ⟨o, H4, I4, ps, eo, e4⟩ => ?_
  subst eo e4
  cases pl
  cases pu
  have I5 : Inv X pins σ H4 { s4 with heap := s4.heap.push { cls := .type "slice", data := .fields #[.none, .none, vs] } } := I4.kept (t' := s4.toks) fun b ob q => Heap.get?_push_of_some _ q
  obtain ⟨its, r, ht, hz⟩ := I5.tuple hx
  have hlen := r.length
  show wpAny (model X.prog X.w) X.A (subscriptTail e (.Slice none none (some (.UnaryOp .USub (.Constant (.int 1) k p1) p2)) p3) (.ref a) (.ref s4.heap.objs.size)) (EP X pins σ Q) X.xe { s4 with heap := s4.heap.push { cls := .type "slice", data := .fields #[.none, .none, vs] } }
  refine tail_any (ops := [.ref a, .ref s4.heap.objs.size]) ht.typeIs (PyProof.Rows.slot_tuple_getitem.lookup) (HT.item_back ht (Heap.IsSliceOf.new _ .none .none vs) ps ?_ (by rw [List.size_toArray]; omega)) (by with_unfolding_all rfl)
  refine ⟨.ref _, _, I5.laid (t' := s4.toks) (o := .tup xs.reverse) (fun b ob q => Heap.get?_push_of_some _ q) (Nat.le_refl _) ?_, rfl, q _ (I5.hok.fresh (Nat.le_refl _))⟩
  exact ⟨by rw [List.length_reverse]; exact hz, its.reverse, r.reverse, _, Heap.get?_push_size _ rfl, rfl, 0, rfl⟩
def dRevT (te : DE) : DE := fun env S Q => te env S fun x S1 => match x with
  | .tup ds => Q (.tup ds.reverse) S1
  | _ => False
section
variable {F : Fm} {K : PySem.W.Frag} {P : Program} {w : World} {mg : Str → Option Value} {base : Heap} [fam : Fam F P w K mg base]
variable {e : Expr} {te : DCtx → DE} {k : Nat} {p1 p2 p3 pos : Pos}
include fam
theorem pd_revT (ha : PD F K e te) : PD F K (.Subscript e (.Slice none none (some (.UnaryOp .USub (.Constant (.int 1) k p1) p2)) p3) pos) (fun c => dRevT (te c)) := by
  obtain ⟨t1, a1, l1⟩ := ha.ex
  refine ⟨fun h => tRevT K (t1 h), fun i h q => ?_, fun Z h c r => ⟨fun Z S H env σ Q Q' s0 re rl hh q => ?_⟩⟩
  · have z := pe_revT (X := F.X i) (k := k) (p1 := p1) (p2 := p2) (p3 := p3) (pos := pos) (a1 i h q)
    rw [fam.k i] at z
    exact z
  · refine (l1 _ h c r).run Z S H env σ _ _ s0 re rl hh fun Z1 S1 H1 d v s1 r1 p1 h1 => ?_
    split at h1
    · cases p1 with
      | tup h2 h3 =>
        refine ⟨_, _, rfl, Same.sqt r1.sub h2, fun q' hq => ?_⟩
        obtain ⟨r2, s2⟩ := r1.laid (o := .tup _) hq
        exact q _ _ _ _ _ (s1.trans s2) r2 (.tup (.inl (.inl upd_same)) ((h3.reverse).mono s2)) h1
    · exact h1.elim
end
end DL
end

section
set_option Elab.async false
set_option linter.all false
set_option autoImplicit false
set_option maxRecDepth 100000
set_option maxHeartbeats 2000000
/-! DL19: facts about own classes, asked of the written part. -/
namespace DL
open PySem PySem.Spec PyProof.Rows L2
def insB (K : PySem.W.Frag) (C : Addr) : Bool := decide (PySem.W.findIn K (.ref C) "__class__" = some (some (.builtin "object.__class__"))) && (decide (PySem.W.specialIn K (.builtin "object.__class__") "__get__" = some (some (.builtin "getset_descriptor.__get__"))) && (decide (PySem.W.takesIn K (.builtin "object.__class__") = some true) && decide (PySem.W.mroIn K C (.type "object") = some true)))
theorem insB_ok {K : PySem.W.Frag} {C : Addr} (c : Cls K C) (h : insB K C = true) : InsC K C := by
  unfold insB at h
  simp only [Bool.and_eq_true, decide_eq_true_eq] at h
  obtain ⟨h0, h1, h2, h3⟩ := h
  exact ⟨c, h0, h1, h2, h3⟩
def kitCB (K : PySem.W.Frag) (C C2 : Addr) (b : Bool) : Bool := decide (PySem.W.kitOne K (.ref C) (.ref C2) = some b)
theorem kitCB_ok {K : PySem.W.Frag} {C C2 : Addr} {b : Bool} (h : kitCB K C C2 b = true) : PySem.W.kitOne K (.ref C) (.ref C2) = some b := of_decide_eq_true h
end DL
end

section
set_option Elab.async false
set_option linter.all false
set_option autoImplicit false
set_option maxRecDepth 100000
set_option maxHeartbeats 2000000
/-! DL20: for .. in reversed(list or tuple). -/
namespace DL
open PySem PySem.Spec PyProof.Rows L2 RT
variable {K : PySem.W.Frag} {Z0 : Hp}
def diRev (te : DE) : DI := fun env S R => te env S fun x S1 => match x with
  | .raw a => (match S1 a with
    | some (.lst ds) => R ds.reverse (fun S => S a = some (.lst ds)) S1
    | _ => False)
  | x => (match asQ S1 x with
    | some ds => R ds.reverse (fun _ => True) S1
    | none => False)
theorem rev_get {α : Type} {xs : List α} {i : Nat} (h : i < xs.length) : xs.reverse[i]? = xs[xs.length - 1 - i]? := List.getElem?_reverse h
theorem wd_revT {Z : Hp} {a : Addr} {xs : List V} {ds : List D} (h : SqT K Z a xs) (p : Reps K Z ds xs) : WalkD K Z (ItvT K a xs.length) ds.reverse (fun _ => True) := by
  have hl := p.length
  refine ⟨fun Z' S H i s r _ hi => ?_, fun Z' S H s r _ => ?_, fun Z' S H i x H' s r _ hi y => ?_⟩
  · rw [List.length_reverse, hl] at hi
    exact ⟨hi, xs, xs[xs.length - 1 - i], Same.sqt r.sub (Same.sqt s h), List.getElem?_eq_getElem (by omega)⟩
  · show xs.length ≤ _
    rw [List.length_reverse, hl]; exact Nat.le_refl _
  · rw [List.length_reverse] at hi
    obtain ⟨rfl, hy⟩ := y
    obtain ⟨d, e1, e2⟩ := p.get (hy xs (Same.sqt r.sub (Same.sqt s h)))
    exact ⟨Z', d, Same.refl _, r, by rw [rev_get hi, hl]; exact e1, e2.mono s⟩
theorem wd_revL {Z : Hp} {a : Addr} {xs : List V} {ds : List D} (h : Z a = some (.lst xs)) (p : Reps K Z ds xs) : WalkD K Z (Itv K a xs.length) ds.reverse (fun _ => True) := by
  have hl := p.length
  refine ⟨fun Z' S H i s r _ hi => ?_, fun Z' S H s r _ => ?_, fun Z' S H i x H' s r _ hi y => ?_⟩
  · rw [List.length_reverse, hl] at hi
    exact ⟨hi, xs, xs[xs.length - 1 - i], .of (r.sub _ _ (s _ _ h)), List.getElem?_eq_getElem (by omega)⟩
  · show xs.length ≤ _
    rw [List.length_reverse, hl]; exact Nat.le_refl _
  · rw [List.length_reverse] at hi
    obtain ⟨rfl, hy⟩ := y
    obtain ⟨d, e1, e2⟩ := p.get (hy xs (.of (r.sub _ _ (s _ _ h))))
    exact ⟨Z', d, Same.refl _, r, by rw [rev_get hi, hl]; exact e1, e2.mono s⟩
theorem wd_revS {Z : Hp} {a : Addr} {ds : List D} : WalkD K Z (Itv K a ds.length) ds.reverse (fun S => S a = some (.lst ds)) := by
  refine ⟨fun Z' S H i s r g hi => ?_, fun Z' S H s r g => ?_, fun Z' S H i x H' s r g hi y => ?_⟩
  · obtain ⟨xs, h, p⟩ := r.lock g
    have hl := p.length
    rw [List.length_reverse] at hi
    exact ⟨hi, xs, xs[ds.length - 1 - i]'(by omega), .of h, List.getElem?_eq_getElem (by omega)⟩
  · show ds.length ≤ _
    rw [List.length_reverse]; exact Nat.le_refl _
  · obtain ⟨xs, h, p⟩ := r.lock g
    rw [List.length_reverse] at hi
    obtain ⟨rfl, hy⟩ := y
    obtain ⟨d, e1, e2⟩ := p.get (hy xs (.of h))
    exact ⟨Z', d, Same.refl _, r, by rw [rev_get hi]; exact e1, e2⟩
theorem li_rev {te : TE} {te' : DE} (h : LE K Z0 te te') : LI K Z0 (iRevA K te) (diRev te') := ⟨fun Z S H env σ R R' s0 re rl hh q =>
  h.run Z S H env σ _ _ s0 re rl hh fun Z1 S1 H1 d v s1 r1 p1 h1 => by
    by_cases hr : ∃ a, d = .raw a
    · obtain ⟨a, rfl⟩ := hr
      cases p1
      have h1' : (match S1 a with
        | some (.lst ds) => R' ds.reverse (fun S => S a = some (.lst ds)) S1
        | _ => False) := h1
      split at h1'
      · rename_i ds e
        obtain ⟨xs, h2, p⟩ := r1.lock e
        have hw : WalkD K Z1 (Itv K a xs.length) ds.reverse (fun S => S a = some (.lst ds)) := by rw [← p.length]; exact wd_revS
        exact ⟨a, xs, rfl, .inl ⟨.of h2, q _ _ _ _ _ _ s1 r1 hw h1'⟩⟩
      · exact h1'.elim
    · have h1' : (match asQ S1 d with
        | some ds => R' ds.reverse (fun _ => True) S1
        | none => False) := by
        cases d with
        | raw a => exact absurd ⟨a, rfl⟩ hr
        | _ => exact h1
      cases p1 with
      | tup h2 h3 => exact ⟨_, _, rfl, .inr ⟨Same.sqt r1.sub h2, q _ _ _ _ _ _ s1 r1 (wd_revT h2 h3) h1'⟩⟩
      | lst h2 h3 => exact ⟨_, _, rfl, .inl ⟨.of (r1.sub _ _ h2), q _ _ _ _ _ _ s1 r1 (wd_revL h2 h3) h1'⟩⟩
      | raw a => exact absurd ⟨a, rfl⟩ hr
      | _ => exact h1'.elim⟩
section
variable {F : Fm} {P : Program} {w : World} {mg : Str → Option Value} {base : Heap} [fam : Fam F P w K mg base]
variable {e : Expr} {te : DCtx → DE} {p pos : Pos}
include fam
theorem i_rev {tg : Expr} (hm : mg "reversed" = none) (h : PD F K e te) (hg : ∀ k, Gl (F.X k) "reversed" := by intro _; rfl) (hs : ∀ k, starEach [e] (F.X k).env = (false, eval e (F.X k).env) :: starEach [] (F.X k).env := by intro _; rfl) : PDI F K tg (.Call (.Name "reversed" p) [e] [] pos) (fun c => diRev (te c)) := by
  obtain ⟨t1, a1, l1⟩ := h.ex
  exact ⟨_, fun k h q => by have hh := pi_revA (X := F.X k) (tg := tg) (p := p) (pos := pos) (hg k) (by rw [fam.mg k]; exact hm) (a1 k h q) (hs k); rw [fam.k k] at hh; exact hh, fun Z h c r => li_rev (l1 Z h c r)⟩
end
theorem x_iRev {te : DE} {env : DEnv} {S : Sto} {R : List D → (Sto → Prop) → Sto → Prop} : diRev te env S R = te env S fun x S1 => match x with
  | .raw a => (match S1 a with
    | some (.lst ds) => R ds.reverse (fun S => S a = some (.lst ds)) S1
    | _ => False)
  | x => (match asQ S1 x with
    | some ds => R ds.reverse (fun _ => True) S1
    | none => False) := rfl
end DL
end

section
set_option Elab.async false
set_option linter.all false
set_option autoImplicit false
set_option maxRecDepth 100000
set_option maxHeartbeats 2000000
/-! DL21: a try with several clauses, each with a name. -/
namespace DL
open PySem PySem.Spec PyProof.Rows L2
/-- a clause: the class's name and value, the name bound, its slot, the suite -/
structure Cl where
  cn : Str
  cv : Value
  nm : Str
  ix : Nat
  b0 : Stmt
  su : List Stmt
  np : Pos
  hp : Pos
  ts : Addr → Value → Option Addr → TS
def Cl.hd (q : Cl) : ExceptHandler := .ExceptHandler (some (.Name q.cn q.np)) (some q.nm) (q.b0 :: q.su) q.hp
def wCl (K : PySem.W.Frag) (Wout : WX) (D : Ends) : List Cl → WX
  | [] => Wout
  | q :: r => wAs K q.cv q.ix q.ts (wCl K Wout D r) D
structure Cl.Ok (X : Cx) (q : Cl) : Prop where
  nms : Names X q.cn q.cv
  slot : X.N[q.ix]? = some q.nm
  loc : X.env.kindOf q.nm = some .local
  run : ∀ (a : Addr) (oe : Obj) (cls : Value) (d : Option Addr) (pn : List (Addr × Obj)), Zc cls d oe → (∃ vs, oe.data = .fields vs) → PSs (X.suite a ((a, oe) :: pn)) (q.b0 :: q.su) (q.ts a cls d)
section
variable {X : Cx} {body : List Stmt} {pos : Pos} {tb : WX → TS} {Wout : WX} {q0 : Cl} {qs : List Cl}
theorem ps_try_cl (hst : X.stack = X.env :: X.outer) (hfr0 : X.env.frame = some X.env.locals) (nd : X.N.Nodup) (tk : Takes X Wout)
    (hb : ∀ (W : WX) (pn : List (Addr × Obj)) (xe : Value → Shared → Prop), Takes (X.tr pn xe) W → PassesOwn (model X.prog X.w) X.A X.env xe → PSs (X.tr pn xe) body (tb W))
    (hq : ∀ q ∈ q0 :: qs, q.Ok X) : PS X (.Try body (q0.hd :: qs.map Cl.hd) [] [] pos) (fun D σ H => tb (wCl X.K Wout D (q0 :: qs)) D σ H) := by
  constructor
  intro pins s σ H D I h
  have ok := I.ok
  have frs0 : X.A.frames = some (X.env :: X.outer) := ok.frames.trans (congrArg some hst)
  refine wpAny_Try_except (wpAny_mono ((hb (wCl X.K Wout D (q0 :: qs)) (X.pn ++ pins) (fun e t => wpAny (model X.prog X.w) X.A (noteFrame e X.env) (fun _ t2 => wpAny (model X.prog X.w) X.A (setFlight e none) (fun _ t3 => wpAny (model X.prog X.w) X.A (handleBy e X.env (q0.hd :: qs.map Cl.hd)) (SP X pins D) X.xe t3) X.xe t2) X.xe t) (fun u t xx => ?_) PassesOwn.looking).run [] s σ H D (I.toTry _) h) (fun f t r => ?_) fun _ _ z => z)
  · obtain ⟨a, B, sI, pins', τ, G, cls, d, rfl, J0, nb, up, sky, na, os, ag, w⟩ := xx
    have J := J0.ofTry ok
    show wpAny (model X.prog X.w) X.A (noteFrame (.ref a) X.env) _ _ _
    refine Sky.land Zc.steady frs0 hfr0 (by rw [← hst]; exact sky) fun g3 fl up3 => ?_
    obtain ⟨oe3, vs3, ge3, gz3, gd3⟩ := fl.there
    have nfr : a ∉ frs (X.env :: X.outer) := fun hm => by
      obtain ⟨_, o', e', hnf⟩ := fl.2.2.1.mem hm
      rw [ge3] at e'
      cases e'
      exact hnf _ gd3
    have nL : a ≠ X.env.locals := fun z => nfr (List.mem_filterMap.mpr ⟨X.env, List.mem_cons_self, by rw [hfr0, z]⟩)
    have nF : a ∉ X.fs := fun hm => by
      obtain ⟨e, he, z⟩ := List.mem_filterMap.mp hm
      exact nfr (List.mem_filterMap.mpr ⟨e, List.mem_cons_of_mem _ he, z⟩)
    have J3 : Inv X pins τ G { t with heap := g3 } := J.landed nb fl.1 (up.trans up3) os ag
    -- the clauses, one behind the other
    have each : ∀ l : List Cl, (∀ q ∈ l, q.Ok X) → wCl X.K Wout D l cls d τ G → wpAny (model X.prog X.w) X.A (handleBy (.ref a) X.env (l.map Cl.hd)) (SP X pins D) X.xe { t with heap := g3 } := by
      intro l
      induction l with
      | nil =>
        intro _ w
        refine wpAny_handleBy_nil ?_
        obtain ⟨_, _, _, oe, vs, T, oT, tt, he, _, hd, h1, _⟩ := id fl
        unfold PySem.passOn
        refine wpAny_bind (wpAny_field he hd h1 ?_)
        rw [if_neg (show ¬ ((Value.ref T == Value.none) = true) by simp)]
        have out : wpAny (model X.prog X.w) X.A (setFlight (.ref a) X.env.frame) (fun _ s4 => wpAny (model X.prog X.w) X.A (throw (.ref a) : Sem Flow) (SP X pins D) X.xe s4) X.xe { t with heap := g3 } := by
          rw [hfr0]
          exact HandSPX.setFlight_upZ fl fun g4 hg4 up4 => wpAny_throw (tk _ _ ⟨a, B, sI, pins, τ, G, cls, d, rfl, J, nb, (up.trans up3).trans up4, .inr (.inr (by rw [hst]; exact hg4)), na, os, ag, w⟩)
        first | exact wpAny_bind (wpAny_pure (wpAny_bind out)) | exact wpAny_bind out
      | cons q l ih =>
        intro hl w
        have Q := hl q List.mem_cons_self
        obtain ⟨b, hb1, hyes, hno⟩ := w
        refine wpAny_handleBy_cons (codeAny_handlers_test ?_) (by intro z; cases z)
        have seen : ∀ {QQ EE : Value → Shared → Prop}, QQ q.cv { t with heap := g3 } → wpAny (model X.prog X.w) (X.A.mark (some (.ref a))) (eval (.Name q.cn q.np) X.env) QQ EE { t with heap := g3 } := fun {QQ EE} z => by
          have S3 := J3.suite ge3 gd3 na nL nF
          rcases Q.nms with ⟨g1, g2, g4 | ⟨g4, g5, g6⟩⟩
          · exact ld_glob (X := X.suite a ((a, oe3) :: (X.pn ++ pins))) S3 g1 g4 z g2
          · exact ld_blt (X := X.suite a ((a, oe3) :: (X.pn ++ pins))) S3 g1 g4 g5 z g6 g2
        refine seen ((PySem.W.exm_one (M := model X.prog X.w) J3.kIn (fun A Q E s k z => wpAny_typeOf_ref (k _ _ ge3) (by rw [gz3.1]; exact z)) hb1).here ?_)
        cases b with
        | false =>
          show wpAny _ X.A (handleBy (.ref a) X.env (l.map Cl.hd)) _ _ _
          exact ih (fun z hz => hl z (List.mem_cons_of_mem _ hz)) (hno rfl)
        | true =>
          refine codeAny_handlers_suite_as (HandSPX.lands_againZ fl fun g4 fl4 up4 => ?_)
          obtain ⟨oe4, vs4, ge4, gz4, gd4⟩ := fl4.there
          have J4 : Inv X pins τ G { t with heap := g4 } := J.landed nb fl4.1 ((up.trans up3).trans up4) os ag
          have S4 := J4.suite ge4 gd4 na nL nF
          refine store_ok (X := X.suite a ((a, oe4) :: (X.pn ++ pins))) (v := .ref a) S4 nd Q.slot (.inl Q.loc) rfl (fun s5 S5 => ?_) (.inr Q.loc)
          refine wpAny_mono ((Q.run a oe4 cls d (X.pn ++ pins) gz4 ⟨_, gd4⟩).run [] s5 _ G _ S5 (hyes rfl a na)) (fun f s6 r6 => ?_) fun _ _ z => z.elim
          have off : ∀ {τ6 : L2.St} {G6 : Hp} {Q6 : Shared → Prop}, Inv (X.suite a ((a, oe4) :: (X.pn ++ pins))) [] τ6 G6 s6 → (∀ s7, Inv X pins (τ6.set q.ix none) G6 s7 → Q6 s7) →
              wpAny (model X.prog X.w) X.A (do bindName X.env q.nm .none; unbindBehindTheSuite X.env q.nm q.hp) (fun _ s7 => Q6 s7) X.xe s6 := fun S6 k => gone_ok (S6.unsuite ok) nd Q.slot Q.loc k
          cases f with
          | ret u =>
            obtain ⟨v6, τ6, G6, S6, r7, q6⟩ := r6
            exact off S6 fun s7 J7 => ⟨_, _, _, J7, r7, q6⟩
          | next =>
            obtain ⟨τ6, G6, S6, q6⟩ := r6
            exact off S6 fun s7 J7 => ⟨_, _, J7, q6⟩
          | brk =>
            obtain ⟨τ6, G6, S6, q6⟩ := r6
            exact off S6 fun s7 J7 => ⟨_, _, J7, q6⟩
          | cont =>
            obtain ⟨τ6, G6, S6, q6⟩ := r6
            exact off S6 fun s7 J7 => ⟨_, _, J7, q6⟩
    exact each (q0 :: qs) hq w
  · cases f with
    | ret u =>
      obtain ⟨v, τ, G, J, z, k⟩ := r
      exact ⟨v, τ, G, J.ofTry ok, z, k⟩
    | next =>
      obtain ⟨τ, G, J, k⟩ := r
      exact wpAny_execs_nil ⟨τ, G, J.ofTry ok, k⟩
    | brk =>
      obtain ⟨τ, G, J, k⟩ := r
      exact ⟨τ, G, J.ofTry ok, k⟩
    | cont =>
      obtain ⟨τ, G, J, k⟩ := r
      exact ⟨τ, G, J.ofTry ok, k⟩
end
theorem rw_as {K : PySem.W.Frag} {C0 : Addr} {i : Nat} {t2 : HCtx → TS} {ts : DCtx → DS} {Z : Hp} {W : WX} {w0 : DW} {D : Ends} {D' : DEnds} (l2 : ∀ Z0 h c, RC K Z0 h c → LS K Z0 (t2 h) (ts c)) (e : EndsR K Z D' D) (r : RW K Z W w0) :
    RW K Z (wAs K (.ref C0) i (fun a cls d => t2 ⟨fun _ _ _ _ => False, a, cls, d⟩) W D) (xAs K C0 i ts w0 D') := ⟨fun Z1 S1 H1 env1 σ1 C fs d z1 re1 r1 x1 w1 => by
  rcases w1 with ⟨m, w1⟩ | ⟨m, w1⟩
  · refine ⟨true, m, fun _ a ha => ?_, fun z => by cases z⟩
    refine (l2 Z1 ⟨fun _ _ _ _ => False, a, .ref C, d⟩ ⟨W0, some (a, C, fs)⟩ ⟨⟨fun _ _ _ _ _ _ _ _ _ _ _ _ z => z⟩, fun _ _ _ z => by cases z; exact ⟨rfl, rfl, x1⟩⟩).run Z1 S1 H1 _ _ _ _ (Same.refl _) (re1.set (.raw a) i) r1 (w1 a) ?_
    exact ⟨fun Z2 S2 H2 e2 σ2 z2 re2 r2 q => e.nx Z2 S2 H2 _ _ (z1.trans z2) (re2.setN i none) r2 q, fun Z2 S2 H2 d v z2 r2 p2 q => e.rt Z2 S2 H2 d v (z1.trans z2) r2 p2 q,
      fun Z2 S2 H2 e2 σ2 z2 re2 r2 q => e.bk Z2 S2 H2 _ _ (z1.trans z2) (re2.setN i none) r2 q, fun Z2 S2 H2 e2 σ2 z2 re2 r2 q => e.ct Z2 S2 H2 _ _ (z1.trans z2) (re2.setN i none) r2 q⟩
  · exact ⟨false, m, (fun z => by cases z), fun _ => r.run Z1 S1 H1 env1 σ1 C fs d z1 re1 r1 x1 w1⟩⟩
/-- the clauses, as data -/
def xCl (K : PySem.W.Frag) (w0 : DW) (D : DEnds) : List (Addr × Nat × (DCtx → DS)) → DW
  | [] => w0
  | q :: r => xAs K q.1 q.2.1 q.2.2 (xCl K w0 D r) D
def dTryCl (K : PySem.W.Frag) (l : List (Addr × Nat × (DCtx → DS))) (tb : DCtx → DS) (c : DCtx) : DS := fun D env S => tb ⟨xCl K c.w D l, none⟩ D env S
section
variable {F : Fm} {K : PySem.W.Frag} {P : Program} {w : World} {mg : Str → Option Value} {base : Heap} [fam : Fam F P w K mg base]
/-- clauses and what they are as data -/
structure PCl (F : Fm) (K : PySem.W.Frag) (hs : List ExceptHandler) (l : List (Addr × Nat × (DCtx → DS))) : Prop where
  ex : ∃ qs : List Cl, hs = qs.map Cl.hd ∧ (∀ k, ∀ q ∈ qs, q.Ok (F.X k)) ∧ ∀ (Z : Hp) (W : WX) (w0 : DW) (D : Ends) (D' : DEnds), EndsR K Z D' D → RW K Z W w0 → RW K Z (wCl K W D qs) (xCl K w0 D' l)
theorem cl_nil : PCl F K [] [] := ⟨[], rfl, fun _ _ h => absurd h (by simp), fun _ _ _ _ _ _ r => r⟩
include fam
theorem cl_cons {cn nm : Str} {b0 : Stmt} {su : List Stmt} {np hp : Pos} {C0 : Addr} {i : Nat} {ts : DCtx → DS} {hs : List ExceptHandler} {l : List (Addr × Nat × (DCtx → DS))} (hm : mg cn = some (.ref C0)) (hsu : PDSs (suF F) K (b0 :: su) ts) (r : PCl F K hs l)
    (hi : ∀ k, (F.X k).N[i]? = some nm := by intro _; rfl) (hln : ∀ k, (F.X k).env.kindOf nm = some .local := by intro _; rfl) (hg : ∀ k, Gl (F.X k) cn := by intro _; rfl) (hdb : (cn == ("__debug__" : Str)) = false := by decide) :
    PCl F K (.ExceptHandler (some (.Name cn np)) (some nm) (b0 :: su) hp :: hs) ((C0, i, ts) :: l) := by
  obtain ⟨qs, e, ok, rel⟩ := r.ex
  obtain ⟨t2, a2, l2⟩ := hsu.ex
  refine ⟨⟨cn, .ref C0, nm, i, b0, su, np, hp, fun a cls d => t2 ⟨fun _ _ _ _ => False, a, cls, d⟩⟩ :: qs, by rw [e]; rfl, fun k q hq => ?_, fun Z W w0 D D' e r => rw_as l2 e (rel Z W w0 D D' e r)⟩
  rcases List.mem_cons.mp hq with rfl | hq
  · exact ⟨⟨hg k, hdb, .inl (by rw [fam.mg k]; exact hm)⟩, hi k, hln k, fun a oe cls d pn zc vs => a2 ⟨k, a, oe, pn⟩ ⟨fun _ _ _ _ => False, a, cls, d⟩ ⟨rfl, rfl, zc, vs⟩⟩
  · exact ok k q hq
theorem s_tryCl {body : List Stmt} {tb : DCtx → DS} {h0 : ExceptHandler} {hs : List ExceptHandler} {l : List (Addr × Nat × (DCtx → DS))} {pos : Pos} (hN : ∀ k, (F.X k).N.Nodup) (hb : PDSs (trF F) K body tb) (hh : PCl F K (h0 :: hs) l) (hst : ∀ k, (F.X k).stack = (F.X k).env :: (F.X k).outer := by intro _; rfl) (hf : ∀ k, (F.X k).env.frame = some (F.X k).env.locals := by intro _; rfl) :
    PDS F K (.Try body (h0 :: hs) [] [] pos) (dTryCl K l tb) := by
  obtain ⟨t1, a1, l1⟩ := hb.ex
  obtain ⟨qs, e, ok, rel⟩ := hh.ex
  cases qs with
  | nil => cases e
  | cons q0 qs =>
    obtain ⟨rfl, rfl⟩ := List.cons.inj e
    refine ⟨fun h D σ H => t1 ⟨wCl K h.W D (q0 :: qs), 0, .none, none⟩ D σ H, fun k h q => ?_, fun Z h c r => ⟨fun Z1 S H env σ D D' s0 re rl hh2 e2 => ?_⟩⟩
    · have z := ps_try_cl (X := F.X k) (pos := pos) (Wout := h.W) (tb := fun W => t1 ⟨W, 0, .none, none⟩) (hst k) (hf k) (hN k) (F.tk k h q) (fun W pn xe tk po => a1 ⟨k, pn, xe, po⟩ ⟨W, 0, .none, none⟩ tk) (ok k)
      rw [fam.k k] at z
      exact z
    · refine (l1 Z1 _ ⟨xCl K c.w D' l, none⟩ ⟨rel Z1 h.W c.w D D' e2 ⟨fun Z2 S2 H2 env2 σ2 C fs d z2 => r.w.run Z2 S2 H2 env2 σ2 C fs d (s0.trans z2)⟩, fun _ _ _ z => by cases z⟩).run Z1 S H env σ D D' (Same.refl _) re rl hh2 e2
end
end DL
end

section
set_option Elab.async false
set_option linter.all false
set_option maxRecDepth 100000
set_option maxHeartbeats 1000000
namespace DL
open PySem PySem.Spec PyProof.Rows L2 GenW
section
variable {M : Model} {A : Around} {R : GenEnd} {Y : Protocol} {n : Nat} {s0 : Shared} {c : Code} {fs : List Frame} {s : Shared} {env : Env}
  {K : Flow → Sem PySem.Fin} {J : Value → Sem PySem.Fin} {gd : Bool → Bool} {lv : List Value → List Value}
theorem seg_if {test : Expr} {body orelse : List Stmt} {pos : Pos}
    (h : wpAny M (A.over c fs) (isTrue test env (eval test env)) (fun b s' => if b = true then Seg M A R Y n s0 c ((execs body env).wrap K J gd lv) fs s' else Seg M A R Y n s0 c ((execs orelse env).wrap K J gd lv) fs s') (fun x s' => Seg M A R Y n s0 c (J x) fs s') s) :
    Seg M A R Y n s0 c ((exec (.If test body orelse pos) env).wrap K J gd lv) fs s := by
  rw [exec_If]
  refine seg_bind_wrap (wpAny_standAt (seg_bind_wrap (wpAny_mono h (fun b s' hb => ?_) fun _ _ z => z)))
  cases b with
  | true => rw [if_pos rfl] at hb; exact hb
  | false => rw [if_neg Bool.false_ne_true] at hb; exact hb
theorem seg_for {target iter : Expr} {body orelse : List Stmt} {pos : Pos}
    (h : wpAny M (A.over c fs) (eval iter env) (fun x s1 => wpAny M (A.over c fs) (pyIter x) (fun it s2 => ∀ p, Seg M A R Y n s0 (.forLoop target it body orelse env) (M.den (.forLoop target it body orelse env))
      (.ret (fun r => ((match r with | .ok f => (.pure f : Sem Flow) | .error e => .raise e).onRaise (cameBack env)).wrap K J gd lv) none (gd false) (lv []) c p [] :: fs) s2)
        (fun x s' => Seg M A R Y n s0 c (J x) fs s') s1) (fun x s' => Seg M A R Y n s0 c (J x) fs s') s)
    (hs : ∀ x, foldedSetIterable iter env x = pure x) :
    Seg M A R Y n s0 c ((exec (.For target iter body orelse pos) env).wrap K J gd lv) fs s := by
  rw [exec_For]
  refine seg_bind_wrap (wpAny_standAt ?_)
  refine seg_bind_wrap (wpAny_mono h (fun x s1 h1 => ?_) fun _ _ z => z)
  refine seg_bind_wrap (wpAny_of_eq (hs x) ?_)
  refine seg_bind_wrap (wpAny_standAt ?_)
  refine seg_bind_wrap (wpAny_holding (wpAny_mono h1 (fun it s2 h2 => ?_) fun _ _ z => z))
  exact seg_call h2
end
section
variable {prog : Program} {w : World} {A : Around} {R : GenEnd} {Y : Protocol} {n : Nat} {s0 : Shared} {fs : List Frame} {s : Shared} {env : Env}
abbrev lost (env : Env) (e : Value) : Sem PySem.Fin := (do noteFrame e env; theTreesLotGoes e : Sem Unit).wrap (fun _ => .raise e) .raise id id
theorem seg_forLoop {target : Expr} {it : Value} {body orelse : List Stmt}
    (h : wpAny (model prog w) (A.over (.forLoop target it body orelse env) fs) (pyNext it) (fun r s1 => match r with
      | none => Seg (model prog w) A R Y n s0 (.forLoop target it body orelse env) (.pure (.again (.block orelse env))) fs s1
      | some v => wpAny (model prog w) (A.over (.forLoop target it body orelse env) fs) (letOwnedTupleGo target it v) (fun _ s2 => wpAny (model prog w) (A.over (.forLoop target it body orelse env) fs) (assign target env v) (fun _ s3 =>
          Seg (model prog w) A R Y n s0 (.forLoop target it body orelse env) ((execs body env).wrap (fun f => match f with
            | .next | .cont => .pure (.again (.forLoop target it body orelse env))
            | .brk => .pure (.done .next)
            | .ret v => .pure (.done (.ret v))) (lost env) id id) fs s3)
          (fun x s' => Seg (model prog w) A R Y n s0 (.forLoop target it body orelse env) (lost env x) fs s') s2) (fun x s' => Seg (model prog w) A R Y n s0 (.forLoop target it body orelse env) (lost env x) fs s') s1)
      (fun x s' => Seg (model prog w) A R Y n s0 (.forLoop target it body orelse env) (lost env x) fs s') s) :
    Seg (model prog w) A R Y n s0 (.forLoop target it body orelse env) ((model prog w).den (.forLoop target it body orelse env)) fs s := by
  show Seg _ A R Y n s0 _ ((forTurn target it body orelse env).onRaise (fun x => do noteFrame x env; theTreesLotGoes x)) fs s
  unfold forTurn
  rw [Sem.onRaise_eq_wrap]
  have ex : ∀ x s', Seg (model prog w) A R Y n s0 (.forLoop target it body orelse env) (lost env x) fs s' → Seg (model prog w) A R Y n s0 (.forLoop target it body orelse env) ((do noteFrame x env; theTreesLotGoes x : Sem Unit).bind fun _ => .raise x) fs s' := fun x s' z => by
    rw [Sem.bind_eq_wrap]; exact z
  refine seg_bind_wrap (wpAny_standAt ?_)
  refine seg_bind_wrap (wpAny_onRaise (wpAny_mono h (fun r s1 h1 => ?_) fun x s' z => wpAny_standAt (ex x s' z)))
  cases r with
  | none => exact h1
  | some v =>
    refine seg_bind_wrap (wpAny_mono h1 (fun _ s2 h2 => ?_) fun x s' z => ex x s' z)
    refine seg_bind_wrap (wpAny_mono h2 (fun _ s3 h3 => ?_) fun x s' z => ex x s' z)
    rw [Sem.bind_eq_wrap', Sem.wrap_wrap]
    rw [Sem.wrap_congr (execs body env) _ _ (K' := fun f => match f with
            | .next | .cont => .pure (.again (.forLoop target it body orelse env))
            | .brk => .pure (.done .next)
            | .ret v => .pure (.done (.ret v))) (H' := lost env) (fun f => by cases f <;> rfl) (fun e => by first | exact Sem.bind_eq_wrap _ _ | (show (do noteFrame e env; theTreesLotGoes e : Sem Unit).bind (fun _ => .raise e) = _; rw [Sem.bind_eq_wrap]))]
    exact h3
end
end DL
end

section
set_option Elab.async false
set_option linter.all false
set_option maxRecDepth 100000
set_option maxHeartbeats 1000000
/-! GK2: if and for within a generator's body. -/
namespace DL
open PySem PySem.Spec PyProof.Rows L2 GenW
section
variable {X : Cx}
def tGIf (c : TT) (t u : TGn) : TGn := fun D ys σ H => c σ H fun b H1 => if b = true then t D ys σ H1 else u D ys σ H1
theorem gs_if {test : Expr} {b1 b2 : List Stmt} {pos : Pos} {tc : TT} {t u : TGn} (hc : PT X test tc) (h1 : GSs X b1 t) (h2 : GSs X b2 u) : GS X (.If test b1 b2 pos) (tGIf tc t u) := by
  refine ⟨fun A S ip R n ys s0 c fs K J gd lv s σ H D g hn k hI ht => ?_⟩
  obtain ⟨acc, cc, r, I⟩ := hI
  refine seg_if ?_
  rw [g.over]
  refine wpAny_mono (hc.run _ s σ H _ I ht) (fun b s' hb => ?_) fun x s' hx => k.exc n s0 x s' hx
  obtain ⟨H2, I2, q2⟩ := hb
  cases b with
  | true =>
    rw [if_pos rfl] at q2
    exact h1.run A S ip R n ys s0 c fs K J gd lv s' σ H2 D g hn k ⟨acc, cc, r, I2⟩ q2
  | false =>
    rw [if_neg Bool.false_ne_true] at q2
    exact h2.run A S ip R n ys s0 c fs K J gd lv s' σ H2 D g hn k ⟨acc, cc, r, I2⟩ q2
def tGFor (wi : TI) (g : TG) (tb : TGn) : TGn := fun D ys σ H => wi σ H fun J H1 => ∃ W : Nat → Nat → List V → L2.St → Hp → Prop, (∃ m, W 0 m ys σ H1) ∧ ∀ i m ys σ H, W i m ys σ H →
  (J.stop i H ∧ D.nx ys σ H) ∨ (J.go i H ∧ ∃ N : List V → L2.St → Hp → Prop, (∀ ys' σ' H', N ys' σ' H' → ∃ m', m' < m ∧ W (i + 1) m' ys' σ' H') ∧ ∀ x H', J.yld i H x H' → g x σ H' fun σ2 H2 => tb { D with nx := N, ct := N, bk := D.nx } ys σ2 H2)
theorem fp_pins {X : Cx} {S : Addr} {o o' : Obj} {ip : List (Addr × Obj)} {H : Hp} {b : Addr} (h : FpOk X ((S, o) :: ip) H b) : FpOk X ((S, o') :: ip) H b := by
  obtain ⟨h1, h2, h3, h4, h5, h6⟩ := h
  refine ⟨h1, h2, h3, h4, h5, fun p hp => ?_⟩
  rcases List.mem_append.mp hp with hp | hp
  · exact h6 p (List.mem_append_left _ hp)
  · rcases List.mem_cons.mp hp with rfl | hp
    · exact h6 (S, o) (List.mem_append_right _ List.mem_cons_self)
    · exact h6 p (List.mem_append_right _ (List.mem_cons_of_mem _ hp))
theorem gs_for {tg iter : Expr} {body : List Stmt} {pos : Pos} {wi : TI} {gt : TG} {tb : TGn} (hp : PassesOwn (model X.prog X.w) X.A X.env X.xe) (hc : X.calm = true) (hi : PI X tg iter wi) (hg : PG X tg gt) (hb : GSs X body tb)
    (hs : ∀ x, foldedSetIterable iter X.env x = pure x := by intro _; rfl) : GS X (.For tg iter body [] pos) (tGFor wi gt tb) := by
  refine ⟨fun A S ip R n ys s0 c fs K J gd lv s σ H D g hn k hI ht => ?_⟩
  obtain ⟨acc, cc, r, I⟩ := hI
  refine seg_for ?_ hs
  rw [g.over]
  refine wpAny_mono (hi.run _ s σ H _ I ht) (fun v s1 h1 => wpAny_mono h1 (fun itv s2 h2 => ?_) fun x s' hx => k.exc n s0 x s' hx) fun x s' hx => k.exc n s0 x s' hx
  obtain ⟨it, fp, tn, JJ, H2, e, I2, T, st2, f2, W, ⟨m0, w0⟩, turn⟩ := h2
  subst e
  intro p
  have gl := fun (kk : Result → Sem PySem.Fin) => gc_loop (k := kk) (c' := .forLoop tg (.ref it) body [] X.env) (l := lv []) (kp := []) (p := p) g rfl rfl
  have loop : ∀ (m i n : Nat) (ys : List V) (s0 s : Shared) (σ : L2.St) (H : Hp), n + ys.length = sizeLine → W i m ys σ H → GI X S ip ys σ H s → tn i s.heap → (∀ b ∈ fp, H b = none) →
      Seg (model X.prog X.w) A R (GY X S) n s0 (.forLoop tg (.ref it) body [] X.env) ((model X.prog X.w).den (.forLoop tg (.ref it) body [] X.env))
        (.ret (fun r => ((match r with | .ok f => (.pure f : Sem Flow) | .error e => .raise e).onRaise (cameBack X.env)).wrap K J gd lv) none (gd false) (lv []) c p [] :: fs) s := by
    intro m
    induction m using Nat.strongRecOn with
    | ind m ih =>
      intro i n ys s0 s σ H hn w hI st fr
      have ee : ∀ (n : Nat) (s0 : Shared) (x : Value) (s' : Shared), X.xe x s' → Seg (model X.prog X.w) A R (GY X S) n s0 (.forLoop tg (.ref it) body [] X.env) (lost X.env x)
          (.ret (fun r => ((match r with | .ok f => (.pure f : Sem Flow) | .error e => .raise e).onRaise (cameBack X.env)).wrap K J gd lv) none (gd false) (lv []) c p [] :: fs) s' := fun n s0 x s' hx => by
        refine seg_wrap ?_
        rw [(gl _).over]
        refine wpAny_bind (wpAny_mono (hp x s' hx) (fun _ s'' hcb => wpAny_theTreesLotGoes ?_) fun y s'' hcb => ?_)
        · exact seg_leaf (.error x) (seg_cameBack g k hcb)
        · exact seg_leaf (.error y) (seg_cameBack g k hcb)
      refine seg_forLoop ?_
      rw [(gl _).over]
      obtain ⟨acc', cc', r', I'⟩ := hI
      have stat : ∀ {H' : Hp}, (∀ b ∈ fp, H' b = none) → ∀ b ∈ fp, FpOk X ((S, lstObj acc' cc') :: ip) H' b := fun {H'} hn b hb => by
        obtain ⟨h1, h2⟩ := fp_pins (o' := lstObj acc' cc') (f2 b hb)
        exact ⟨hn b hb, h2⟩
      rcases turn i m ys σ H w with ⟨stop, qn⟩ | ⟨go, N, hN, step⟩
      · refine wpAny_mono (T.done X rfl rfl rfl hc i _ s σ H X.xe I' (stat fr) st stop) (fun r3 s4 hr => ?_) fun x s' hx => ee n s0 x s' hx
        obtain ⟨hr, I4⟩ := hr
        subst hr
        refine seg_again rfl ?_
        exact seg_leaf (.ok .next) (k.ok n ys s0 s4 .next hn ⟨σ, H, ⟨acc', cc', r', I4⟩, qn⟩)
      · refine wpAny_mono (T.item X rfl rfl rfl hc i _ s σ H X.xe I' (stat fr) st go) (fun r3 s4 hr => ?_) fun x s' hx => ee n s0 x s' hx
        obtain ⟨u, hr, h4⟩ := hr
        subst hr
        refine wpAny_mono h4 (fun _ s5 h5 => ?_) fun x s' hx => ee n s0 x s' hx
        obtain ⟨x, H5, I5, r5, y5, st5, fr5⟩ := h5
        have I5' : Inv X ((S, lstObj acc' cc') :: (ip ++ pinsAt fp s5.heap)) σ H5 s5 := I5.pinned (stat fr5) (T.obj _ _ st5)
        refine wpAny_mono (hg.run _ s5 σ H5 x u _ I5' r5 (step x H5 y5)) (fun _ s6 h6 => ?_) fun x s' hx => ee n s0 x s' hx
        obtain ⟨σ6, H6, I6, q6⟩ := h6
        have gl2 : ∀ kk : Result → Sem PySem.Fin, GC X S (ip ++ pinsAt fp s5.heap) A (.forLoop tg (.ref it) body [] X.env) (.ret kk none (gd false) (lv []) c p [] :: fs) id := fun kk => by
          have z := gl kk
          refine ⟨z.pn, fun q hq => ?_, z.apart, z.over, z.split, z.guard, z.gd⟩
          rcases List.mem_append.mp hq with hq | hq
          · exact z.ip q hq
          · obtain ⟨hb, _⟩ := of_pinsAt hq
            exact Ne.symm ((stat fr5 q.1 hb).2.2.2.2.2 (S, lstObj acc' cc') (List.mem_append_right _ List.mem_cons_self))
        refine hb.run A S (ip ++ pinsAt fp s5.heap) R n ys s0 _ _ _ _ id id s6 σ6 H6 { D with nx := N, ct := N, bk := D.nx } (gl2 _) hn ⟨fun n' ys' s0' s3 f hn' hs => ?_, fun n' s0' x s3 hx => ee n' s0' x s3 hx⟩ ⟨acc', cc', r', I6⟩ q6
        have unpin : ∀ {ys7 : List V} {σ7 : L2.St} {H7 : Hp} {s7 : Shared}, GI X S (ip ++ pinsAt fp s5.heap) ys7 σ7 H7 s7 → GI X S ip ys7 σ7 H7 s7 ∧ tn (i + 1) s7.heap ∧ ∀ b ∈ fp, H7 b = none := fun {ys7 σ7 H7 s7} hg7 => by
          obtain ⟨acc7, cc7, r7, I7⟩ := hg7
          have I7' : Inv X (((S, lstObj acc7 cc7) :: ip) ++ pinsAt fp s5.heap) σ7 H7 s7 := I7
          refine ⟨⟨acc7, cc7, r7, I7'.unpinned⟩, T.keep _ _ _ st5 fun b hb o e => (I7'.pin (b, o) (List.mem_append_right _ (List.mem_append_right _ (mem_pinsAt hb e)))).1, fun b hb => ?_⟩
          obtain ⟨o, e, d⟩ := T.obj _ _ st5 b hb
          exact (I7'.pin (b, o) (List.mem_append_right _ (List.mem_append_right _ (mem_pinsAt hb e)))).2.1
        have again : ∀ {σ7 : L2.St} {H7 : Hp}, GI X S (ip ++ pinsAt fp s5.heap) ys' σ7 H7 s3 → N ys' σ7 H7 → Seg (model X.prog X.w) A R (GY X S) n' s0' (.forLoop tg (.ref it) body [] X.env) (.pure (.again (.forLoop tg (.ref it) body [] X.env)))
            (.ret (fun r => ((match r with | .ok f => (.pure f : Sem Flow) | .error e => .raise e).onRaise (cameBack X.env)).wrap K J gd lv) none (gd false) (lv []) c p [] :: fs) s3 := fun {σ7 H7} hg7 n7 => by
          obtain ⟨hg8, st8, fr8⟩ := unpin hg7
          obtain ⟨m', hm, w7⟩ := hN ys' σ7 H7 n7
          exact seg_again rfl (ih m' hm (i + 1) n' ys' s0' s3 σ7 H7 hn' w7 hg8 st8 fr8)
        cases f with
        | next =>
          obtain ⟨σ3, H3, I3, n3⟩ := hs
          exact again I3 n3
        | cont =>
          obtain ⟨σ3, H3, I3, n3⟩ := hs
          exact again I3 n3
        | brk =>
          obtain ⟨σ3, H3, I3, n3⟩ := hs
          exact seg_leaf (.ok .next) (k.ok n' ys' s0' s3 .next hn' ⟨σ3, H3, (unpin I3).1, n3⟩)
        | ret v =>
          obtain ⟨x3, σ3, H3, I3, r3, n3⟩ := hs
          exact seg_leaf (.ok (.ret v)) (k.ok n' ys' s0' s3 (.ret v) hn' ⟨x3, σ3, H3, (unpin I3).1, r3, n3⟩)
  exact loop m0 0 n ys s0 s2 σ H2 hn w0 ⟨acc, cc, r, I2⟩ st2 fun b hb => (f2 b hb).1
end
end DL
end

section
set_option Elab.async false
set_option linter.all false
set_option autoImplicit false
set_option maxRecDepth 100000
set_option maxHeartbeats 2000000
/-! DL22: bodies of generators as data; a generator called within list(..). -/
namespace DL
open PySem PySem.Spec PyProof.Rows L2 GenW
structure DGEnds where
  nx : List D → DEnv → Sto → Prop
  rt : List D → DV
  bk : List D → DEnv → Sto → Prop := fun _ _ _ => False
  ct : List D → DEnv → Sto → Prop := fun _ _ _ => False
abbrev DGn := DGEnds → List D → DEnv → Sto → Prop
def DGEnds.at (E : DGEnds) (ys : List D) : DEnds := { nx := E.nx ys, rt := E.rt ys, bk := E.bk ys, ct := E.ct ys }
structure GEndsR (K : PySem.W.Frag) (Z : Hp) (E' : DGEnds) (E : GEnds) : Prop where
  nx : ∀ (Z' : Hp) (S' : Sto) (H' : Hp) (env' : DEnv) (σ' : L2.St) (ds : List D) (ys : List V), Same Z Z' → RelE K Z' env' σ' → Rel K Z' S' H' → Reps K Z' ds ys → E'.nx ds env' S' → E.nx ys σ' H'
  rt : ∀ (Z' : Hp) (S' : Sto) (H' : Hp) (d : D) (v : V) (ds : List D) (ys : List V), Same Z Z' → Rel K Z' S' H' → Rep K Z' d v → Reps K Z' ds ys → E'.rt ds d S' → E.rt ys v H'
  bk : ∀ (Z' : Hp) (S' : Sto) (H' : Hp) (env' : DEnv) (σ' : L2.St) (ds : List D) (ys : List V), Same Z Z' → RelE K Z' env' σ' → Rel K Z' S' H' → Reps K Z' ds ys → E'.bk ds env' S' → E.bk ys σ' H'
  ct : ∀ (Z' : Hp) (S' : Sto) (H' : Hp) (env' : DEnv) (σ' : L2.St) (ds : List D) (ys : List V), Same Z Z' → RelE K Z' env' σ' → Rel K Z' S' H' → Reps K Z' ds ys → E'.ct ds env' S' → E.ct ys σ' H'
structure LGn (K : PySem.W.Frag) (Z0 : Hp) (t : TGn) (t' : DGn) : Prop where
  run : ∀ (Z : Hp) (S : Sto) (H : Hp) (env : DEnv) (σ : L2.St) (E : GEnds) (E' : DGEnds) (ds : List D) (ys : List V), Same Z0 Z → RelE K Z env σ → Rel K Z S H → Reps K Z ds ys → t' E' ds env S → GEndsR K Z E' E → t E ys σ H
section
variable {K : PySem.W.Frag} {Z0 : Hp}
theorem GEndsR.mono {Z Z' : Hp} {E' : DGEnds} {E : GEnds} (h : GEndsR K Z E' E) (s : Same Z Z') : GEndsR K Z' E' E :=
  ⟨fun Z2 S H e σ ds ys q => h.nx Z2 S H e σ ds ys (s.trans q), fun Z2 S H d v ds ys q => h.rt Z2 S H d v ds ys (s.trans q), fun Z2 S H e σ ds ys q => h.bk Z2 S H e σ ds ys (s.trans q), fun Z2 S H e σ ds ys q => h.ct Z2 S H e σ ds ys (s.trans q)⟩
theorem GEndsR.at {Z : Hp} {E' : DGEnds} {E : GEnds} (h : GEndsR K Z E' E) {ds : List D} {ys : List V} (r : Reps K Z ds ys) : EndsR K Z (E'.at ds) (E.at ys) :=
  ⟨fun Z2 S H e σ q re rl hh => h.nx Z2 S H e σ ds ys q re rl (r.mono q) hh, fun Z2 S H d v q rl rv hh => h.rt Z2 S H d v ds ys q rl rv (r.mono q) hh, fun Z2 S H e σ q re rl hh => h.bk Z2 S H e σ ds ys q re rl (r.mono q) hh, fun Z2 S H e σ q re rl hh => h.ct Z2 S H e σ ds ys q re rl (r.mono q) hh⟩
/-! ### statements -/
def gPlain (t : DS) : DGn := fun E ys env S => t (E.at ys) env S
theorem lgn_plain {t : TS} {t' : DS} (h : LS K Z0 t t') : LGn K Z0 (tPlain t) (gPlain t') := ⟨fun Z S H env σ E E' ds ys s0 re rl r q e => h.run Z S H env σ _ _ s0 re rl q (e.at r)⟩
def g0 : DGn := fun E ys env S => E.nx ys env S
theorem lgn_nil : LGn K Z0 tG0 g0 := ⟨fun Z S H env σ E E' ds ys s0 re rl r q e => e.nx _ _ _ _ _ _ _ (Same.refl _) re rl r q⟩
def gThen (t u : DGn) : DGn := fun E ys env S => t { E with nx := u E } ys env S
theorem lgn_then {t u : TGn} {t' u' : DGn} (h1 : LGn K Z0 t t') (h2 : LGn K Z0 u u') : LGn K Z0 (tGThen t u) (gThen t' u') := ⟨fun Z S H env σ E E' ds ys s0 re rl r q e =>
  h1.run Z S H env σ _ _ ds ys s0 re rl r q ⟨fun Z1 S1 H1 env1 σ1 ds1 ys1 s1 re1 r1 rr1 hx => h2.run Z1 S1 H1 env1 σ1 _ _ ds1 ys1 (s0.trans s1) re1 r1 rr1 hx (e.mono s1), e.rt, e.bk, e.ct⟩⟩
def gIf (c : DT) (t u : DGn) : DGn := fun E ys env S => c env S fun b S1 => if b = true then t E ys env S1 else u E ys env S1
theorem lgn_if {c : TT} {c' : DT} {t u : TGn} {t' u' : DGn} (hc : LT K Z0 c c') (h1 : LGn K Z0 t t') (h2 : LGn K Z0 u u') : LGn K Z0 (tGIf c t u) (gIf c' t' u') := ⟨fun Z S H env σ E E' ds ys s0 re rl r q e =>
  hc.run Z S H env σ _ _ s0 re rl q fun Z1 S1 H1 b s1 r1 hx => by
    by_cases hb : b = true
    · rw [if_pos hb] at hx ⊢
      exact h1.run Z1 S1 H1 env σ _ _ ds ys (s0.trans s1) (re.mono s1) r1 (r.mono s1) hx (e.mono s1)
    · rw [if_neg hb] at hx ⊢
      exact h2.run Z1 S1 H1 env σ _ _ ds ys (s0.trans s1) (re.mono s1) r1 (r.mono s1) hx (e.mono s1)⟩
def gYield (te : DE) : DGn := fun E ys env S => ys.length < sizeLine ∧ te env S fun x S1 => E.nx (ys ++ [x]) env S1
theorem lgn_yield {te : TE} {te' : DE} (h : LE K Z0 te te') : LGn K Z0 (tGYield te) (gYield te') := ⟨fun Z S H env σ E E' ds ys s0 re rl r q e =>
  ⟨by rw [← r.length]; exact q.1, h.run Z S H env σ _ _ s0 re rl q.2 fun Z1 S1 H1 d v s1 r1 p1 hx => e.nx _ _ _ _ _ _ _ s1 (re.mono s1) r1 ((r.mono s1).append (.cons p1 .nil)) hx⟩⟩
def gWhile (c : DT) (tb : DGn) : DGn := fun E ys env S => ∃ P : Nat → List D → DEnv → Sto → Prop, (∃ m, P m ys env S) ∧ ∀ m ys env S, P m ys env S →
  c env S fun b S1 => if b = true then tb { E with nx := fun ys e s => ∃ m', m' < m ∧ P m' ys e s, ct := fun ys e s => ∃ m', m' < m ∧ P m' ys e s, bk := E.nx } ys env S1 else E.nx ys env S1
theorem lgn_while {c : TT} {c' : DT} {t : TGn} {t' : DGn} (hc : LT K Z0 c c') (hb : LGn K Z0 t t') : LGn K Z0 (tGWhile c t) (gWhile c' t') := ⟨fun Z S H env σ E E' ds ys s0 re rl r hh e => by
  obtain ⟨P, ⟨m0, p0⟩, turn⟩ := hh
  refine ⟨fun m ys σ H => ∃ Z' S env ds, Same Z Z' ∧ RelE K Z' env σ ∧ Rel K Z' S H ∧ Reps K Z' ds ys ∧ P m ds env S, ⟨m0, Z, S, env, ds, Same.refl Z, re, rl, r, p0⟩, ?_⟩
  rintro m ys1 σ1 H1 ⟨Z1, S1, env1, ds1, s1, re1, r1, rr1, p1⟩
  refine hc.run Z1 S1 H1 env1 σ1 _ _ (s0.trans s1) re1 r1 (turn m ds1 env1 S1 p1) fun Z2 S2 H2 b s2 r2 hx => ?_
  by_cases hb' : b = true
  · rw [if_pos hb'] at hx ⊢
    refine ⟨fun ys' σ' H' => ∃ Z' S env ds m', m' < m ∧ Same Z Z' ∧ RelE K Z' env σ' ∧ Rel K Z' S H' ∧ Reps K Z' ds ys' ∧ P m' ds env S, fun ys' σ' H' ⟨Z', S, env, ds, m', hm, s', re', r', rr', p'⟩ => ⟨m', hm, Z', S, env, ds, s', re', r', rr', p'⟩, ?_⟩
    refine hb.run Z2 S2 H2 env1 σ1 _ _ ds1 ys1 (s0.trans (s1.trans s2)) (re1.mono s2) r2 (rr1.mono s2) hx ⟨fun Z3 S3 H3 env3 σ3 ds3 ys3 s3 re3 r3 rr3 p3 => ?_, fun Z3 S3 H3 d v ds3 ys3 s3 => e.rt Z3 S3 H3 d v ds3 ys3 ((s1.trans s2).trans s3),
      fun Z3 S3 H3 env3 σ3 ds3 ys3 s3 => e.nx Z3 S3 H3 env3 σ3 ds3 ys3 ((s1.trans s2).trans s3), fun Z3 S3 H3 env3 σ3 ds3 ys3 s3 re3 r3 rr3 p3 => ?_⟩
    all_goals
      obtain ⟨m', hm, p3⟩ := p3
      exact ⟨Z3, S3, env3, ds3, m', hm, (s1.trans s2).trans s3, re3, r3, rr3, p3⟩
  · rw [if_neg hb'] at hx ⊢
    exact e.nx _ _ _ _ _ _ _ (s1.trans s2) (re1.mono s2) r2 (rr1.mono s2) hx⟩
def gFor (wi : DI) (g : DG) (tb : DGn) : DGn := fun E ys env S => wi env S fun items G S1 => ∃ P : Nat → List D → DEnv → Sto → Prop, P 0 ys env S1 ∧ (∀ i ys env S, P i ys env S → G S) ∧
  (∀ i x ys env S, items[i]? = some x → P i ys env S → g x env S fun env2 S2 => tb { E with nx := P (i + 1), ct := P (i + 1), bk := E.nx } ys env2 S2) ∧ (∀ ys env S, P items.length ys env S → E.nx ys env S)
theorem lgn_for {wi : TI} {wi' : DI} {ws : List Nat} {g : TG} {g' : DG} {t : TGn} {t' : DGn} (hi : LI K Z0 wi wi') (hg : LG K Z0 ws g g') (hb : LGn K Z0 t t') : LGn K Z0 (tGFor wi g t) (gFor wi' g' t') := ⟨fun Z S H env σ E E' ds ys s0 re rl r hh e => by
  refine hi.run Z S H env σ _ _ s0 re rl hh fun Z1 S1 H1 J items G s1 r1 wk hx => ?_
  obtain ⟨P, p0, pG, turn, done⟩ := hx
  refine ⟨fun i m ys σ H => i ≤ items.length ∧ m = items.length - i ∧ ∃ Z' S env ds, Same Z1 Z' ∧ RelE K Z' env σ ∧ Rel K Z' S H ∧ Reps K Z' ds ys ∧ P i ds env S, ⟨items.length, Nat.zero_le _, rfl, Z1, S1, env, ds, Same.refl _, re.mono s1, r1, r.mono s1, p0⟩, ?_⟩
  rintro i m ys2 σ2 H2 ⟨hi, rfl, Z2, S2, env2, ds2, s2, re2, r2, rr2, p2⟩
  by_cases hlt : i < items.length
  · refine .inr ⟨wk.goes Z2 S2 H2 i s2 r2 (pG i ds2 env2 S2 p2) hlt, fun ys' σ' H' => ∃ Z' S env ds, Same Z1 Z' ∧ RelE K Z' env σ' ∧ Rel K Z' S H' ∧ Reps K Z' ds ys' ∧ P (i + 1) ds env S, fun ys' σ' H' ⟨Z', S, env, ds, s', re', r', rr', p'⟩ => ⟨items.length - (i + 1), by omega, hlt, rfl, Z', S, env, ds, s', re', r', rr', p'⟩, fun x H' y => ?_⟩
    obtain ⟨Z3, d, s3, r3, e3, q3⟩ := wk.yields Z2 S2 H2 i x H' s2 r2 (pG i ds2 env2 S2 p2) hlt y
    refine hg.run Z3 S2 H' env2 σ2 d x _ _ ((s0.trans s1).trans (s2.trans s3)) (re2.mono s3) r3 q3 (turn i d ds2 env2 S2 e3 p2) fun Z4 S4 H4 env4 σ4 s4 re4 r4 _ h4 => ?_
    have sT := (s2.trans s3).trans s4
    exact hb.run Z4 S4 H4 env4 σ4 _ _ ds2 ys2 ((s0.trans s1).trans sT) re4 r4 (rr2.mono (s3.trans s4)) h4 ⟨fun Z5 S5 H5 env5 σ5 ds5 ys5 s5 re5 r5 rr5 p5 => ⟨Z5, S5, env5, ds5, sT.trans s5, re5, r5, rr5, p5⟩, fun Z5 S5 H5 d v ds5 ys5 s5 => e.rt Z5 S5 H5 d v ds5 ys5 ((s1.trans sT).trans s5),
      fun Z5 S5 H5 env5 σ5 ds5 ys5 s5 => e.nx Z5 S5 H5 env5 σ5 ds5 ys5 ((s1.trans sT).trans s5), fun Z5 S5 H5 env5 σ5 ds5 ys5 s5 re5 r5 rr5 p5 => ⟨Z5, S5, env5, ds5, sT.trans s5, re5, r5, rr5, p5⟩⟩
  · have ei : i = items.length := by omega
    subst ei
    exact .inl ⟨wk.stops Z2 S2 H2 s2 r2 (pG _ ds2 env2 S2 p2), e.nx _ _ _ _ _ _ _ (s1.trans s2) re2 r2 rr2 (done ds2 env2 S2 p2)⟩⟩
end
/-! ### judgements -/
structure PDGn (F : Fm) (K : PySem.W.Frag) (s : Stmt) (t' : DCtx → DGn) : Prop where
  ex : ∃ t : HCtx → TGn, (∀ i h, F.ok i h → GS (F.X i) s (t h)) ∧ ∀ Z0 h c, RC K Z0 h c → LGn K Z0 (t h) (t' c)
structure PDGb (F : Fm) (K : PySem.W.Frag) (s : List Stmt) (t' : DCtx → DGn) : Prop where
  ex : ∃ t : HCtx → TGn, (∀ i h, F.ok i h → GSs (F.X i) s (t h)) ∧ ∀ Z0 h c, RC K Z0 h c → LGn K Z0 (t h) (t' c)
section
variable {F : Fm} {K : PySem.W.Frag} {P : Program} {w : World} {mg : Str → Option Value} {base : Heap} [fam : Fam F P w K mg base]
variable {c e : Expr} {te : DCtx → DE} {tt : DCtx → DT} {s : Stmt} {ss s1 s2 : List Stmt} {ds : DCtx → DS} {du dv : DCtx → DGn} {pos p yp : Pos} {ws : List Nat}
include fam
theorem gn_plain (h : PDS F K s ds) : PDGn F K s (fun c => gPlain (ds c)) := by
  obtain ⟨t1, a1, l1⟩ := h.ex
  exact ⟨_, fun k h q => gs_ps (a1 k h q), fun Z h c r => lgn_plain (l1 Z h c r)⟩
theorem gb_nil : PDGb F K [] (fun _ => g0) := ⟨fun _ => _, fun _ _ _ => gss_nil, fun _ _ _ _ => lgn_nil⟩
theorem gb_c (h1 : PDGn F K s du) (h2 : PDGb F K ss dv) : PDGb F K (s :: ss) (fun c => gThen (du c) (dv c)) := by
  obtain ⟨t1, a1, l1⟩ := h1.ex
  obtain ⟨t2, a2, l2⟩ := h2.ex
  exact ⟨_, fun k h q => gss_cons (a1 k h q) (a2 k h q), fun Z h c r => lgn_then (l1 Z h c r) (l2 Z h c r)⟩
theorem gn_if (hc : PDT F K c tt) (h1 : PDGb F K s1 du) (h2 : PDGb F K s2 dv) : PDGn F K (.If c s1 s2 pos) (fun c => gIf (tt c) (du c) (dv c)) := by
  obtain ⟨t0, a0, l0⟩ := hc.ex
  obtain ⟨t1, a1, l1⟩ := h1.ex
  obtain ⟨t2, a2, l2⟩ := h2.ex
  exact ⟨_, fun k h q => gs_if (a0 k h q) (a1 k h q) (a2 k h q), fun Z h c r => lgn_if (l0 Z h c r) (l1 Z h c r) (l2 Z h c r)⟩
theorem gn_yield (h : PD F K e te) (hco : ∀ k, (F.X k).env.scope.isCoroutine = false := by intro _; rfl) (hi : ∀ k, interactive (F.X k).env = false := by intro _; rfl) : PDGn F K (.Expr (.Yield (some e) yp) pos) (fun c => gYield (te c)) := by
  obtain ⟨t1, a1, l1⟩ := h.ex
  exact ⟨_, fun k h q => gs_yield (a1 k h q) (hco k) (hi k), fun Z h c r => lgn_yield (l1 Z h c r)⟩
theorem gn_while (hp : PsO F) (hc : PDT F K c tt) (hb : PDGb F K ss du) : PDGn F K (.While c ss [] pos) (fun c => gWhile (tt c) (du c)) := by
  obtain ⟨t1, a1, l1⟩ := hc.ex
  obtain ⟨t2, a2, l2⟩ := hb.ex
  exact ⟨_, fun k h q => gs_while (hp k) (a1 k h q) (a2 k h q), fun Z h c r => lgn_while (l1 Z h c r) (l2 Z h c r)⟩
theorem gn_for {tg iter : Expr} {wi : DCtx → DI} {g : DCtx → DG} (hp : PsO F) (hi : PDI F K tg iter wi) (hg : PDG F K ws tg g) (hb : PDGb F K ss du) (hc : ∀ k, (F.X k).calm = true := by intro _; rfl) (hs : ∀ k x, foldedSetIterable iter (F.X k).env x = pure x := by intro _ _; rfl) :
    PDGn F K (.For tg iter ss [] pos) (fun c => gFor (wi c) (g c) (du c)) := by
  obtain ⟨t1, a1, l1⟩ := hi.ex
  obtain ⟨t2, a2, l2⟩ := hg.ex
  obtain ⟨t3, a3, l3⟩ := hb.ex
  exact ⟨_, fun k h q => gs_for (hp k) (hc k) (a1 k h q) (a2 k h q) (a3 k h q) (hs k), fun Z h c r => lgn_for (l1 Z h c r) (l2 Z h c r) (l3 Z h c r)⟩
end
/-! ### a generator def by its body -/
/-- what a generator promises: all that it hands out -/
abbrev DFG := List D → Sto → (List D → Sto → Prop) → DX → Prop
def spDG (K : PySem.W.Frag) (F : DFG) : SpG := fun vs H Q E => ∃ (Z : Hp) (S : Sto) (ds : List D) (Q' : List D → Sto → Prop) (E' : DX), Rel K Z S H ∧ Reps K Z ds vs ∧ F ds S Q' E' ∧
  (∀ (Z' : Hp) (S' : Sto) (H' : Hp) (ys : List D) (vs : List V), Same Z Z' → Rel K Z' S' H' → Reps K Z' ys vs → Q' ys S' → Q vs H') ∧
  (∀ (Z' : Hp) (S' : Sto) (H' : Hp) (C : Addr) (fs : List (Str × D)) (d : Option Addr), Same Z Z' → Rel K Z' S' H' → XR K Z' fs d → E' C fs S' → E (.ref C) d H')
section
variable {P : Program} {w : World} {K : PySem.W.Frag} {mg : Str → Option Value} {base : Heap}
structure GI' (qual : Str) (scope : Scope) (f : Addr) (k : Nat) extends BI qual scope f k where
  pn : List (Addr × Obj)
def GF (P : Program) (w : World) (K : PySem.W.Frag) (mg : Str → Option Value) (base : Heap) (N : List Str) (qual : Str) (scope : Scope) (f : Addr) (k : Nat) : Fm where
  ι := GI' qual scope f k
  X := fun i => gcxOf P w K mg base N qual scope f i.cdv i.A i.outer i.s i.H i.E i.pn
  ok := fun i h => h.W = fun cls d _ H => i.E cls d H
  tk := fun i h e => by rw [e]; exact takes_gcx
instance {N : List Str} {qual : Str} {scope : Scope} {f : Addr} {k : Nat} : Fam (GF P w K mg base N qual scope f k) P w K mg base :=
  ⟨fun _ => rfl, fun _ => rfl, fun _ => rfl, fun _ => rfl, fun _ => rfl⟩
theorem gf_room {N : List Str} {qual : Str} {scope : Scope} {f : Addr} {k : Nat} : ∀ i, Room k ((GF P w K mg base N qual scope f k).X i).A := fun i => i.room
theorem gf_pso {N : List Str} {qual : Str} {scope : Scope} {f : Addr} {k : Nat} : PsO (GF P w K mg base N qual scope f k) := fun i => owns_gcx
/-- a generator's end: what it laid may be forgotten -/
def endG (Q : List D → Sto → Prop) : DGEnds := { nx := fun ys _ S' => ∃ S2 : Sto, (∀ b o, S2 b = some o → S' b = some o) ∧ Q ys S2, rt := fun ys d S' => d = .non ∧ ∃ S2 : Sto, (∀ b o, S2 b = some o → S' b = some o) ∧ Q ys S2 }
theorem gn_ok {x qual : Str} {params : Arguments} {body : List Stmt} {scope : Scope} {dvs : List V} {kws : List (Str × V)} {f : Addr} {fd : FuncData} {N ps : List Str} {k : Nat} {G : DFG} (F0 : FunD K x qual params body scope dvs kws f fd) (S : GScope N ps scope)
    (len : ∀ ds S Q E, G ds S Q E → ds.length = ps.length) {t' : DCtx → DGn} (hbody : PDGb (GF P w K mg base N qual scope f k) K body t')
    (rd : ∀ ds S Q E, G ds S Q E → t' ⟨fun C fs _ S => E C fs S, none⟩ (endG Q) [] (startD N ds) S) : GFn P w K mg base (k + 1) f fd ps (spDG K G) := by
  obtain ⟨oc, od, dV, kV, doc, pm, an, cdv, ct, osl, rfl, lk, hcd, _, _⟩ := F0.ex
  refine gfn_of lk hcd S (fun vs H Q E h => ?_) fun A outer s H vs Q E pn hr h => ?_
  · obtain ⟨Z, St, ds, Q', E', _, r, hF, _⟩ := h
    rw [← r.length]
    exact len _ _ _ _ hF
  · obtain ⟨Z, St, ds, Q', E', rl, r, hF, hQ, hE⟩ := h
    obtain ⟨t, a1, l1⟩ := hbody
    refine ⟨t ⟨fun cls d _ H => E cls d H, 0, .none, none⟩, a1 ⟨⟨cdv, A, outer, s, H, E, hr⟩, pn⟩ _ rfl, (l1 Z _ _ ⟨⟨fun Z1 S1 H1 env σ C fs d s1 _ r1 x1 w1 => hE Z1 S1 H1 C fs d s1 r1 x1 w1⟩, fun _ _ _ h => by cases h⟩).run Z St H _ _ _ _ [] [] (Same.refl Z) (relE_start r) rl .nil (rd ds St Q' E' hF)
      ⟨fun Z1 S1 H1 env1 σ1 ds ys s1 _ r1 rr ⟨S2, w2, h1⟩ => hQ Z1 S2 H1 ds ys s1 (r1.weak w2) rr h1, fun Z1 S1 H1 d v ds ys s1 r1 p1 rr h1 => ?_, fun _ _ _ _ _ _ _ _ _ _ _ h => h.elim, fun _ _ _ _ _ _ _ _ _ _ _ h => h.elim⟩⟩
    obtain ⟨rfl, S2, w2, h1⟩ := h1
    cases p1
    exact ⟨rfl, hQ Z1 S2 H1 ds ys s1 (r1.weak w2) rr h1⟩
/-- a generator def that is known -/
structure GnD (P : Program) (w : World) (K : PySem.W.Frag) (mg : Str → Option Value) (base : Heap) (k : Nat) (x : Str) (F : DFG) (dds : List D) : Prop where
  ex : ∃ (f : Addr) (fd : FuncData) (ps : List Str) (dvs : List V) (ds : List Value), GFn P w K mg base k f fd ps (spDG K F) ∧ mg x = some (.ref f) ∧ PySem.W.keepIn K (.ref f) = true ∧ Binds K fd ps ds ∧ Vals dvs ds ∧ ∀ Z, Reps K Z dds dvs
end
/-! ### list(g(..)) -/
/-- not a class that ends an iterator -/
def NoS (K : PySem.W.Frag) (cls : Value) : Prop := PySem.W.subIn K cls (.type "StopIteration") = some false
def tLiG (K : PySem.W.Frag) (sp : SpG) (dvs : List V) (W : WX) (t : TA) : TE := fun σ H Q => t σ H fun vs H1 => sp (vs ++ dvs) H1 (fun out H2 => ∀ p, H2 p = none → Q (.ref p) (upd H2 p (.lst out))) fun cls d H => NoS K cls ∧ W cls d σ H
section
variable {X : Cx} {k : Nat} {f : Addr} {fd : FuncData} {ps : List Str} {sp : SpG} {dvs : List V} {ds : List Value} {W : WX} {x nm : Str} {p p2 pos pos2 : Pos} {e : Expr} {es : List Expr} {t : TA}
theorem pe_liG (tk : Takes X W) (F : GFn X.prog X.w X.K X.mg X.base k f fd ps sp) (hr : Room (k + 3) X.A) (hgl : Gl X x) (hm : X.mg x = some (.ref f)) (hk : PySem.W.keepIn X.K (.ref f) = true) (hb : Binds X.K fd ps ds) (hd : Vals dvs ds)
    (ha : PA X (e :: es) t) (hg : Gl X nm) (hmg : X.mg nm = none) (hv : bootBuiltins nm = some (.type "list")) (hdx : (x == ("__debug__" : Str)) = false) (he : starEach (e :: es) X.env = (false, eval e X.env) :: starEach es X.env) (hpl : (backTo pos (starEach es X.env)).any (·.1) = false)
    (hnm : nm ≠ "__name__") (hdb : (nm == ("__debug__" : Str)) = false)
    (hl : starEach [.Call (.Name x p) (e :: es) [] pos] X.env = (false, eval (.Call (.Name x p) (e :: es) [] pos) X.env) :: starEach [] X.env) : PE X (.Call (.Name nm p2) [.Call (.Name x p) (e :: es) [] pos] [] pos2) (tLiG X.K sp dvs W t) := by
  refine ⟨fun pins s σ H Q I hq => wpAny_Call_Name_kw (ld_blt I hg hmg hv (PyProof.Rows.callWith_type1 ?_ hl rfl) hnm hdb)⟩
  rw [hl]
  show wpAny _ _ (spliced ((false, eval _ X.env) :: backTo pos2 (starEach [] X.env))) _ _ s
  have go := (pgen_call (E := fun cls d H => NoS X.K cls ∧ W cls d σ H) F (hr.mono (by omega)) hgl hm hk hb hd ha hdx he hpl (p := p)).run pins s σ H _ I hq
  refine Calls.spliced_cons (thn go fun gv s1 hgv => Calls.spliced_nil ?_)
  obtain ⟨Hg, sg, exs, Ig, okx, made⟩ := hgv
  have up : sg.heap.objs.size ≤ s1.heap.objs.size := by
    obtain ⟨_, _, _, _, u1, u2, _⟩ := made
    exact Nat.le_of_lt (Nat.lt_of_le_of_lt u1 u2)
  refine call_list_new hr Ig.ok.frames made (fun A1 s2 ac cc H2 out k0 k1 k2 k3 k4 k5 k6 k7 k8 k9 => ⟨.ref A1, upd H2 A1 (.lst out), Ig.drained (Nat.le_trans up k0) k3 k1 k2 okx k4 k5 k6 k7 k8, rfl, k9 A1 k8⟩) fun ev s2 gn hc => ?_
  have inK : X.K.In s2.heap := by
    obtain ⟨_, B, _, _, _, _, fl, _, un, _⟩ := id hc
    refine Ig.ok.mod.kin.keeps fun b o hb0 => fl.1 b o (un.keep b o (Ig.bs b o hb0).1 (Ig.bs b o hb0).2 fun hmem => ?_)
    rcases List.mem_cons.mp (Ig.stkSub b hmem) with q | q
    · have l1 := Heap.lt_size hb0
      have l2 := Nat.le_trans Ig.ok.bsz Ig.ok.above
      rw [q] at l1
      exact (Nat.lt_irrefl _ (Nat.lt_of_lt_of_le l1 l2)).elim
    · exact Ig.ok.nofr hb0 q
  have hns := notStop_of (fun _ _ _ z => z.1) inK hc
  have hc2 : CX X.prog X.w X.stack Hg sg (fun cls d H => NoS X.K cls ∧ W cls d σ H) ev (s2.setGen gn .finished) := by
    obtain ⟨a, B, Hx, cls, d, z1, z2, z3, z4, z5, z6, z7, z8⟩ := hc
    exact ⟨a, B, Hx, cls, d, z1, z2, z3, z4, z5, z6, allBare_setGen z7 rfl, z8⟩
  exact ⟨hns, tk ev _ (XE.of_call Ig (fun _ _ _ z => z.2) hc2)⟩
end
def dLiG (F : DFG) (NS : Addr → Prop) (dds : List D) (W' : DW) (t : DA) : DE := fun env S Q => t env S fun ds S1 => F (ds ++ dds) S1 (fun ys S2 => Q (.lst ys) S2) (fun C fs S' => NS C ∧ W' C fs env S')
def dLiGM (F : DFG) (NS : Addr → Prop) (dds : List D) (W' : DW) (t : DA) : DE := fun env S Q => t env S fun ds S1 => F (ds ++ dds) S1 (fun ys S2 => ∀ a, S2 a = none → Q (.raw a) (updS S2 a (.lst ys))) (fun C fs S' => NS C ∧ W' C fs env S')
section
variable {K : PySem.W.Frag} {Z0 : Hp} {ar : TA} {ar' : DA} {G : DFG} {W : WX} {W' : DW} {dvs : List V} {dds : List D} {NS : Addr → Prop}
theorem le_liG (hn : ∀ C, NS C → NoS K (.ref C)) (hd : ∀ Z, Reps K Z dds dvs) (rw' : RW K Z0 W W') (h : LA K Z0 ar ar') : LE K Z0 (tLiG K (spDG K G) dvs W ar) (dLiG G NS dds W' ar') := ⟨fun Z S H env σ Q Q' s0 re rl hh q =>
  h.run Z S H env σ _ _ s0 re rl hh fun Z1 S1 H1 ds vs s1 r1 p1 h1 => ⟨Z1, S1, ds ++ dds, _, _, r1, p1.append (hd Z1), h1, fun Z2 S2 H2 ys us s2 r2 p2 h2 => fun p hp => by
      obtain ⟨r3, s3⟩ := r2.laid (o := .lst us) hp
      exact q _ _ _ _ _ ((s1.trans s2).trans s3) r3 (.lst upd_same (p2.mono s3)) h2,
    fun Z2 S2 H2 C fs d s2 r2 x2 w2 => ⟨hn C w2.1, rw'.run Z2 S2 H2 env σ C fs d ((s0.trans s1).trans s2) (re.mono (s1.trans s2)) r2 x2 w2.2⟩⟩⟩
theorem le_liGM (hn : ∀ C, NS C → NoS K (.ref C)) (hd : ∀ Z, Reps K Z dds dvs) (rw' : RW K Z0 W W') (h : LA K Z0 ar ar') : LE K Z0 (tLiG K (spDG K G) dvs W ar) (dLiGM G NS dds W' ar') := ⟨fun Z S H env σ Q Q' s0 re rl hh q =>
  h.run Z S H env σ _ _ s0 re rl hh fun Z1 S1 H1 ds vs s1 r1 p1 h1 => ⟨Z1, S1, ds ++ dds, _, _, r1, p1.append (hd Z1), h1, fun Z2 S2 H2 ys us s2 r2 p2 h2 => fun p hp => by
      obtain ⟨r3, n3⟩ := r2.new (o := .lst ys) (u := .lst us) hp ⟨_, rfl, p2⟩
      exact q _ _ _ _ _ (s1.trans s2) r3 (.raw p) (h2 p n3),
    fun Z2 S2 H2 C fs d s2 r2 x2 w2 => ⟨hn C w2.1, rw'.run Z2 S2 H2 env σ C fs d ((s0.trans s1).trans s2) (re.mono (s1.trans s2)) r2 x2 w2.2⟩⟩⟩
end
section
variable {F : Fm} {K : PySem.W.Frag} {P : Program} {w : World} {mg : Str → Option Value} {base : Heap} [fam : Fam F P w K mg base]
variable {e : Expr} {es : List Expr} {t : DCtx → DA} {pos p p2 pos2 : Pos} {x : Str} {NS : Addr → Prop}
include fam
theorem liG_pe {k : Nat} {G : DFG} {dds : List D} (c : GnD P w K mg base k x G dds) {j : Nat} (hr : ∀ k, Room j (F.X k).A) (hk : k + 3 ≤ j) (hml : mg "list" = none) (ha : PDA F K (e :: es) t) (hg : ∀ k, Gl (F.X k) x) (hgl : ∀ k, Gl (F.X k) "list")
    (hdb : (x == ("__debug__" : Str)) = false) (he : ∀ k, starEach (e :: es) (F.X k).env = (false, eval e (F.X k).env) :: starEach es (F.X k).env) (hpl : ∀ k, (backTo pos (starEach es (F.X k).env)).any (·.1) = false)
    (hl : ∀ k, starEach [.Call (.Name x p) (e :: es) [] pos] (F.X k).env = (false, eval (.Call (.Name x p) (e :: es) [] pos) (F.X k).env) :: starEach [] (F.X k).env) :
    ∃ (dvs : List V) (ta : HCtx → TA), (∀ Z, Reps K Z dds dvs) ∧ (∀ i h, F.ok i h → PE (F.X i) (.Call (.Name "list" p2) [.Call (.Name x p) (e :: es) [] pos] [] pos2) (tLiG K (spDG K G) dvs h.W (ta h))) ∧ ∀ Z0 h c, RC K Z0 h c → LA K Z0 (ta h) (t c) := by
  obtain ⟨f, fd, ps, dvs, ds, h1, h2, h3, h4, h5, h6⟩ := c.ex
  obtain ⟨ta, a1, a2⟩ := ha.ex
  refine ⟨dvs, ta, h6, fun i h q => ?_, a2⟩
  have e1 := fam.prog i
  have e2 := fam.w i
  have e3 := fam.k i
  have e4 := fam.mg i
  have e5 := fam.base i
  have hh := pe_liG (X := F.X i) (k := k) (sp := spDG K G) (ds := ds) (dvs := dvs) (f := f) (fd := fd) (ps := ps) (p := p) (p2 := p2) (pos2 := pos2) (F.tk i h q) (by rw [e1, e2, e3, e4, e5]; exact h1) ((hr i).mono hk) (hg i) (by rw [e4]; exact h2) (by rw [e3]; exact h3) (by rw [e3]; exact h4) h5 (a1 i h q) (hgl i) (by rw [e4]; exact hml) (by decide +kernel) hdb (he i) (hpl i) (by decide) (by decide) (hl i)
  rw [e3] at hh
  exact hh
theorem pd_liG {k : Nat} {G : DFG} {dds : List D} (c : GnD P w K mg base k x G dds) {j : Nat} (hr : ∀ k, Room j (F.X k).A) (hk : k + 3 ≤ j) (hn : ∀ C, NS C → NoS K (.ref C)) (hml : mg "list" = none) (ha : PDA F K (e :: es) t) (hg : ∀ k, Gl (F.X k) x := by intro _; rfl) (hgl : ∀ k, Gl (F.X k) "list" := by intro _; rfl)
    (hdb : (x == ("__debug__" : Str)) = false := by decide) (he : ∀ k, starEach (e :: es) (F.X k).env = (false, eval e (F.X k).env) :: starEach es (F.X k).env := by intro _; rfl) (hpl : ∀ k, (backTo pos (starEach es (F.X k).env)).any (·.1) = false := by intro _; rfl)
    (hl : ∀ k, starEach [.Call (.Name x p) (e :: es) [] pos] (F.X k).env = (false, eval (.Call (.Name x p) (e :: es) [] pos) (F.X k).env) :: starEach [] (F.X k).env := by intro _; rfl) :
    PD F K (.Call (.Name "list" p2) [.Call (.Name x p) (e :: es) [] pos] [] pos2) (fun c => dLiG G NS dds c.w (t c)) := by
  obtain ⟨dvs, ta, h6, a1, a2⟩ := liG_pe c hr hk hml ha hg hgl hdb he hpl hl
  exact ⟨_, a1, fun Z h c r => le_liG hn h6 r.w (a2 Z h c r)⟩
theorem pd_liGM {k : Nat} {G : DFG} {dds : List D} (c : GnD P w K mg base k x G dds) {j : Nat} (hr : ∀ k, Room j (F.X k).A) (hk : k + 3 ≤ j) (hn : ∀ C, NS C → NoS K (.ref C)) (hml : mg "list" = none) (ha : PDA F K (e :: es) t) (hg : ∀ k, Gl (F.X k) x := by intro _; rfl) (hgl : ∀ k, Gl (F.X k) "list" := by intro _; rfl)
    (hdb : (x == ("__debug__" : Str)) = false := by decide) (he : ∀ k, starEach (e :: es) (F.X k).env = (false, eval e (F.X k).env) :: starEach es (F.X k).env := by intro _; rfl) (hpl : ∀ k, (backTo pos (starEach es (F.X k).env)).any (·.1) = false := by intro _; rfl)
    (hl : ∀ k, starEach [.Call (.Name x p) (e :: es) [] pos] (F.X k).env = (false, eval (.Call (.Name x p) (e :: es) [] pos) (F.X k).env) :: starEach [] (F.X k).env := by intro _; rfl) :
    PD F K (.Call (.Name "list" p2) [.Call (.Name x p) (e :: es) [] pos] [] pos2) (fun c => dLiGM G NS dds c.w (t c)) := by
  obtain ⟨dvs, ta, h6, a1, a2⟩ := liG_pe c hr hk hml ha hg hgl hdb he hpl hl
  exact ⟨_, a1, fun Z h c r => le_liGM hn h6 r.w (a2 Z h c r)⟩
end
/-- the fact that a class ends no iterator -/
def nosB (K : PySem.W.Frag) (C : Addr) : Bool := PySem.W.subIn K (.ref C) (.type "StopIteration") == some false
theorem nosB_ok {K : PySem.W.Frag} {C : Addr} (h : nosB K C = true) : NoS K (.ref C) := beq_iff_eq.mp h
end DL
end

section
set_option Elab.async false
set_option linter.all false
set_option autoImplicit false
set_option maxRecDepth 100000
set_option maxHeartbeats 2000000
/-! DL23: (n, run) < (m, run); dicts that change. -/
namespace DL
open PySem PySem.Spec PyProof.Rows L2
/-- the order of lists of ints -/
def ltI : List Int → List Int → Bool
  | [], [] => false
  | [], _ :: _ => true
  | _ :: _, [] => false
  | x :: xs, y :: ys => if x = y then ltI xs ys else decide (x < y)
theorem lexAt_shift {e r : Nat → Bool} {z : Bool} : ∀ (k i : Nat), Ob.lexAt e r z (i + 1) k = Ob.lexAt (fun j => e (j + 1)) (fun j => r (j + 1)) z i k
  | 0, _ => rfl
  | k + 1, i => by rw [Ob.lexAt_succ, Ob.lexAt_succ, lexAt_shift k (i + 1)]
theorem lexAt_ltI : ∀ ns ms : List Int, Ob.lexAt (fun j => decide (ns.getD j 0 = ms.getD j 0)) (fun j => decide (ns.getD j 0 < ms.getD j 0)) (decide (ns.length < ms.length)) 0 (min ns.length ms.length) = ltI ns ms
  | [], [] => rfl
  | [], _ :: _ => rfl
  | _ :: _, [] => rfl
  | x :: xs, y :: ys => by
    have e : min (x :: xs).length (y :: ys).length = min xs.length ys.length + 1 := by simp only [List.length_cons]; omega
    rw [e, Ob.lexAt_succ, lexAt_shift]
    have ih := lexAt_ltI xs ys
    show (if decide (x = y) = true then Ob.lexAt (fun j => decide (xs.getD j 0 = ys.getD j 0)) (fun j => decide (xs.getD j 0 < ys.getD j 0)) (decide ((x :: xs).length < (y :: ys).length)) 0 (min xs.length ys.length) else decide (x < y)) = _
    have e2 : decide ((x :: xs).length < (y :: ys).length) = decide (xs.length < ys.length) := by simp
    rw [e2, ih]
    by_cases hxy : x = y
    · simp [ltI, hxy]
    · simp [ltI, hxy]
section
variable {X : Cx} {pins : List (Addr × Obj)} {σ : L2.St} {H : Hp} {s : Shared} {a b : Addr} {ns ms : List Int} {A : Around}
theorem tupI_at (I : Inv X pins σ H s) (ha : SqT X.K H a (ns.map V.int)) : ∃ its : List Value, s.heap.IsTuple a its.toArray ∧ its.length = ns.length ∧ ∀ j (h : j < its.toArray.size), ∃ t, its.toArray[j] = .int (ns.getD j 0) t := by
  obtain ⟨its, r1, p1, _⟩ := I.tuple ha
  have i1 : IntsAre its ns := Vals.ints r1
  exact ⟨its, p1, i1.length, fun j h => PyProof.Rows.IntsAre.int_at i1 _ _ (by simp at h; simp [h])⟩
theorem ieq (i j : Int) : (i == j) = decide (i = j) := by
  by_cases q : i = j
  · simp [q]
  · simp [q]
theorem all_eq : ∀ ns ms : List Int, ((List.range (min ns.length ms.length)).all (fun j => decide (ns.getD j 0 = ms.getD j 0)) && ns.length == ms.length) = decide (ns = ms) := fun ns ms => by
  rw [Bool.eq_iff_iff]
  simp only [Bool.and_eq_true, List.all_eq_true, List.mem_range, decide_eq_true_eq, beq_iff_eq]
  constructor
  · rintro ⟨h1, h2⟩
    refine List.ext_getElem h2 fun i h3 h4 => ?_
    have := h1 i (by omega)
    simpa [List.getD_eq_getElem?_getD, h3, h4] using this
  · rintro rfl
    exact ⟨fun _ _ => rfl, rfl⟩
theorem tupI_eq (I : Inv X pins σ H s) (ha : SqT X.K H a (ns.map V.int)) (hb : SqT X.K H b (ms.map V.int)) (hu : A.units < cLine) : SeqAt.EqAt A s (.ref a) (.ref b) (decide (ns = ms)) := by
  by_cases hab : a = b
  · subst hab
    have e : ns = ms := (List.map_inj_right (fun i j h => by cases h; rfl)).mp (I.tuple_inj ha hb)
    rw [decide_eq_true e]
    exact SeqAt.EqAt.same _
  · obtain ⟨its, p1, l1, g1⟩ := tupI_at I ha
    obtain ⟨its2, p2, l2, g2⟩ := tupI_at I hb
    have R := SeqAt.RcAt.tuples (A := A) (e := fun j => decide (ns.getD j 0 = ms.getD j 0)) p1 p2 hu fun j h1 h2 => by
      obtain ⟨t, et⟩ := g1 j h1
      obtain ⟨t', et'⟩ := g2 j h2
      rw [et, et', ← ieq]
      exact SeqAt.EqAt.int_int _ _ _ _
    simp only [List.size_toArray, l1, l2] at R
    rw [all_eq] at R
    exact SeqAt.EqAt.of_refs hab R
theorem tupI_lt (I : Inv X pins σ H s) (ha : SqT X.K H a (ns.map V.int)) (hb : SqT X.K H b (ms.map V.int)) (hu : A.units < cLine) : Ob.RcOp .Lt A s (.ref a) (.ref b) (ltI ns ms) := by
  obtain ⟨its, p1, l1, g1⟩ := tupI_at I ha
  obtain ⟨its2, p2, l2, g2⟩ := tupI_at I hb
  have R := Ob.RcOp.tuples_lt (A := A) (s := s) (e := fun j => decide (ns.getD j 0 = ms.getD j 0)) (r := fun j => decide (ns.getD j 0 < ms.getD j 0)) p1 p2 hu (fun j h1 h2 => by
      obtain ⟨t, et⟩ := g1 j h1
      obtain ⟨t', et'⟩ := g2 j h2
      rw [et, et', ← ieq]
      exact SeqAt.EqAt.int_int _ _ _ _) fun j h1 h2 _ => by
      obtain ⟨t, et⟩ := g1 j h1
      obtain ⟨t', et'⟩ := g2 j h2
      rw [et, et']
      exact Ob.RcOp.lt_int _ _ _ _
  simp only [List.size_toArray, l1, l2] at R
  rw [lexAt_ltI] at R
  exact R
end
/-- (n, ns) < (m, ms) -/
def ltP (n : Int) (ns : List Int) (m : Int) (ms : List Int) : Bool := if n = m then ltI ns ms else decide (n < m)
theorem ltI_irr : ∀ ns : List Int, ltI ns ns = false
  | [] => rfl
  | x :: xs => by simp [ltI, ltI_irr xs]
def rLtP (K : PySem.W.Frag) : R2 := fun x y H Q => ∃ (p q a b : Addr) (n m : Int) (ns ms : List Int), x = .ref p ∧ y = .ref q ∧ SqT K H p [.int n, .ref a] ∧ SqT K H q [.int m, .ref b] ∧ SqT K H a (ns.map V.int) ∧ SqT K H b (ms.map V.int) ∧ Q (.bl (ltP n ns m ms)) H
theorem pair_at {X : Cx} {pins : List (Addr × Obj)} {σ : L2.St} {H : Hp} {s : Shared} {p a : Addr} {n : Int} (I : Inv X pins σ H s) (h : SqT X.K H p [.int n, .ref a]) : ∃ t, s.heap.IsTuple p #[.int n t, .ref a] := by
  obtain ⟨its, r1, p1, _⟩ := I.tuple h
  cases r1 with
  | cons h1 h2 =>
    cases h2 with
    | cons h3 h4 =>
      cases h4
      obtain ⟨t, rfl⟩ := h1
      obtain rfl := h3
      exact ⟨t, p1⟩
theorem op_ltP {X : Cx} (hu : X.A.units + 8 < cLine) : OpR X (compareOp .Lt) (rLtP X.K) := by
  intro pins s σ H x y v u Q I rx ry h
  obtain ⟨p, q, a, b, n, m, ns, ms, rfl, rfl, hp, hq, ha, hb, hQ⟩ := h
  cases rx
  cases ry
  obtain ⟨t, p1⟩ := pair_at I hp
  obtain ⟨t', p2⟩ := pair_at I hq
  have hu1 : X.A.in1.units < cLine := by show X.A.units + 1 < cLine; omega
  have R := Ob.RcOp.tuples_lt (A := X.A) (s := s) (e := fun j => if j = 0 then decide (n = m) else decide (ns = ms)) (r := fun j => if j = 0 then decide (n < m) else ltI ns ms) p1 p2 (by omega) (fun j h1 h2 => by
      match j, h1 with
      | 0, _ => show SeqAt.EqAt _ s (.int n t) (.int m t') (decide (n = m)); rw [← ieq]; exact SeqAt.EqAt.int_int _ _ _ _
      | 1, _ => exact tupI_eq I ha hb hu1
      | j + 2, h => exact absurd h (by show ¬ j + 2 < 2; omega)) fun j h1 h2 _ => by
      match j, h1 with
      | 0, _ => exact Ob.RcOp.lt_int n m t t'
      | 1, _ => exact tupI_lt I ha hb hu1
      | j + 2, h => exact absurd h (by show ¬ j + 2 < 2; omega)
  have e : Ob.lexAt (fun j => if j = 0 then decide (n = m) else decide (ns = ms)) (fun j => if j = 0 then decide (n < m) else ltI ns ms) (decide ((#[Value.int n t, .ref a] : Array Value).size < (#[Value.int m t', .ref b] : Array Value).size)) 0 (min (#[Value.int n t, .ref a] : Array Value).size (#[Value.int m t', .ref b] : Array Value).size) = ltP n ns m ms := by
    show (if decide (n = m) = true then (if decide (ns = ms) = true then false else ltI ns ms) else decide (n < m)) = _
    unfold ltP
    by_cases h1 : n = m
    · by_cases h2 : ns = ms
      · simp [h1, h2, ltI_irr]
      · simp [h1, h2]
    · simp [h1]
  rw [e] at R
  exact R X.prog X.w X.xe (EP X pins σ Q) ⟨.bl _, H, I, rfl, hQ⟩
def rLtP' : R2' := fun x y S Q => ∃ (n m : Int) (ns ms : List Int), x = .tup [.int n, .tup (ns.map D.int)] ∧ y = .tup [.int m, .tup (ms.map D.int)] ∧ Q (.bl (ltP n ns m ms)) S
theorem reps_ints {K : PySem.W.Frag} {Z : Hp} : ∀ {ns : List Int} {xs : List V}, Reps K Z (ns.map D.int) xs → xs = ns.map V.int
  | [], _, .nil => rfl
  | n :: ns, _, .cons (.int _) r => by rw [reps_ints r]; rfl
theorem lr_ltP {K : PySem.W.Frag} {Z0 : Hp} : L2R K Z0 (rLtP K) rLtP' := ⟨fun Z S H x y d e Q Q' s0 rl px py h q => by
  obtain ⟨n, m, ns, ms, rfl, rfl, hQ⟩ := h
  cases px with
  | tup h1 r1 =>
    cases py with
    | tup h2 r2 =>
      cases r1 with
      | cons i1 r1 =>
        cases r1 with
        | cons t1 r1 =>
          cases r1
          cases r2 with
          | cons i2 r2 =>
            cases r2 with
            | cons t2 r2 =>
              cases r2
              cases i1
              cases i2
              cases t1 with
              | tup h3 r3 =>
                cases t2 with
                | tup h4 r4 =>
                  obtain rfl := reps_ints r3
                  obtain rfl := reps_ints r4
                  exact ⟨_, _, _, _, n, m, ns, ms, rfl, rfl, Same.sqt rl.sub h1, Same.sqt rl.sub h2, Same.sqt rl.sub h3, Same.sqt rl.sub h4, q Z S H _ _ (Same.refl Z) rl (.bl _) hQ⟩⟩
theorem c_ltP {F : Fm} {K : PySem.W.Frag} {P : Program} {w : World} {mg : Str → Option Value} {base : Heap} [fam : Fam F P w K mg base] {j : Nat} (hr : ∀ k, Room j (F.X k).A) : CmpD F K .Lt rLtP' := ⟨_, opK (r := rLtP) fun k => op_ltP (by have := (hr k).un; omega), fun _ => lr_ltP⟩

/-! ### dicts that change -/
def dkOf (S : Sto) : D → Option (List (Key × D))
  | .dk kvs => some kvs
  | .raw a => (match S a with
    | some (.dk kvs) => some kvs
    | _ => none)
  | _ => none
def keyD : D → Option Key
  | .int i => some (.inl i)
  | .str x => some (.inr x)
  | _ => none
def valK (kvs : List (Key × D)) (k : Key) : Option D := (kvs.find? fun kv => decide (kv.1 = k)).map (·.2)
def putKD (kvs : List (Key × D)) (k : Key) (v : D) : List (Key × D) :=
  if (kvs.any fun kv => decide (kv.1 = k)) = true then kvs.map (fun kv => if kv.1 = k then (kv.1, v) else kv) else kvs ++ [(k, v)]
section
variable {K : PySem.W.Frag} {Z Z0 : Hp} {S : Sto} {H : Hp}
theorem Rel.dkr (r : Rel K Z S H) {d : D} {v : V} {kvs : List (Key × D)} (h : Rep K Z d v) (e : dkOf S d = some kvs) : ∃ a gs, v = .ref a ∧ H a = some (.dK gs) ∧ RepK K Z kvs gs := by
  cases h with
  | dk h1 h2 => cases e; exact ⟨_, _, rfl, r.sub _ _ h1, h2⟩
  | raw a =>
    have e' : (match S a with
      | some (.dk kvs) => some kvs
      | _ => none) = some kvs := e
    split at e'
    · rename_i q
      cases e'
      obtain ⟨_, u, h1, gs, rfl, h2⟩ := r.own a _ q
      exact ⟨a, gs, rfl, h1, h2⟩
    · cases e'
  | _ => cases e
theorem keyR {d : D} {v : V} {k : Key} (h : Rep K Z d v) (e : keyD d = some k) : v = kV k := by
  cases h with
  | int i => cases e; rfl
  | str x => cases e; rfl
  | _ => cases e
theorem RepK.val : ∀ {kvs : List (Key × D)} {gs : List (Key × V)} (k : Key), RepK K Z kvs gs → (valK kvs k = none ∧ valV gs k = none) ∨ ∃ d v, valK kvs k = some d ∧ valV gs k = some v ∧ Rep K Z d v
  | _, _, k, .nil => .inl ⟨rfl, rfl⟩
  | _, _, k, .cons (f := f) (ds := ds) (vs := vs) h r => by
    by_cases e : f = k
    · exact .inr ⟨_, _, by simp [valK, List.find?_cons, e], by simp [valV, List.find?_cons, e], h⟩
    · rcases RepK.val k r with ⟨h1, h2⟩ | ⟨d, v, h1, h2, h3⟩
      · exact .inl ⟨by simpa [valK, List.find?_cons, e] using h1, by simpa [valV, List.find?_cons, e] using h2⟩
      · exact .inr ⟨d, v, by simpa [valK, List.find?_cons, e] using h1, by simpa [valV, List.find?_cons, e] using h2, h3⟩
theorem RepK.any : ∀ {kvs : List (Key × D)} {gs : List (Key × V)} (k : Key), RepK K Z kvs gs → (kvs.any fun kv => decide (kv.1 = k)) = gs.any fun kv => decide (kv.1 = k)
  | _, _, k, .nil => rfl
  | _, _, k, .cons h r => by rw [List.any_cons, List.any_cons, RepK.any k r]
theorem RepK.len : ∀ {kvs : List (Key × D)} {gs : List (Key × V)}, RepK K Z kvs gs → kvs.length = gs.length
  | _, _, .nil => rfl
  | _, _, .cons h r => by rw [List.length_cons, List.length_cons, RepK.len r]
theorem RepK.repl {d : D} {v : V} (hv : Rep K Z d v) (k : Key) : ∀ {kvs : List (Key × D)} {gs : List (Key × V)}, RepK K Z kvs gs → RepK K Z (kvs.map fun kv => if kv.1 = k then (kv.1, d) else kv) (gs.map fun kv => if kv.1 = k then (kv.1, v) else kv)
  | _, _, .nil => .nil
  | _, _, .cons (f := f) h r => by
    rw [List.map_cons, List.map_cons]
    by_cases e : f = k
    · simp only [e, if_true]; exact .cons hv (RepK.repl hv k r)
    · simp only [e, if_false]; exact .cons h (RepK.repl hv k r)
theorem RepK.snoc {d : D} {v : V} (hv : Rep K Z d v) (k : Key) : ∀ {kvs : List (Key × D)} {gs : List (Key × V)}, RepK K Z kvs gs → RepK K Z (kvs ++ [(k, d)]) (gs ++ [(k, v)])
  | _, _, .nil => .cons hv .nil
  | _, _, .cons h r => .cons h (RepK.snoc hv k r)
theorem RepK.put {d : D} {v : V} (hv : Rep K Z d v) (k : Key) {kvs : List (Key × D)} {gs : List (Key × V)} (r : RepK K Z kvs gs) : RepK K Z (putKD kvs k d) (putK gs k v) := by
  unfold putKD putK
  rw [RepK.any k r]
  split
  · exact RepK.repl hv k r
  · exact RepK.snoc hv k r
def dDGet (td ty : DE) : DE := fun env S Q => td env S fun x S1 => ty env S1 fun y S2 => ∃ kvs k d, dkOf S2 x = some kvs ∧ keyD y = some k ∧ valK kvs k = some d ∧ Q d S2
def dDIn (neg : Bool) (ty td : DE) : DE := fun env S Q => ty env S fun y S1 => td env S1 fun x S2 => ∃ kvs k, dkOf S2 x = some kvs ∧ keyD y = some k ∧ Q (.bl (neg != (valK kvs k).isSome)) S2
def dDPut (td ty tv : DE) : DS := fun E env S => tv env S fun v S1 => td env S1 fun x S2 => ty env S2 fun y S3 => ∃ a kvs k, x = .raw a ∧ S3 a = some (.dk kvs) ∧ keyD y = some k ∧ kvs.length < sizeLine ∧ E.nx env (updS S3 a (.dk (putKD kvs k v)))
def dDisp1 (tk tv : DE) : DE := fun env S Q => ∀ a, S a = none → tk env (updS S a (.dk [])) fun x S1 => tv env S1 fun y S2 => S2 a = some (.dk []) ∧ ∃ k, keyD x = some k ∧ Q (.raw a) (updS S2 a (.dk [(k, y)]))
theorem le_dget {td ty : TE} {td' ty' : DE} (h1 : LE K Z0 td td') (h2 : LE K Z0 ty ty') : LE K Z0 (tDGet td ty) (dDGet td' ty') := ⟨fun Z S H env σ Q Q' s0 re rl hh q =>
  h1.run Z S H env σ _ _ s0 re rl hh fun Z1 S1 H1 x v s1 r1 p1 hx => h2.run Z1 S1 H1 env σ _ _ (s0.trans s1) (re.mono s1) r1 hx fun Z2 S2 H2 y u s2 r2 p2 hy => by
    obtain ⟨kvs, k, d, e1, e2, e3, hq⟩ := hy
    obtain ⟨a, gs, rfl, g1, g2⟩ := r2.dkr (p1.mono s2) e1
    obtain rfl := keyR p2 e2
    rcases g2.val k with ⟨n1, _⟩ | ⟨d', v', m1, m2, m3⟩
    · rw [n1] at e3; cases e3
    · rw [m1] at e3; cases e3
      exact ⟨a, v', rfl, .inl ⟨gs, k, .inl g1, rfl, m2.symm⟩, q _ _ _ _ _ (s1.trans s2) r2 m3 hq⟩⟩
theorem le_din {td ty : TE} {td' ty' : DE} (h1 : LE K Z0 td td') (h2 : LE K Z0 ty ty') : LE K Z0 (tDIn ty td) (dDIn false ty' td') := ⟨fun Z S H env σ Q Q' s0 re rl hh q =>
  h2.run Z S H env σ _ _ s0 re rl hh fun Z1 S1 H1 y u s1 r1 p1 hx => h1.run Z1 S1 H1 env σ _ _ (s0.trans s1) (re.mono s1) r1 hx fun Z2 S2 H2 x v s2 r2 p2 hy => by
    obtain ⟨kvs, k, e1, e2, hq⟩ := hy
    obtain ⟨a, gs, rfl, g1, g2⟩ := r2.dkr p2 e1
    obtain rfl := keyR p1 e2
    refine ⟨a, valV gs k, rfl, .inl ⟨gs, k, .inl g1, rfl, rfl⟩, ?_⟩
    have e : (valV gs k).isSome = (false != (valK kvs k).isSome) := by
      rcases g2.val k with ⟨n1, n2⟩ | ⟨d', v', m1, m2, m3⟩
      · rw [n1, n2]; rfl
      · rw [m1, m2]; rfl
    rw [e]
    exact q _ _ _ _ _ (s1.trans s2) r2 (.bl _) hq⟩
theorem le_dnin {td ty : TE} {td' ty' : DE} (h1 : LE K Z0 td td') (h2 : LE K Z0 ty ty') : LE K Z0 (tDNotIn ty td) (dDIn true ty' td') := ⟨fun Z S H env σ Q Q' s0 re rl hh q =>
  h2.run Z S H env σ _ _ s0 re rl hh fun Z1 S1 H1 y u s1 r1 p1 hx => h1.run Z1 S1 H1 env σ _ _ (s0.trans s1) (re.mono s1) r1 hx fun Z2 S2 H2 x v s2 r2 p2 hy => by
    obtain ⟨kvs, k, e1, e2, hq⟩ := hy
    obtain ⟨a, gs, rfl, g1, g2⟩ := r2.dkr p2 e1
    obtain rfl := keyR p1 e2
    refine ⟨a, valV gs k, rfl, .inl ⟨gs, k, .inl g1, rfl, rfl⟩, ?_⟩
    have e : (!(valV gs k).isSome) = (true != (valK kvs k).isSome) := by
      rcases g2.val k with ⟨n1, n2⟩ | ⟨d', v', m1, m2, m3⟩
      · rw [n1, n2]; rfl
      · rw [m1, m2]; rfl
    rw [e]
    exact q _ _ _ _ _ (s1.trans s2) r2 (.bl _) hq⟩
theorem ls_dput {td ty tv : TE} {td' ty' tv' : DE} (h1 : LE K Z0 td td') (h2 : LE K Z0 ty ty') (h3 : LE K Z0 tv tv') : LS K Z0 (sDPut td ty tv) (dDPut td' ty' tv') := ⟨fun Z S H env σ E E' s0 re rl hh e =>
  h3.run Z S H env σ _ _ s0 re rl hh fun Z1 S1 H1 v u s1 r1 p1 hx => h1.run Z1 S1 H1 env σ _ _ (s0.trans s1) (re.mono s1) r1 hx fun Z2 S2 H2 x w2 s2 r2 p2 hy =>
    h2.run Z2 S2 H2 env σ _ _ ((s0.trans s1).trans s2) (re.mono (s1.trans s2)) r2 hy fun Z3 S3 H3 y w3 s3 r3 p3 hz => by
      obtain ⟨a, kvs, k, rfl, e1, e2, hl, hq⟩ := hz
      cases p2
      obtain ⟨_, _, g1, gs, rfl, g2⟩ := r3.own a _ e1
      obtain rfl := keyR p3 e2
      refine ⟨a, _, rfl, .inl ⟨gs, k, g1, rfl, by rw [← g2.len]; exact hl, rfl⟩, ?_⟩
      exact e.nx _ _ _ _ _ ((s1.trans s2).trans s3) (re.mono ((s1.trans s2).trans s3)) (r3.write (o' := .dk (putKD kvs k v)) e1 ⟨_, rfl, RepK.put (p1.mono (s2.trans s3)) k g2⟩) hq⟩
theorem le_disp1 {tk tv : TE} {tk' tv' : DE} (h1 : LE K Z0 tk tk') (h2 : LE K Z0 tv tv') : LE K Z0 (tDisp [(tk, tv)]) (dDisp1 tk' tv') := ⟨fun Z S H env σ Q Q' s0 re rl hh q p hp => by
  obtain ⟨r1, n1⟩ := rl.new (o := .dk []) (u := .dK []) hp ⟨[], rfl, .nil⟩
  refine h1.run Z _ _ env σ _ _ s0 re r1 (hh p n1) fun Z1 S1 H1 x v s1 r1 p1 hx => ?_
  refine h2.run Z1 S1 H1 env σ _ _ (s0.trans s1) (re.mono s1) r1 hx fun Z2 S2 H2 y u s2 r2 p2 hy => ?_
  obtain ⟨e1, k, e2, hq⟩ := hy
  obtain rfl := keyR p1 e2
  obtain ⟨_, _, g1, gs, rfl, g2⟩ := r2.own p _ e1
  cases g2
  refine ⟨g1, [(k, u)], rfl, by simp, ?_⟩
  exact q _ _ _ _ _ (s1.trans s2) (r2.write (o' := .dk [(k, y)]) e1 ⟨_, rfl, .cons p2 .nil⟩) (.raw p) hq⟩
end
section
variable {F : Fm} {K : PySem.W.Frag} {P : Program} {w : World} {mg : Str → Option Value} {base : Heap} [fam : Fam F P w K mg base]
variable {o i value : Expr} {td ty tv : DCtx → DE} {pos pos' : Pos} {j : Nat}
include fam
theorem pd_dget (hr : ∀ k, Room j (F.X k).A) (ho : PD F K o td) (hi : PD F K i ty) (hs : NoSl i := by intro _ _; rfl) : PD F K (.Subscript o i pos) (fun c => dDGet (td c) (ty c)) := by
  obtain ⟨t1, a1, l1⟩ := ho.ex
  obtain ⟨t2, a2, l2⟩ := hi.ex
  exact ⟨_, fun k h q => pe_dget (by have := (hr k).un; omega) (a1 k h q) (a2 k h q) hs, fun Z h c r => le_dget (l1 Z h c r) (l2 Z h c r)⟩
theorem pdt_din (hr : ∀ k, Room j (F.X k).A) (hi : PD F K i ty) (ho : PD F K o td) (hm : behindInMarks .In o = false := by rfl) : PDT F K (.Compare i [.In] [o] pos) (fun c => dB (dDIn false (ty c) (td c))) := by
  obtain ⟨t1, a1, l1⟩ := ho.ex
  obtain ⟨t2, a2, l2⟩ := hi.ex
  exact ⟨_, fun k h q => pt_cmp (pc_din (by have := (hr k).un; omega) (a2 k h q) (a1 k h q)) hm, fun Z h c r => lt_Test (le_din (l1 Z h c r) (l2 Z h c r))⟩
theorem pdt_dnin (hr : ∀ k, Room j (F.X k).A) (hi : PD F K i ty) (ho : PD F K o td) (hm : behindInMarks .NotIn o = false := by rfl) : PDT F K (.Compare i [.NotIn] [o] pos) (fun c => dB (dDIn true (ty c) (td c))) := by
  obtain ⟨t1, a1, l1⟩ := ho.ex
  obtain ⟨t2, a2, l2⟩ := hi.ex
  exact ⟨_, fun k h q => pt_cmp (pc_dnotin (by have := (hr k).un; omega) (a2 k h q) (a1 k h q)) hm, fun Z h c r => lt_Test (le_dnin (l1 Z h c r) (l2 Z h c r))⟩
theorem s_dput (hr : ∀ k, Room j (F.X k).A) (ho : PD F K o td) (hi : PD F K i ty) (hv : PD F K value tv) (hs : ∀ k, swapsWith value (some (.Subscript o i pos')) pos.line (F.X k).env = pure false := by intro _; rfl) :
    PDS F K (.Assign [.Subscript o i pos'] value pos) (fun c => dDPut (td c) (ty c) (tv c)) := by
  obtain ⟨t1, a1, l1⟩ := ho.ex
  obtain ⟨t2, a2, l2⟩ := hi.ex
  obtain ⟨t3, a3, l3⟩ := hv.ex
  exact ⟨_, fun k h q => ps_dput (by have := (hr k).un; omega) (a1 k h q) (a2 k h q) (a3 k h q) (hs k), fun Z h c r => ls_dput (l1 Z h c r) (l2 Z h c r) (l3 Z h c r)⟩
theorem pd_disp1 {ke ve : Expr} {tk tv : DCtx → DE} (hk : PD F K ke tk) (hv : PD F K ve tv) : PD F K (.Dict [some ke] [ve] pos) (fun c => dDisp1 (tk c) (tv c)) := by
  obtain ⟨t1, a1, l1⟩ := hk.ex
  obtain ⟨t2, a2, l2⟩ := hv.ex
  exact ⟨_, fun k h q => pe_disp (pps_cons (a1 k h q) (a2 k h q) pps_nil) rfl rfl (fun z => by cases z) (by simp), fun Z h c r => le_disp1 (l1 Z h c r) (l2 Z h c r)⟩
end
end DL
end

section
set_option Elab.async false
set_option linter.all false
set_option autoImplicit false
set_option maxRecDepth 100000
set_option maxHeartbeats 2000000
/-! DL24: own methods called, the load of the method's name depending on the context; equations for the walk of generators and dicts. -/
namespace DL
open PySem PySem.Spec PyProof.Rows L2
section
variable {F : Fm} {K : PySem.W.Frag} {P : Program} {w : World} {mg : Str → Option Value} {base : Heap} [fam : Fam F P w K mg base]
variable {e o : Expr} {es : List Expr} {to : DCtx → DE} {t : DCtx → DA} {pos p apos : Pos} {x m : Str}
include fam
theorem pd_methI {pl : F.ι → Sem Bool} {k : Nat} {C : Addr} {G : DF} {dds : List D} (c : MtD P w K mg base k C m G dds) {j : Nat} (hr : ∀ k, Room j (F.X k).A) (hk : k ≤ j) (ho : PD F K o to) (ha : PDA F K (e :: es) t)
    (he : ∀ k, starEach (e :: es) (F.X k).env = (false, eval e (F.X k).env) :: starEach es (F.X k).env := by intro _; rfl) (hpl : ∀ k, (backTo pos (starEach es (F.X k).env)).any (·.1) = false := by intro _; rfl)
    (ht : ∀ k, eval (.Call (.Attribute o m apos) (e :: es) [] pos) (F.X k).env = (do let ov ← eval o (F.X k).env; standAt apos.atName; let (f, first) ← holding [ov] (getMethod ov m (pl k)); callWith pos f first (backTo pos (starEach (e :: es) (F.X k).env)) (backToKw pos (keywordEach [] (F.X k).env))) := by intro _; rfl) :
    PD F K (.Call (.Attribute o m apos) (e :: es) [] pos) (fun c => dMeth C m G dds c.w (to c) (t c)) := by
  obtain ⟨f, fd, ps, dvs, ds, h0, h1, h2, h4, h5, h6⟩ := c.ex
  obtain ⟨tt, b1, b2⟩ := ho.ex
  obtain ⟨ta, a1, a2⟩ := ha.ex
  refine ⟨fun h => tMethAt C m (spD K G) dvs (WE h.W) (tt h) (ta h), fun i h q => ?_, fun Z h c r => le_meth h6 r.w (b2 Z h c r) (a2 Z h c r)⟩
  have e1 := fam.prog i
  have e2 := fam.w i
  have e3 := fam.k i
  have e4 := fam.mg i
  have e5 := fam.base i
  exact pe_methAt (X := F.X i) (CX := L2.CX (F.X i).prog (F.X i).w) (E := WE h.W) (b1 i h q) (by rw [e3]; exact h0) (by rw [e3]; exact h1) (by rw [e1, e2, e3, e4, e5]; exact h2) ((hr i).mono hk) (by rw [e3]; exact h4) h5 (fun σ => passAt (F.tk i h q) σ) (a1 i h q) (he i) (hpl i) (ht i)
end
section
variable {E : DGEnds} {ys : List D} {env : DEnv} {S : Sto} {t : DS} {t1 t2 : DGn} {te : DE} {c : DT} {g : DG} {wi : DI} {Q : DV}
theorem x_gPlain : gPlain t E ys env S = t { nx := E.nx ys, rt := E.rt ys, bk := E.bk ys, ct := E.ct ys } env S := rfl
theorem x_g0 : g0 E ys env S = E.nx ys env S := rfl
theorem x_gIfS : gIf c t1 t2 E ys env S = c env S fun b S1 => if b = true then t1 E ys env S1 else t2 E ys env S1 := rfl
theorem x_gYield : gYield te E ys env S = (ys.length < sizeLine ∧ te env S fun x S1 => E.nx (ys ++ [x]) env S1) := rfl
theorem x_gWhile : gWhile c t1 E ys env S = ∃ P : Nat → List D → DEnv → Sto → Prop, (∃ m, P m ys env S) ∧ ∀ m ys env S, P m ys env S →
  c env S fun b S1 => if b = true then t1 { E with nx := fun ys e s => ∃ m', m' < m ∧ P m' ys e s, ct := fun ys e s => ∃ m', m' < m ∧ P m' ys e s, bk := E.nx } ys env S1 else E.nx ys env S1 := rfl
theorem x_gThen (h : ∀ R : List D → DEnv → Sto → Prop, (∀ ys e s, t2 E ys e s → R ys e s) → t1 { nx := R, rt := E.rt, bk := E.bk, ct := E.ct } ys env S) : gThen t1 t2 E ys env S := h (t2 E) fun _ _ _ z => z
theorem x_liG {F : DFG} {NS : Addr → Prop} {dds : List D} {W' : DW} {ta : DA} : dLiG F NS dds W' ta env S Q = ta env S fun ds S1 => F (ds ++ dds) S1 (fun ys S2 => Q (.lst ys) S2) (fun C fs S' => NS C ∧ W' C fs env S') := rfl
theorem x_liGM {F : DFG} {NS : Addr → Prop} {dds : List D} {W' : DW} {ta : DA} : dLiGM F NS dds W' ta env S Q = ta env S fun ds S1 => F (ds ++ dds) S1 (fun ys S2 => ∀ a, S2 a = none → Q (.raw a) (updS S2 a (.lst ys))) (fun C fs S' => NS C ∧ W' C fs env S') := rfl
theorem x_meth {C : Addr} {m : Str} {F : DF} {dds : List D} {W' : DW} {to : DE} {ta : DA} : dMeth C m F dds W' to ta env S Q = to env S fun x S1 => ∃ fs, insOf S1 x = some (C, fs) ∧ fs.lookup m = none ∧ ta env S1 fun ds S2 => F (x :: (ds ++ dds)) S2 Q (fun C fs S' => W' C fs env S') := rfl
theorem x_dget {td ty : DE} : dDGet td ty env S Q = td env S fun x S1 => ty env S1 fun y S2 => ∃ kvs k d, dkOf S2 x = some kvs ∧ keyD y = some k ∧ valK kvs k = some d ∧ Q d S2 := rfl
theorem x_din {b : Bool} {td ty : DE} : dDIn b ty td env S Q = ty env S fun y S1 => td env S1 fun x S2 => ∃ kvs k, dkOf S2 x = some kvs ∧ keyD y = some k ∧ Q (.bl (b != (valK kvs k).isSome)) S2 := rfl
theorem x_dput {E : DEnds} {td ty tv : DE} : dDPut td ty tv E env S = tv env S fun v S1 => td env S1 fun x S2 => ty env S2 fun y S3 => ∃ a kvs k, x = .raw a ∧ S3 a = some (.dk kvs) ∧ keyD y = some k ∧ kvs.length < sizeLine ∧ E.nx env (updS S3 a (.dk (putKD kvs k v))) := rfl
theorem x_disp1 {tk tv : DE} : dDisp1 tk tv env S Q = ∀ a, S a = none → tk env (updS S a (.dk [])) fun x S1 => tv env S1 fun y S2 => S2 a = some (.dk []) ∧ ∃ k, keyD x = some k ∧ Q (.raw a) (updS S2 a (.dk [(k, y)])) := rfl
end
end DL
end

section
set_option Elab.async false
set_option linter.all false
set_option autoImplicit false
set_option maxRecDepth 100000
set_option maxHeartbeats 2000000
/-! What each def does, as data. -/
namespace DL
open PySem PySem.Spec PyProof.Rows L2

def wholeD (lo hi : Int) : D → Bool
  | .int i => decide (lo ≤ i) && decide (i ≤ hi)
  | _ => false
def F_is_whole (_ : PySem.W.Frag) (_ : Str → Addr) : DF := fun ds S Q _ => ∃ d lo hi, ds = [d, .int lo, .int hi] ∧ (tyD S d).isSome = true ∧ Q (.bl (wholeD lo hi d)) S
def rowD (lo hi : Int) : Option (List D) → Bool
  | some es => decide (lo ≤ es.length) && decide ((es.length : Int) ≤ hi)
  | none => false
def F_is_row (_ : PySem.W.Frag) (_ : Str → Addr) : DF := fun ds S Q _ => ∃ d lo hi, ds = [d, .int lo, .int hi] ∧ (tyD S d).isSome = true ∧ Q (.bl (rowD lo hi (asQ S d))) S
/-- the hand: its cells, the place in them, the rest, the total -/
def handP : Pr := ⟨fun Z u => ∃ (ca : Addr) (cs : List Int) (i r t : Int), u = .lst [.ref ca, .int i, .int r, .int t] ∧ Z ca = some (.lst (cs.map V.int)) ∧ (∀ c ∈ cs, 0 ≤ c) ∧ 0 ≤ i ∧ 0 ≤ r ∧ 0 ≤ t,
  fun Z Z' u s ⟨ca, cs, i, r, t, h1, h2, h3⟩ => ⟨ca, cs, i, r, t, h1, s _ _ h2, h3⟩⟩
def Hand (S : Sto) (h : Addr) : Prop := S h = some (.abs handP)
def F_law_mixed (_ : PySem.W.Frag) (_ : Str → Addr) : DF := fun ds S Q _ => ∃ n t, ds = [.int n, .int t] ∧ 0 ≤ n ∧ 0 ≤ t ∧ ∀ r, 0 ≤ r → Q (.int r) S
def F_law_take (_ : PySem.W.Frag) (_ : Str → Addr) : DF := fun ds S Q _ => ∃ h n, ds = [.raw h, .int n] ∧ Hand S h ∧ 0 < n ∧ n < 18446744073709551616 ∧ ∀ r, 0 ≤ r → r < n → Q (.int r) S
def F_law_hand (K : PySem.W.Frag) (_ : Str → Addr) : DF := fun ds S Q _ => ∃ (a : Addr) (cs : List Int), ds = [.raw a] ∧ IsScr K S a cs ∧ cs.length < 16777216 ∧ ∀ h, S h = none → Q (.raw h) (updS S h (.abs handP))

/-! charts and runs -/
abbrev tupI (xs : List Int) : D := .tup (xs.map D.int)
def arrD (as : List (Int × Int)) : List D := as.map fun p => .tup [.int p.1, .int p.2]
abbrev arrs (as : List (Int × Int)) : D := .tup (arrD as)
abbrev chartD (g : Str → Addr) (cs : List Int) (as : List (Int × Int)) : D := .ins (g "Chart") [("costs", tupI cs), ("arrows", arrs as)]
inductive Reach (as : List (Int × Int)) : Int → Prop
  | zero : Reach as 0
  | step {a b : Int} : Reach as a → (a, b) ∈ as → Reach as b
structure Good (cs : List Int) (as : List (Int × Int)) : Prop where
  n0 : 1 ≤ cs.length
  n1 : cs.length ≤ 16
  cost : ∀ c ∈ cs, 0 ≤ c ∧ c ≤ 1000000000
  a1 : as.length ≤ 32
  at_ : ∀ p ∈ as, 0 ≤ p.1 ∧ p.1 < cs.length ∧ 0 ≤ p.2 ∧ p.2 < cs.length
  all : ∀ i : Int, 0 ≤ i → i < cs.length → Reach as i
def F_reached_places (_ : PySem.W.Frag) (_ : Str → Addr) : DF := fun ds S Q _ => ∃ (n : Nat) (as : List (Int × Int)), ds = [.int n, arrs as] ∧ 1 ≤ n ∧ n ≤ 16 ∧ as.length ≤ 32 ∧ (∀ p ∈ as, 0 ≤ p.1 ∧ p.1 < n ∧ 0 ≤ p.2 ∧ p.2 < n) ∧ (∀ i : Int, 0 ≤ i → i < n → Reach as i) ∧
  Q (.lst (List.replicate n (.bl true))) S
def F_Chart__init (_ : PySem.W.Frag) (g : Str → Addr) : DF := fun ds S Q _ => ∃ x cs as, ds = [.raw x, tupI cs, arrs as] ∧ S x = some (.ins (g "Chart") []) ∧ Good cs as ∧
  Q .non (updS S x (.ins (g "Chart") [("costs", tupI cs), ("arrows", arrs as)]))
/-- what was known of the store is still so -/
def Fr (S S' : Sto) : Prop := ∀ x o, S x = some o → S' x = some o
abbrev intL (xs : List Int) : List D := xs.map D.int
/-- where an arrow ends, where it begins -/
def hdA (as : List (Int × Int)) (j : Int) : Int := (as.getD j.toNat (0, 0)).2
def tlA (as : List (Int × Int)) (j : Int) : Int := (as.getD j.toNat (0, 0)).1
/-- the arrows out of p among the first i -/
def outsN (as : List (Int × Int)) (p : Int) (i : Nat) : List Int := ((List.range i).map fun j : Nat => (j : Int)).filter fun j => decide (tlA as j = p)
def outs (as : List (Int × Int)) (p : Int) : List Int := outsN as p as.length
/-- the runs of l arrows from p on, behind run -/
def rf (as : List (Int × Int)) : Nat → List Int → Int → List (List Int)
  | 0, run, _ => [run]
  | l + 1, run, p => (outs as p).flatMap fun a => rf as l (run ++ [a]) (hdA as a)
def nodes (as : List (Int × Int)) : Nat → Int → Nat
  | 0, _ => 1
  | l + 1, p => 1 + ((outs as p).map fun a => nodes as l (hdA as a)).sum
/-- the ways to each place -/
def wStep (as : List (Int × Int)) (w : List Int) : List Int := as.foldl (fun m p => m.set p.2.toNat (m.getD p.2.toNat 0 + w.getD p.1.toNat 0)) (List.replicate w.length 0)
def wIter (as : List (Int × Int)) (n : Nat) : Nat → List Int
  | 0 => 1 :: List.replicate (n - 1) 0
  | l + 1 => wStep as (wIter as n l)
def cntW (as : List (Int × Int)) (n l : Nat) : Int := (wIter as n l).sum
/-- a run from p to e -/
inductive Wk (as : List (Int × Int)) : List Int → Int → Prop
  | nil : Wk as [] 0
  | snoc {r : List Int} {t a : Int} : Wk as r t → a ∈ outs as t → Wk as (r ++ [a]) (hdA as a)
/-- shorter, or as long and less -/
def rlt (r q : List Int) : Bool := ltP r.length r q.length q
structure Best (as : List (Int × Int)) (p : Int) (r : List Int) : Prop where
  wk : Wk as r p
  min : ∀ q, Wk as q p → q = r ∨ rlt r q = true
/-- a frozen thing that is odd or not -/
def F_check_place (_ : PySem.W.Frag) (g : Str → Addr) : DF := fun ds S Q E => ∃ cs as d, ds = [chartD g cs as, d] ∧ Good cs as ∧ (tyD S d).isSome = true ∧ (if wholeD 0 ((cs.length : Int) - 1) d = true then Q d S else E (g "BadPlace") [("place", d)] S)
def F_Chart_outs (_ : PySem.W.Frag) (g : Str → Addr) : DF := fun ds S Q _ => ∃ cs as p, ds = [chartD g cs as, .int p] ∧ Good cs as ∧ 0 ≤ p ∧ p < cs.length ∧ Q (tupI (outs as p)) S
def F_all_runs (_ : PySem.W.Frag) (g : Str → Addr) : DFG := fun ds S Q E => ∃ cs as d, ds = [chartD g cs as, d] ∧ Good cs as ∧ (tyD S d).isSome = true ∧
  (if wholeD 0 12 d = true then ∃ l : Nat, d = .int l ∧ nodes as l 0 < 16777216 ∧ Q ((rf as l [] 0).map tupI) S else E (g "BadLength") [("length", d)] S)
def F_count_runs (_ : PySem.W.Frag) (g : Str → Addr) : DF := fun ds S Q E => ∃ cs as d, ds = [chartD g cs as, d] ∧ Good cs as ∧ (tyD S d).isSome = true ∧
  (if wholeD 0 100 d = true then ∃ l : Nat, d = .int l ∧ Q (.int (cntW as cs.length l)) S else E (g "BadLength") [("length", d)] S)
def F_run_to (_ : PySem.W.Frag) (g : Str → Addr) : DF := fun ds S Q E => ∃ cs as d, ds = [chartD g cs as, d] ∧ Good cs as ∧ (tyD S d).isSome = true ∧
  (if wholeD 0 ((cs.length : Int) - 1) d = true then ∃ p : Int, d = .int p ∧ ∀ r, Best as p r → Q (tupI r) S else E (g "BadPlace") [("place", d)] S)

/-! ### the law's own defs -/
structure Vd (n : Int) (as : List (Int × Int)) : Prop where
  at_ : ∀ p ∈ as, 0 ≤ p.1 ∧ p.1 < n ∧ 0 ≤ p.2 ∧ p.2 < n
  all : ∀ i : Int, 0 ≤ i → i < n → Reach as i
def F_law_renumbered (_ : PySem.W.Frag) (_ : Str → Addr) : DF := fun ds S Q _ => ∃ (h : Addr) (n : Int) (as : List (Int × Int)), ds = [.raw h, .int n, .lst (arrD as)] ∧ Hand S h ∧ 1 ≤ n ∧ n ≤ 6 ∧ as.length ≤ 16 ∧ Vd n as ∧ ∀ as', as'.length = as.length → Vd n as' → Q (.lst (arrD as')) S
def F_law_costs (_ : PySem.W.Frag) (_ : Str → Addr) : DF := fun ds S Q _ => ∃ (h : Addr) (n : Int), ds = [.raw h, .int n] ∧ Hand S h ∧ 1 ≤ n ∧ n ≤ 6 ∧ ∀ cs : List Int, (cs.length : Int) = n → (∀ c ∈ cs, 0 ≤ c ∧ c ≤ 1000000000) → Q (.lst (cs.map D.int)) S
def F_law_chart (_ : PySem.W.Frag) (_ : Str → Addr) : DF := fun ds S Q _ => ∃ h, ds = [.raw h, .int 5, .int 5] ∧ Hand S h ∧ ∀ cs as, Good cs as → Q (.tup [tupI cs, arrs as]) S
def F_law_places (_ : PySem.W.Frag) (_ : Str → Addr) : DF := fun ds S Q _ => ∃ (cs : List Int) (as : List (Int × Int)) (run : List Int), ds = [arrs as, tupI run] ∧ Good cs as ∧ run.length ≤ 400 ∧ (∀ j ∈ run, 0 ≤ j ∧ j < as.length) ∧ Q (.lst (intL (0 :: run.map (hdA as)))) S
def okD : Nat → D → Bool
  | _, .int _ => true
  | _, .non => true
  | _, .str _ => true
  | n + 1, .tup xs => xs.all (okD n)
  | _, _ => false
def F_tupN (n : Nat) : DF := fun ds S Q _ => ∃ d, ds = [d] ∧ okD n d = true ∧ Q (.bl true) S
def F_law_tuples (_ : PySem.W.Frag) (_ : Str → Addr) : DF := F_tupN 2
structure OddD (n : Int) (d : D) : Prop where
  w : wholeD 0 (n - 1) d = false
  ty : ∀ S, (tyD S d).isSome = true
  sh : shp 59 d = true
  eq : eqD d d = true
  fz : ∀ S, frz S d = d
def F_law_odd (_ : PySem.W.Frag) (_ : Str → Addr) : DF := fun ds S Q _ => ∃ (h : Addr) (n : Int), ds = [.raw h, .int n] ∧ Hand S h ∧ 0 ≤ n ∧ n ≤ 128 ∧ ∀ d, OddD n d → Q d S
def F_law_best_runs (_ : PySem.W.Frag) (_ : Str → Addr) : DF := fun ds S Q _ => ∃ (cs : List Int) (as : List (Int × Int)), ds = [arrs as, .int cs.length] ∧ Good cs as ∧ ∀ bs : List (List Int), bs.length = cs.length → (∀ (i : Nat) (r : List Int), bs[i]? = some r → Best as i r) → Q (.lst (bs.map tupI)) S
def F_law_counts (_ : PySem.W.Frag) (_ : Str → Addr) : DF := fun ds S Q _ => ∃ (cs : List Int) (as : List (Int × Int)) (m : Nat), ds = [arrs as, .int cs.length, .int m] ∧ Good cs as ∧ m ≤ 100 ∧ Q (.lst (intL ((List.range (m + 1)).map (cntW as cs.length)))) S
def F_law_length_word (_ : PySem.W.Frag) (g : Str → Addr) : DF := fun ds S Q _ => ∃ cs as d w, ds = [chartD g cs as, d, .int w] ∧ Good cs as ∧ (tyD S d).isSome = true ∧ (w = 0 → wholeD 0 100 d = false) ∧ (w ≠ 0 → wholeD 0 12 d = false) ∧ Q (.lst [d]) S
def F_law_place_word (_ : PySem.W.Frag) (g : Str → Addr) : DF := fun ds S Q _ => ∃ cs as d, ds = [chartD g cs as, d] ∧ Good cs as ∧ (tyD S d).isSome = true ∧ wholeD 0 ((cs.length : Int) - 1) d = false ∧ Q (.lst [d]) S
def F_law (K : PySem.W.Frag) (_ : Str → Addr) : DF := fun ds S Q _ => ∃ (a : Addr) (cs : List Int), ds = [.raw a] ∧ IsScr K S a cs ∧ cs.length < 16777216 ∧ ∀ S', Q (.bl true) S'
end DL
end

section
set_option Elab.async false
set_option linter.all false
set_option maxRecDepth 100000
set_option maxHeartbeats 4000000
/-! The readings of the defs, and that each def has its reading. -/
namespace DL
open PySem PySem.Spec PyProof.Rows L2
def top (i : Nat) : Stmt := PySem.Challenge.pw_purseahead_k03_whole_all_runs_in_order.main.body.getD i (.Pass ⟨0, 0, 0, 0⟩)
abbrev inCls (s : Stmt) (j : Nat) : Stmt := inClass s j
abbrev st_is_whole : Stmt := top 7
abbrev N_is_whole : List Str := ["thing", "low", "high"]
abbrev ps_is_whole : List Str := ["thing", "low", "high"]
theorem sc_is_whole : FnScope N_is_whole ps_is_whole (defScope st_is_whole) := ⟨rfl, rfl, rfl, by decide +kernel, rfl, by decide +kernel, by decide +kernel⟩
abbrev FX_is_whole (P : Program) (w : World) (K : PySem.W.Frag) (mg : Str → Option Value) (base : Heap) (f : Addr) : Fm := BF P w K mg base N_is_whole "is_whole" (defScope st_is_whole) f 0
abbrev st_is_row : Stmt := top 8
abbrev N_is_row : List Str := ["thing", "least", "most"]
abbrev ps_is_row : List Str := ["thing", "least", "most"]
theorem sc_is_row : FnScope N_is_row ps_is_row (defScope st_is_row) := ⟨rfl, rfl, rfl, by decide +kernel, rfl, by decide +kernel, by decide +kernel⟩
abbrev FX_is_row (P : Program) (w : World) (K : PySem.W.Frag) (mg : Str → Option Value) (base : Heap) (f : Addr) : Fm := BF P w K mg base N_is_row "is_row" (defScope st_is_row) f 0
abbrev st_check_place : Stmt := top 10
abbrev N_check_place : List Str := ["chart", "place"]
abbrev ps_check_place : List Str := ["chart", "place"]
theorem sc_check_place : FnScope N_check_place ps_check_place (defScope st_check_place) := ⟨rfl, rfl, rfl, by decide +kernel, rfl, by decide +kernel, by decide +kernel⟩
abbrev FX_check_place (P : Program) (w : World) (K : PySem.W.Frag) (mg : Str → Option Value) (base : Heap) (f : Addr) : Fm := BF P w K mg base N_check_place "check_place" (defScope st_check_place) f 2
abbrev st_reached_places : Stmt := top 11
abbrev N_reached_places : List Str := ["many", "arrows", "place", "reached", "found", "tail", "head"]
abbrev ps_reached_places : List Str := ["many", "arrows"]
theorem sc_reached_places : FnScope N_reached_places ps_reached_places (defScope st_reached_places) := ⟨rfl, rfl, rfl, by decide +kernel, rfl, by decide +kernel, by decide +kernel⟩
abbrev bs_reached_places_0 : Scope := ({ kind := .function, names := [(".0", .local), ("place", .local)], isGenerator := false, isCoroutine := false } : Scope)
theorem blk_reached_places_0 : blkC N_reached_places (defScope st_reached_places) bs_reached_places_0 [("place", 2)] = true := by decide +kernel
abbrev FX_reached_places (P : Program) (w : World) (K : PySem.W.Frag) (mg : Str → Option Value) (base : Heap) (f : Addr) : Fm := BF P w K mg base N_reached_places "reached_places" (defScope st_reached_places) f 0
abbrev st_Chart__init : Stmt := inClass (top 12) 0
abbrev N_Chart__init : List Str := ["self", "costs", "arrows", "index", "cost", "last", "arrow", "place", "reached"]
abbrev ps_Chart__init : List Str := ["self", "costs", "arrows"]
theorem sc_Chart__init : FnScope N_Chart__init ps_Chart__init (defScope st_Chart__init) := ⟨rfl, rfl, rfl, by decide +kernel, rfl, by decide +kernel, by decide +kernel⟩
abbrev bs_Chart__init_0 : Scope := ({ kind := .function, names := [(".0", .local), ("arrow", .local), ("tuple", .globalImplicit)], isGenerator := false, isCoroutine := false } : Scope)
theorem blk_Chart__init_0 : blkC N_Chart__init (defScope st_Chart__init) bs_Chart__init_0 [("arrow", 6)] = true := by decide +kernel
abbrev FX_Chart__init (P : Program) (w : World) (K : PySem.W.Frag) (mg : Str → Option Value) (base : Heap) (f : Addr) : Fm := BF P w K mg base N_Chart__init "Chart.__init__" (defScope st_Chart__init) f 2
abbrev st_Chart_outs : Stmt := inClass (top 12) 2
abbrev N_Chart_outs : List Str := ["self", "place", "number", "arrow"]
abbrev ps_Chart_outs : List Str := ["self", "place"]
theorem sc_Chart_outs : FnScope N_Chart_outs ps_Chart_outs (defScope st_Chart_outs) := ⟨rfl, rfl, rfl, by decide +kernel, rfl, by decide +kernel, by decide +kernel⟩
abbrev bs_Chart_outs_0 : Scope := ({ kind := .function, names := [(".0", .local), ("number", .local), ("arrow", .local), ("place", .free)], isGenerator := false, isCoroutine := false } : Scope)
theorem blk_Chart_outs_0 : blkC N_Chart_outs (defScope st_Chart_outs) bs_Chart_outs_0 [("number", 2), ("arrow", 3)] = true := by decide +kernel
abbrev FX_Chart_outs (P : Program) (w : World) (K : PySem.W.Frag) (mg : Str → Option Value) (base : Heap) (f : Addr) : Fm := BF P w K mg base N_Chart_outs "Chart.outs" (defScope st_Chart_outs) f 3
abbrev st_all_runs : Stmt := top 14
abbrev N_all_runs : List Str := ["chart", "length", "waiting", "run", "place", "arrow"]
abbrev ps_all_runs : List Str := ["chart", "length"]
theorem sc_all_runs : GScope N_all_runs ps_all_runs (defScope st_all_runs) := ⟨rfl, rfl, rfl, by decide +kernel, rfl, by decide +kernel, by decide +kernel⟩
abbrev FX_all_runs (P : Program) (w : World) (K : PySem.W.Frag) (mg : Str → Option Value) (base : Heap) (f : Addr) : Fm := GF P w K mg base N_all_runs "all_runs" (defScope st_all_runs) f 4
abbrev st_count_runs : Stmt := top 15
abbrev N_count_runs : List Str := ["chart", "length", "ways", "_", "more", "tail", "head"]
abbrev ps_count_runs : List Str := ["chart", "length"]
theorem sc_count_runs : FnScope N_count_runs ps_count_runs (defScope st_count_runs) := ⟨rfl, rfl, rfl, by decide +kernel, rfl, by decide +kernel, by decide +kernel⟩
abbrev FX_count_runs (P : Program) (w : World) (K : PySem.W.Frag) (mg : Str → Option Value) (base : Heap) (f : Addr) : Fm := BF P w K mg base N_count_runs "count_runs" (defScope st_count_runs) f 2
abbrev st_run_to : Stmt := top 16
abbrev N_run_to : List Str := ["chart", "place", "known", "order", "at", "tail", "arrow", "head"]
abbrev ps_run_to : List Str := ["chart", "place"]
theorem sc_run_to : FnScope N_run_to ps_run_to (defScope st_run_to) := ⟨rfl, rfl, rfl, by decide +kernel, rfl, by decide +kernel, by decide +kernel⟩
abbrev FX_run_to (P : Program) (w : World) (K : PySem.W.Frag) (mg : Str → Option Value) (base : Heap) (f : Addr) : Fm := BF P w K mg base N_run_to "run_to" (defScope st_run_to) f 4
abbrev st_law_hand : Stmt := top 18
abbrev N_law_hand : List Str := ["_law_script", "_law_total", "_law_cells", "_law_cell"]
abbrev ps_law_hand : List Str := ["_law_script"]
theorem sc_law_hand : FnScope N_law_hand ps_law_hand (defScope st_law_hand) := ⟨rfl, rfl, rfl, by decide +kernel, rfl, by decide +kernel, by decide +kernel⟩
abbrev FX_law_hand (P : Program) (w : World) (K : PySem.W.Frag) (mg : Str → Option Value) (base : Heap) (f : Addr) : Fm := BF P w K mg base N_law_hand "_law_hand" (defScope st_law_hand) f 0
abbrev st_law_mixed : Stmt := top 19
abbrev N_law_mixed : List Str := ["_law_number", "_law_turn", "_law_once", "_law_twice"]
abbrev ps_law_mixed : List Str := ["_law_number", "_law_turn"]
theorem sc_law_mixed : FnScope N_law_mixed ps_law_mixed (defScope st_law_mixed) := ⟨rfl, rfl, rfl, by decide +kernel, rfl, by decide +kernel, by decide +kernel⟩
abbrev FX_law_mixed (P : Program) (w : World) (K : PySem.W.Frag) (mg : Str → Option Value) (base : Heap) (f : Addr) : Fm := BF P w K mg base N_law_mixed "_law_mixed" (defScope st_law_mixed) f 0
abbrev st_law_take : Stmt := top 20
abbrev N_law_take : List Str := ["_law_hand_here", "_law_many", "_law_cell", "_law_rest"]
abbrev ps_law_take : List Str := ["_law_hand_here", "_law_many"]
theorem sc_law_take : FnScope N_law_take ps_law_take (defScope st_law_take) := ⟨rfl, rfl, rfl, by decide +kernel, rfl, by decide +kernel, by decide +kernel⟩
abbrev FX_law_take (P : Program) (w : World) (K : PySem.W.Frag) (mg : Str → Option Value) (base : Heap) (f : Addr) : Fm := BF P w K mg base N_law_take "_law_take" (defScope st_law_take) f 1
abbrev st_law_renumbered : Stmt := top 22
abbrev N_law_renumbered : List Str := ["_law_hand_here", "_law_many", "_law_arrows", "_law_rest", "_law_names", "_law_step", "_law_tail", "_law_head"]
abbrev ps_law_renumbered : List Str := ["_law_hand_here", "_law_many", "_law_arrows"]
theorem sc_law_renumbered : FnScope N_law_renumbered ps_law_renumbered (defScope st_law_renumbered) := ⟨rfl, rfl, rfl, by decide +kernel, rfl, by decide +kernel, by decide +kernel⟩
abbrev bs_law_renumbered_0 : Scope := ({ kind := .function, names := [(".0", .local), ("_law_tail", .local), ("_law_head", .local), ("_law_names", .free)], isGenerator := false, isCoroutine := false } : Scope)
theorem blk_law_renumbered_0 : blkC N_law_renumbered (defScope st_law_renumbered) bs_law_renumbered_0 [("_law_tail", 6), ("_law_head", 7)] = true := by decide +kernel
abbrev FX_law_renumbered (P : Program) (w : World) (K : PySem.W.Frag) (mg : Str → Option Value) (base : Heap) (f : Addr) : Fm := BF P w K mg base N_law_renumbered "_law_renumbered" (defScope st_law_renumbered) f 2
abbrev st_law_costs : Stmt := top 23
abbrev N_law_costs : List Str := ["_law_hand_here", "_law_many", "_law_bound", "_law_place"]
abbrev ps_law_costs : List Str := ["_law_hand_here", "_law_many"]
theorem sc_law_costs : FnScope N_law_costs ps_law_costs (defScope st_law_costs) := ⟨rfl, rfl, rfl, by decide +kernel, rfl, by decide +kernel, by decide +kernel⟩
abbrev bs_law_costs_0 : Scope := ({ kind := .function, names := [(".0", .local), ("_law_place", .local), ("_law_take", .globalImplicit), ("_law_bound", .free), ("_law_hand_here", .free)], isGenerator := false, isCoroutine := false } : Scope)
theorem blk_law_costs_0 : blkC N_law_costs (defScope st_law_costs) bs_law_costs_0 [("_law_place", 3)] = true := by decide +kernel
abbrev FX_law_costs (P : Program) (w : World) (K : PySem.W.Frag) (mg : Str → Option Value) (base : Heap) (f : Addr) : Fm := BF P w K mg base N_law_costs "_law_costs" (defScope st_law_costs) f 2
abbrev st_law_chart : Stmt := top 21
abbrev N_law_chart : List Str := ["_law_hand_here", "_law_most", "_law_more", "_law_many", "_law_costs_here", "_law_arrows", "_law_head", "_law_tail", "_law_step", "_law_turn"]
abbrev ps_law_chart : List Str := ["_law_hand_here", "_law_most", "_law_more"]
theorem sc_law_chart : FnScope N_law_chart ps_law_chart (defScope st_law_chart) := ⟨rfl, rfl, rfl, by decide +kernel, rfl, by decide +kernel, by decide +kernel⟩
abbrev FX_law_chart (P : Program) (w : World) (K : PySem.W.Frag) (mg : Str → Option Value) (base : Heap) (f : Addr) : Fm := BF P w K mg base N_law_chart "_law_chart" (defScope st_law_chart) f 3
abbrev st_law_places : Stmt := top 24
abbrev N_law_places : List Str := ["_law_arrows", "_law_run", "_law_arrow"]
abbrev ps_law_places : List Str := ["_law_arrows", "_law_run"]
theorem sc_law_places : FnScope N_law_places ps_law_places (defScope st_law_places) := ⟨rfl, rfl, rfl, by decide +kernel, rfl, by decide +kernel, by decide +kernel⟩
abbrev bs_law_places_0 : Scope := ({ kind := .function, names := [(".0", .local), ("_law_arrow", .local), ("_law_arrows", .free)], isGenerator := false, isCoroutine := false } : Scope)
theorem blk_law_places_0 : blkC N_law_places (defScope st_law_places) bs_law_places_0 [("_law_arrow", 2)] = true := by decide +kernel
abbrev FX_law_places (P : Program) (w : World) (K : PySem.W.Frag) (mg : Str → Option Value) (base : Heap) (f : Addr) : Fm := BF P w K mg base N_law_places "_law_places" (defScope st_law_places) f 0
abbrev st_law_tuples : Stmt := top 25
abbrev N_law_tuples : List Str := ["_law_thing", "_law_item"]
abbrev ps_law_tuples : List Str := ["_law_thing"]
theorem sc_law_tuples : FnScope N_law_tuples ps_law_tuples (defScope st_law_tuples) := ⟨rfl, rfl, rfl, by decide +kernel, rfl, by decide +kernel, by decide +kernel⟩
abbrev bs_law_tuples_0 : Scope := ({ kind := .function, names := [(".0", .local), ("_law_item", .local), ("_law_tuples", .globalImplicit)], isGenerator := false, isCoroutine := false } : Scope)
theorem blk_law_tuples_0 : blkC N_law_tuples (defScope st_law_tuples) bs_law_tuples_0 [("_law_item", 1)] = true := by decide +kernel
abbrev FX_law_tuples (P : Program) (w : World) (K : PySem.W.Frag) (mg : Str → Option Value) (base : Heap) (f : Addr) (kk : Nat) : Fm := BF P w K mg base N_law_tuples "_law_tuples" (defScope st_law_tuples) f kk
abbrev st_law_odd : Stmt := top 26
abbrev N_law_odd : List Str := ["_law_hand_here", "_law_bound", "_law_kind"]
abbrev ps_law_odd : List Str := ["_law_hand_here", "_law_bound"]
theorem sc_law_odd : FnScope N_law_odd ps_law_odd (defScope st_law_odd) := ⟨rfl, rfl, rfl, by decide +kernel, rfl, by decide +kernel, by decide +kernel⟩
abbrev FX_law_odd (P : Program) (w : World) (K : PySem.W.Frag) (mg : Str → Option Value) (base : Heap) (f : Addr) : Fm := BF P w K mg base N_law_odd "_law_odd" (defScope st_law_odd) f 2
abbrev st_law_best_runs : Stmt := top 27
abbrev N_law_best_runs : List Str := ["_law_arrows", "_law_many", "_law_best", "_law_turn", "_law_arrow", "_law_tail", "_law_head", "_law_other"]
abbrev ps_law_best_runs : List Str := ["_law_arrows", "_law_many"]
theorem sc_law_best_runs : FnScope N_law_best_runs ps_law_best_runs (defScope st_law_best_runs) := ⟨rfl, rfl, rfl, by decide +kernel, rfl, by decide +kernel, by decide +kernel⟩
abbrev FX_law_best_runs (P : Program) (w : World) (K : PySem.W.Frag) (mg : Str → Option Value) (base : Heap) (f : Addr) : Fm := BF P w K mg base N_law_best_runs "_law_best_runs" (defScope st_law_best_runs) f 0
abbrev st_law_counts : Stmt := top 28
abbrev N_law_counts : List Str := ["_law_arrows", "_law_many", "_law_most", "_law_ways", "_law_counts_here", "_law_step", "_law_longer", "_law_tail", "_law_head"]
abbrev ps_law_counts : List Str := ["_law_arrows", "_law_many", "_law_most"]
theorem sc_law_counts : FnScope N_law_counts ps_law_counts (defScope st_law_counts) := ⟨rfl, rfl, rfl, by decide +kernel, rfl, by decide +kernel, by decide +kernel⟩
abbrev FX_law_counts (P : Program) (w : World) (K : PySem.W.Frag) (mg : Str → Option Value) (base : Heap) (f : Addr) : Fm := BF P w K mg base N_law_counts "_law_counts" (defScope st_law_counts) f 0
abbrev st_law_length_word : Stmt := top 29
abbrev N_law_length_word : List Str := ["_law_chart_here", "_law_length", "_law_way", "e"]
abbrev ps_law_length_word : List Str := ["_law_chart_here", "_law_length", "_law_way"]
theorem sc_law_length_word : FnScope N_law_length_word ps_law_length_word (defScope st_law_length_word) := ⟨rfl, rfl, rfl, by decide +kernel, rfl, by decide +kernel, by decide +kernel⟩
abbrev FX_law_length_word (P : Program) (w : World) (K : PySem.W.Frag) (mg : Str → Option Value) (base : Heap) (f : Addr) : Fm := BF P w K mg base N_law_length_word "_law_length_word" (defScope st_law_length_word) f 8
abbrev st_law_place_word : Stmt := top 30
abbrev N_law_place_word : List Str := ["_law_chart_here", "_law_place", "e"]
abbrev ps_law_place_word : List Str := ["_law_chart_here", "_law_place"]
theorem sc_law_place_word : FnScope N_law_place_word ps_law_place_word (defScope st_law_place_word) := ⟨rfl, rfl, rfl, by decide +kernel, rfl, by decide +kernel, by decide +kernel⟩
abbrev FX_law_place_word (P : Program) (w : World) (K : PySem.W.Frag) (mg : Str → Option Value) (base : Heap) (f : Addr) : Fm := BF P w K mg base N_law_place_word "_law_place_word" (defScope st_law_place_word) f 5
abbrev st_law : Stmt := top 31
abbrev N_law : List Str := ["_law_script", "_law_hand_here", "_law_costs_here", "_law_arrows", "_law_many", "_law_chart_here", "_law_counts_here", "_law_wanted", "_law_length", "_law_level", "_law_step", "_law_longer", "_law_run", "_law_place", "_law_told", "_law_far", "_law_best", "_law_odd_here", "_law_arrow"]
abbrev ps_law : List Str := ["_law_script"]
theorem sc_law : FnScope N_law ps_law (defScope st_law) := ⟨rfl, rfl, rfl, by decide +kernel, rfl, by decide +kernel, by decide +kernel⟩
abbrev bs_law_0 : Scope := ({ kind := .function, names := [(".0", .local), ("_law_arrow", .local), ("_law_arrows", .free), ("_law_place", .free), ("_law_run", .free)], isGenerator := false, isCoroutine := false } : Scope)
theorem blk_law_0 : blkC N_law (defScope st_law) bs_law_0 [("_law_arrow", 18)] = true := by decide +kernel
abbrev FX_law (P : Program) (w : World) (K : PySem.W.Frag) (mg : Str → Option Value) (base : Heap) (f : Addr) : Fm := BF P w K mg base N_law "law" (defScope st_law) f 9
section
variable {P : Program} {w : World} {K : PySem.W.Frag} {mg : Str → Option Value} {base : Heap} {g : Str → Addr}
/-- what is known of the module -/
structure Fx (P : Program) (w : World) (K : PySem.W.Frag) (mg : Str → Option Value) (base : Heap) (g : Str → Addr) : Prop where
  cls_Chart : Cls K (g "Chart")
  ex_BadChart : ExC P w K mg base "BadChart" (g "BadChart") ["what", "index"]
  ex_BadLength : ExC P w K mg base "BadLength" (g "BadLength") ["length"]
  ex_BadPlace : ExC P w K mg base "BadPlace" (g "BadPlace") ["place"]
  exm_BadLength : PySem.W.exmOne K (.ref (g "BadLength")) (.ref (g "BadLength")) = some true
  exm_BadPlace : PySem.W.exmOne K (.ref (g "BadPlace")) (.ref (g "BadPlace")) = some true
  g_BadLength : mg "BadLength" = some (.ref (g "BadLength"))
  g_BadPlace : mg "BadPlace" = some (.ref (g "BadPlace"))
  m_abs : mg "abs" = none
  m_bool : mg "bool" = none
  m_enumerate : mg "enumerate" = none
  m_int : mg "int" = none
  m_isinstance : mg "isinstance" = none
  m_len : mg "len" = none
  m_list : mg "list" = none
  m_range : mg "range" = none
  m_reversed : mg "reversed" = none
  m_str : mg "str" = none
  m_sum : mg "sum" = none
  m_tuple : mg "tuple" = none
  na_Chart_arrows : NoAttr K (g "Chart") "arrows"
  na_Chart_costs : NoAttr K (g "Chart") "costs"
  nf_BadLength_length : PySem.W.findIn K (.ref (g "BadLength")) "length" = some none
  nf_BadPlace_place : PySem.W.findIn K (.ref (g "BadPlace")) "place" = some none
  nos_BadLength : NoS K (.ref (g "BadLength"))
  xf_BadLength : XfC K (g "BadLength")
  xf_BadPlace : XfC K (g "BadPlace")
end
theorem lm0 : List.lookup ("int" : Str) (Scope.names (defScope st_is_whole)) = some NameKind.globalImplicit := by decide +kernel
theorem lm1 {P : Program} {w : World} {K : PySem.W.Frag} {mg : Str → Option Value} {base : Heap} {f : Addr} : ∀ k, Gl ((FX_is_whole P w K mg base f).X k) "int" := fun _ => lm0
theorem lm2 : ("int" : Str) ≠ "__name__" := by decide +kernel
theorem lm3 : (("int" : Str) == ("__debug__" : Str)) = false := by decide +kernel
theorem lm4 : List.lookup ("thing" : Str) (Scope.names (defScope st_is_whole)) = some NameKind.local := by decide +kernel
theorem lm5 {P : Program} {w : World} {K : PySem.W.Frag} {mg : Str → Option Value} {base : Heap} {f : Addr} : ∀ k, Vis ((FX_is_whole P w K mg base f).X k).env.scope "thing" := fun _ => Or.inl lm4
theorem lm6 : (("thing" : Str) == ("__debug__" : Str)) = false := by decide +kernel
theorem lm7 : (("thing" : Str) == ("__classdict__" : Str)) = false := by decide +kernel
theorem lm8 : List.lookup ("isinstance" : Str) (Scope.names (defScope st_is_whole)) = some NameKind.globalImplicit := by decide +kernel
theorem lm9 {P : Program} {w : World} {K : PySem.W.Frag} {mg : Str → Option Value} {base : Heap} {f : Addr} : ∀ k, Gl ((FX_is_whole P w K mg base f).X k) "isinstance" := fun _ => lm8
theorem lm10 : List.lookup ("bool" : Str) (Scope.names (defScope st_is_whole)) = some NameKind.globalImplicit := by decide +kernel
theorem lm11 {P : Program} {w : World} {K : PySem.W.Frag} {mg : Str → Option Value} {base : Heap} {f : Addr} : ∀ k, Gl ((FX_is_whole P w K mg base f).X k) "bool" := fun _ => lm10
theorem lm12 : ("bool" : Str) ≠ "__name__" := by decide +kernel
theorem lm13 : (("bool" : Str) == ("__debug__" : Str)) = false := by decide +kernel
theorem lm14 : List.lookup ("low" : Str) (Scope.names (defScope st_is_whole)) = some NameKind.local := by decide +kernel
theorem lm15 {P : Program} {w : World} {K : PySem.W.Frag} {mg : Str → Option Value} {base : Heap} {f : Addr} : ∀ k, Vis ((FX_is_whole P w K mg base f).X k).env.scope "low" := fun _ => Or.inl lm14
theorem lm16 : (("low" : Str) == ("__debug__" : Str)) = false := by decide +kernel
theorem lm17 : (("low" : Str) == ("__classdict__" : Str)) = false := by decide +kernel
theorem lm18 : List.lookup ("high" : Str) (Scope.names (defScope st_is_whole)) = some NameKind.local := by decide +kernel
theorem lm19 {P : Program} {w : World} {K : PySem.W.Frag} {mg : Str → Option Value} {base : Heap} {f : Addr} : ∀ k, Vis ((FX_is_whole P w K mg base f).X k).env.scope "high" := fun _ => Or.inl lm18
theorem lm20 : (("high" : Str) == ("__debug__" : Str)) = false := by decide +kernel
theorem lm21 : (("high" : Str) == ("__classdict__" : Str)) = false := by decide +kernel
theorem lm22 : List.lookup ("thing" : Str) (Scope.names (defScope st_is_row)) = some NameKind.local := by decide +kernel
theorem lm23 {P : Program} {w : World} {K : PySem.W.Frag} {mg : Str → Option Value} {base : Heap} {f : Addr} : ∀ k, Vis ((FX_is_row P w K mg base f).X k).env.scope "thing" := fun _ => Or.inl lm22
theorem lm24 : List.lookup ("tuple" : Str) (Scope.names (defScope st_is_row)) = some NameKind.globalImplicit := by decide +kernel
theorem lm25 {P : Program} {w : World} {K : PySem.W.Frag} {mg : Str → Option Value} {base : Heap} {f : Addr} : ∀ k, Gl ((FX_is_row P w K mg base f).X k) "tuple" := fun _ => lm24
theorem lm26 : ("tuple" : Str) ≠ "__name__" := by decide +kernel
theorem lm27 : (("tuple" : Str) == ("__debug__" : Str)) = false := by decide +kernel
theorem lm28 : List.lookup ("list" : Str) (Scope.names (defScope st_is_row)) = some NameKind.globalImplicit := by decide +kernel
theorem lm29 {P : Program} {w : World} {K : PySem.W.Frag} {mg : Str → Option Value} {base : Heap} {f : Addr} : ∀ k, Gl ((FX_is_row P w K mg base f).X k) "list" := fun _ => lm28
theorem lm30 : ("list" : Str) ≠ "__name__" := by decide +kernel
theorem lm31 : (("list" : Str) == ("__debug__" : Str)) = false := by decide +kernel
theorem lm32 : List.lookup ("isinstance" : Str) (Scope.names (defScope st_is_row)) = some NameKind.globalImplicit := by decide +kernel
theorem lm33 {P : Program} {w : World} {K : PySem.W.Frag} {mg : Str → Option Value} {base : Heap} {f : Addr} : ∀ k, Gl ((FX_is_row P w K mg base f).X k) "isinstance" := fun _ => lm32
theorem lm34 : List.lookup ("least" : Str) (Scope.names (defScope st_is_row)) = some NameKind.local := by decide +kernel
theorem lm35 {P : Program} {w : World} {K : PySem.W.Frag} {mg : Str → Option Value} {base : Heap} {f : Addr} : ∀ k, Vis ((FX_is_row P w K mg base f).X k).env.scope "least" := fun _ => Or.inl lm34
theorem lm36 : (("least" : Str) == ("__debug__" : Str)) = false := by decide +kernel
theorem lm37 : (("least" : Str) == ("__classdict__" : Str)) = false := by decide +kernel
theorem lm38 : List.lookup ("len" : Str) (Scope.names (defScope st_is_row)) = some NameKind.globalImplicit := by decide +kernel
theorem lm39 {P : Program} {w : World} {K : PySem.W.Frag} {mg : Str → Option Value} {base : Heap} {f : Addr} : ∀ k, Gl ((FX_is_row P w K mg base f).X k) "len" := fun _ => lm38
theorem lm40 : List.lookup ("most" : Str) (Scope.names (defScope st_is_row)) = some NameKind.local := by decide +kernel
theorem lm41 {P : Program} {w : World} {K : PySem.W.Frag} {mg : Str → Option Value} {base : Heap} {f : Addr} : ∀ k, Vis ((FX_is_row P w K mg base f).X k).env.scope "most" := fun _ => Or.inl lm40
theorem lm42 : (("most" : Str) == ("__debug__" : Str)) = false := by decide +kernel
theorem lm43 : (("most" : Str) == ("__classdict__" : Str)) = false := by decide +kernel
theorem lm44 : List.lookup ("place" : Str) (Scope.names (defScope st_check_place)) = some NameKind.local := by decide +kernel
theorem lm45 {P : Program} {w : World} {K : PySem.W.Frag} {mg : Str → Option Value} {base : Heap} {f : Addr} : ∀ k, Vis ((FX_check_place P w K mg base f).X k).env.scope "place" := fun _ => Or.inl lm44
theorem lm46 : (("place" : Str) == ("__debug__" : Str)) = false := by decide +kernel
theorem lm47 : (("place" : Str) == ("__classdict__" : Str)) = false := by decide +kernel
theorem lm48 : List.lookup ("chart" : Str) (Scope.names (defScope st_check_place)) = some NameKind.local := by decide +kernel
theorem lm49 {P : Program} {w : World} {K : PySem.W.Frag} {mg : Str → Option Value} {base : Heap} {f : Addr} : ∀ k, Vis ((FX_check_place P w K mg base f).X k).env.scope "chart" := fun _ => Or.inl lm48
theorem lm50 : (("chart" : Str) == ("__debug__" : Str)) = false := by decide +kernel
theorem lm51 : (("chart" : Str) == ("__classdict__" : Str)) = false := by decide +kernel
theorem lm52 : List.lookup ("len" : Str) (Scope.names (defScope st_check_place)) = some NameKind.globalImplicit := by decide +kernel
theorem lm53 {P : Program} {w : World} {K : PySem.W.Frag} {mg : Str → Option Value} {base : Heap} {f : Addr} : ∀ k, Gl ((FX_check_place P w K mg base f).X k) "len" := fun _ => lm52
theorem lm54 : List.lookup ("is_whole" : Str) (Scope.names (defScope st_check_place)) = some NameKind.globalImplicit := by decide +kernel
theorem lm55 {P : Program} {w : World} {K : PySem.W.Frag} {mg : Str → Option Value} {base : Heap} {f : Addr} : ∀ k, Gl ((FX_check_place P w K mg base f).X k) "is_whole" := fun _ => lm54
theorem lm56 : (("is_whole" : Str) == ("__debug__" : Str)) = false := by decide +kernel
theorem lm57 : List.lookup ("BadPlace" : Str) (Scope.names (defScope st_check_place)) = some NameKind.globalImplicit := by decide +kernel
theorem lm58 {P : Program} {w : World} {K : PySem.W.Frag} {mg : Str → Option Value} {base : Heap} {f : Addr} : ∀ k, Gl ((FX_check_place P w K mg base f).X k) "BadPlace" := fun _ => lm57
theorem lm59 : (("BadPlace" : Str) == ("__debug__" : Str)) = false := by decide +kernel
theorem lm60 : List.lookup ("reached" : Str) (Scope.names (defScope st_reached_places)) = some NameKind.local := by decide +kernel
theorem lm61 {P : Program} {w : World} {K : PySem.W.Frag} {mg : Str → Option Value} {base : Heap} {f : Addr} : ∀ k, Vis ((FX_reached_places P w K mg base f).X k).env.scope "reached" := fun _ => Or.inl lm60
theorem lm62 : (("reached" : Str) == ("__debug__" : Str)) = false := by decide +kernel
theorem lm63 : (("reached" : Str) == ("__classdict__" : Str)) = false := by decide +kernel
theorem lm64 : List.lookup ("found" : Str) (Scope.names (defScope st_reached_places)) = some NameKind.local := by decide +kernel
theorem lm65 {P : Program} {w : World} {K : PySem.W.Frag} {mg : Str → Option Value} {base : Heap} {f : Addr} : ∀ k, Vis ((FX_reached_places P w K mg base f).X k).env.scope "found" := fun _ => Or.inl lm64
theorem lm66 : (("found" : Str) == ("__debug__" : Str)) = false := by decide +kernel
theorem lm67 : (("found" : Str) == ("__classdict__" : Str)) = false := by decide +kernel
theorem lm68 : List.lookup ("arrows" : Str) (Scope.names (defScope st_reached_places)) = some NameKind.local := by decide +kernel
theorem lm69 {P : Program} {w : World} {K : PySem.W.Frag} {mg : Str → Option Value} {base : Heap} {f : Addr} : ∀ k, Vis ((FX_reached_places P w K mg base f).X k).env.scope "arrows" := fun _ => Or.inl lm68
theorem lm70 : (("arrows" : Str) == ("__debug__" : Str)) = false := by decide +kernel
theorem lm71 : (("arrows" : Str) == ("__classdict__" : Str)) = false := by decide +kernel
theorem lm72 : List.lookup ("head" : Str) (Scope.names (defScope st_reached_places)) = some NameKind.local := by decide +kernel
theorem lm73 {P : Program} {w : World} {K : PySem.W.Frag} {mg : Str → Option Value} {base : Heap} {f : Addr} : ∀ k, Loc ((FX_reached_places P w K mg base f).X k).env.scope "head" := fun _ => Or.inl lm72
theorem lm74 {P : Program} {w : World} {K : PySem.W.Frag} {mg : Str → Option Value} {base : Heap} {f : Addr} : ∀ k, ((FX_reached_places P w K mg base f).X k).fn "head" = true ∨ List.lookup ("head" : Str) ((FX_reached_places P w K mg base f).X k).env.scope.names = some NameKind.local := fun _ => Or.inr lm72
theorem lm75 : List.lookup ("tail" : Str) (Scope.names (defScope st_reached_places)) = some NameKind.local := by decide +kernel
theorem lm76 {P : Program} {w : World} {K : PySem.W.Frag} {mg : Str → Option Value} {base : Heap} {f : Addr} : ∀ k, Loc ((FX_reached_places P w K mg base f).X k).env.scope "tail" := fun _ => Or.inl lm75
theorem lm77 {P : Program} {w : World} {K : PySem.W.Frag} {mg : Str → Option Value} {base : Heap} {f : Addr} : ∀ k, ((FX_reached_places P w K mg base f).X k).fn "tail" = true ∨ List.lookup ("tail" : Str) ((FX_reached_places P w K mg base f).X k).env.scope.names = some NameKind.local := fun _ => Or.inr lm75
theorem lm78 {P : Program} {w : World} {K : PySem.W.Frag} {mg : Str → Option Value} {base : Heap} {f : Addr} : ∀ k, Vis ((FX_reached_places P w K mg base f).X k).env.scope "tail" := fun _ => Or.inl lm75
theorem lm79 : (("tail" : Str) == ("__debug__" : Str)) = false := by decide +kernel
theorem lm80 : (("tail" : Str) == ("__classdict__" : Str)) = false := by decide +kernel
theorem lm81 : List.lookup ("place" : Str) (Scope.names (defScope st_reached_places)) = some NameKind.local := by decide +kernel
theorem lm82 {P : Program} {w : World} {K : PySem.W.Frag} {mg : Str → Option Value} {base : Heap} {f : Addr} : ∀ k, Vis ((FX_reached_places P w K mg base f).X k).env.scope "place" := fun _ => Or.inl lm81
theorem lm83 {P : Program} {w : World} {K : PySem.W.Frag} {mg : Str → Option Value} {base : Heap} {f : Addr} : ∀ k, Vis ((FX_reached_places P w K mg base f).X k).env.scope "head" := fun _ => Or.inl lm72
theorem lm84 : (("head" : Str) == ("__debug__" : Str)) = false := by decide +kernel
theorem lm85 : (("head" : Str) == ("__classdict__" : Str)) = false := by decide +kernel
theorem lm86 {P : Program} {w : World} {K : PySem.W.Frag} {mg : Str → Option Value} {base : Heap} {f : Addr} : ∀ k, Loc ((FX_reached_places P w K mg base f).X k).env.scope "place" := fun _ => Or.inl lm81
theorem lm87 {P : Program} {w : World} {K : PySem.W.Frag} {mg : Str → Option Value} {base : Heap} {f : Addr} : ∀ k, ((FX_reached_places P w K mg base f).X k).fn "place" = true ∨ List.lookup ("place" : Str) ((FX_reached_places P w K mg base f).X k).env.scope.names = some NameKind.local := fun _ => Or.inr lm81
theorem lm88 {P : Program} {w : World} {K : PySem.W.Frag} {mg : Str → Option Value} {base : Heap} {f : Addr} : ∀ k, Loc ((FX_reached_places P w K mg base f).X k).env.scope "found" := fun _ => Or.inl lm64
theorem lm89 {P : Program} {w : World} {K : PySem.W.Frag} {mg : Str → Option Value} {base : Heap} {f : Addr} : ∀ k, ((FX_reached_places P w K mg base f).X k).fn "found" = true ∨ List.lookup ("found" : Str) ((FX_reached_places P w K mg base f).X k).env.scope.names = some NameKind.local := fun _ => Or.inr lm64
theorem lm90 : List.lookup ("many" : Str) (Scope.names (defScope st_reached_places)) = some NameKind.local := by decide +kernel
theorem lm91 {P : Program} {w : World} {K : PySem.W.Frag} {mg : Str → Option Value} {base : Heap} {f : Addr} : ∀ k, Vis ((FX_reached_places P w K mg base f).X k).env.scope "many" := fun _ => Or.inl lm90
theorem lm92 : (("many" : Str) == ("__debug__" : Str)) = false := by decide +kernel
theorem lm93 : (("many" : Str) == ("__classdict__" : Str)) = false := by decide +kernel
theorem lm94 : List.lookup ("range" : Str) (Scope.names (defScope st_reached_places)) = some NameKind.globalImplicit := by decide +kernel
theorem lm95 {P : Program} {w : World} {K : PySem.W.Frag} {mg : Str → Option Value} {base : Heap} {f : Addr} : ∀ k, Gl ((FX_reached_places P w K mg base f).X k) "range" := fun _ => lm94
theorem lm96 {P : Program} {w : World} {K : PySem.W.Frag} {mg : Str → Option Value} {base : Heap} {f : Addr} : ∀ k, Loc ((blkF (FX_reached_places P w K mg base f) bs_reached_places_0).X k).env.scope "place" := fun _ => Or.inl (by kernel_rfl)
theorem lm97 {P : Program} {w : World} {K : PySem.W.Frag} {mg : Str → Option Value} {base : Heap} {f : Addr} : ∀ k, ((blkF (FX_reached_places P w K mg base f) bs_reached_places_0).X k).fn "place" = true ∨ List.lookup ("place" : Str) ((blkF (FX_reached_places P w K mg base f) bs_reached_places_0).X k).env.scope.names = some NameKind.local := fun _ => Or.inr (by kernel_rfl)
theorem lm98 {P : Program} {w : World} {K : PySem.W.Frag} {mg : Str → Option Value} {base : Heap} {f : Addr} : ∀ k, Vis ((blkF (FX_reached_places P w K mg base f) bs_reached_places_0).X k).env.scope "place" := fun _ => Or.inl (by kernel_rfl)
theorem lm99 {P : Program} {w : World} {K : PySem.W.Frag} {mg : Str → Option Value} {base : Heap} {f : Addr} : ∀ k, List.lookup ("reached" : Str) ((FX_reached_places P w K mg base f).X k).env.scope.names = some NameKind.local := fun _ => lm60
theorem lm100 : List.lookup ("self" : Str) (Scope.names (defScope st_Chart__init)) = some NameKind.local := by decide +kernel
theorem lm101 {P : Program} {w : World} {K : PySem.W.Frag} {mg : Str → Option Value} {base : Heap} {f : Addr} : ∀ k, Vis ((FX_Chart__init P w K mg base f).X k).env.scope "self" := fun _ => Or.inl lm100
theorem lm102 : (("self" : Str) == ("__debug__" : Str)) = false := by decide +kernel
theorem lm103 : (("self" : Str) == ("__classdict__" : Str)) = false := by decide +kernel
theorem lm104 : List.lookup ("arrows" : Str) (Scope.names (defScope st_Chart__init)) = some NameKind.local := by decide +kernel
theorem lm105 {P : Program} {w : World} {K : PySem.W.Frag} {mg : Str → Option Value} {base : Heap} {f : Addr} : ∀ k, Vis ((FX_Chart__init P w K mg base f).X k).env.scope "arrows" := fun _ => Or.inl lm104
theorem lm106 {P : Program} {w : World} {K : PySem.W.Frag} {mg : Str → Option Value} {base : Heap} {f : Addr} : ∀ k, Loc ((blkF (FX_Chart__init P w K mg base f) bs_Chart__init_0).X k).env.scope "arrow" := fun _ => Or.inl (by kernel_rfl)
theorem lm107 {P : Program} {w : World} {K : PySem.W.Frag} {mg : Str → Option Value} {base : Heap} {f : Addr} : ∀ k, ((blkF (FX_Chart__init P w K mg base f) bs_Chart__init_0).X k).fn "arrow" = true ∨ List.lookup ("arrow" : Str) ((blkF (FX_Chart__init P w K mg base f) bs_Chart__init_0).X k).env.scope.names = some NameKind.local := fun _ => Or.inr (by kernel_rfl)
theorem lm108 {P : Program} {w : World} {K : PySem.W.Frag} {mg : Str → Option Value} {base : Heap} {f : Addr} : ∀ k, Vis ((blkF (FX_Chart__init P w K mg base f) bs_Chart__init_0).X k).env.scope "arrow" := fun _ => Or.inl (by kernel_rfl)
theorem lm109 : (("arrow" : Str) == ("__debug__" : Str)) = false := by decide +kernel
theorem lm110 : (("arrow" : Str) == ("__classdict__" : Str)) = false := by decide +kernel
theorem lm111 {P : Program} {w : World} {K : PySem.W.Frag} {mg : Str → Option Value} {base : Heap} {f : Addr} : ∀ k, Gl ((blkF (FX_Chart__init P w K mg base f) bs_Chart__init_0).X k) "tuple" := fun _ => (by unfold Gl; kernel_rfl)
theorem lm112 : List.lookup ("tuple" : Str) (Scope.names (defScope st_Chart__init)) = some NameKind.globalImplicit := by decide +kernel
theorem lm113 {P : Program} {w : World} {K : PySem.W.Frag} {mg : Str → Option Value} {base : Heap} {f : Addr} : ∀ k, Gl ((FX_Chart__init P w K mg base f).X k) "tuple" := fun _ => lm112
theorem lm114 : List.lookup ("costs" : Str) (Scope.names (defScope st_Chart__init)) = some NameKind.local := by decide +kernel
theorem lm115 {P : Program} {w : World} {K : PySem.W.Frag} {mg : Str → Option Value} {base : Heap} {f : Addr} : ∀ k, Vis ((FX_Chart__init P w K mg base f).X k).env.scope "costs" := fun _ => Or.inl lm114
theorem lm116 : (("costs" : Str) == ("__debug__" : Str)) = false := by decide +kernel
theorem lm117 : (("costs" : Str) == ("__classdict__" : Str)) = false := by decide +kernel
theorem lm118 : List.lookup ("len" : Str) (Scope.names (defScope st_Chart__init)) = some NameKind.globalImplicit := by decide +kernel
theorem lm119 {P : Program} {w : World} {K : PySem.W.Frag} {mg : Str → Option Value} {base : Heap} {f : Addr} : ∀ k, Gl ((FX_Chart__init P w K mg base f).X k) "len" := fun _ => lm118
theorem lm120 : List.lookup ("reached_places" : Str) (Scope.names (defScope st_Chart__init)) = some NameKind.globalImplicit := by decide +kernel
theorem lm121 {P : Program} {w : World} {K : PySem.W.Frag} {mg : Str → Option Value} {base : Heap} {f : Addr} : ∀ k, Gl ((FX_Chart__init P w K mg base f).X k) "reached_places" := fun _ => lm120
theorem lm122 : (("reached_places" : Str) == ("__debug__" : Str)) = false := by decide +kernel
theorem lm123 : List.lookup ("enumerate" : Str) (Scope.names (defScope st_Chart__init)) = some NameKind.globalImplicit := by decide +kernel
theorem lm124 {P : Program} {w : World} {K : PySem.W.Frag} {mg : Str → Option Value} {base : Heap} {f : Addr} : ∀ k, Gl ((FX_Chart__init P w K mg base f).X k) "enumerate" := fun _ => lm123
theorem lm125 : List.lookup ("reached" : Str) (Scope.names (defScope st_Chart__init)) = some NameKind.local := by decide +kernel
theorem lm126 {P : Program} {w : World} {K : PySem.W.Frag} {mg : Str → Option Value} {base : Heap} {f : Addr} : ∀ k, Loc ((FX_Chart__init P w K mg base f).X k).env.scope "reached" := fun _ => Or.inl lm125
theorem lm127 {P : Program} {w : World} {K : PySem.W.Frag} {mg : Str → Option Value} {base : Heap} {f : Addr} : ∀ k, ((FX_Chart__init P w K mg base f).X k).fn "reached" = true ∨ List.lookup ("reached" : Str) ((FX_Chart__init P w K mg base f).X k).env.scope.names = some NameKind.local := fun _ => Or.inr lm125
theorem lm128 : List.lookup ("place" : Str) (Scope.names (defScope st_Chart__init)) = some NameKind.local := by decide +kernel
theorem lm129 {P : Program} {w : World} {K : PySem.W.Frag} {mg : Str → Option Value} {base : Heap} {f : Addr} : ∀ k, Loc ((FX_Chart__init P w K mg base f).X k).env.scope "place" := fun _ => Or.inl lm128
theorem lm130 {P : Program} {w : World} {K : PySem.W.Frag} {mg : Str → Option Value} {base : Heap} {f : Addr} : ∀ k, ((FX_Chart__init P w K mg base f).X k).fn "place" = true ∨ List.lookup ("place" : Str) ((FX_Chart__init P w K mg base f).X k).env.scope.names = some NameKind.local := fun _ => Or.inr lm128
theorem lm131 {P : Program} {w : World} {K : PySem.W.Frag} {mg : Str → Option Value} {base : Heap} {f : Addr} : ∀ k, Vis ((FX_Chart__init P w K mg base f).X k).env.scope "reached" := fun _ => Or.inl lm125
theorem lm132 {P : Program} {w : World} {K : PySem.W.Frag} {mg : Str → Option Value} {base : Heap} {f : Addr} : ∀ k, Vis ((FX_Chart__init P w K mg base f).X k).env.scope "place" := fun _ => Or.inl lm128
theorem lm133 : List.lookup ("BadChart" : Str) (Scope.names (defScope st_Chart__init)) = some NameKind.globalImplicit := by decide +kernel
theorem lm134 {P : Program} {w : World} {K : PySem.W.Frag} {mg : Str → Option Value} {base : Heap} {f : Addr} : ∀ k, Gl ((FX_Chart__init P w K mg base f).X k) "BadChart" := fun _ => lm133
theorem lm135 : (("BadChart" : Str) == ("__debug__" : Str)) = false := by decide +kernel
theorem lm136 : List.lookup ("arrow" : Str) (Scope.names (defScope st_Chart__init)) = some NameKind.local := by decide +kernel
theorem lm137 {P : Program} {w : World} {K : PySem.W.Frag} {mg : Str → Option Value} {base : Heap} {f : Addr} : ∀ k, Loc ((FX_Chart__init P w K mg base f).X k).env.scope "arrow" := fun _ => Or.inl lm136
theorem lm138 {P : Program} {w : World} {K : PySem.W.Frag} {mg : Str → Option Value} {base : Heap} {f : Addr} : ∀ k, ((FX_Chart__init P w K mg base f).X k).fn "arrow" = true ∨ List.lookup ("arrow" : Str) ((FX_Chart__init P w K mg base f).X k).env.scope.names = some NameKind.local := fun _ => Or.inr lm136
theorem lm139 : List.lookup ("index" : Str) (Scope.names (defScope st_Chart__init)) = some NameKind.local := by decide +kernel
theorem lm140 {P : Program} {w : World} {K : PySem.W.Frag} {mg : Str → Option Value} {base : Heap} {f : Addr} : ∀ k, Loc ((FX_Chart__init P w K mg base f).X k).env.scope "index" := fun _ => Or.inl lm139
theorem lm141 {P : Program} {w : World} {K : PySem.W.Frag} {mg : Str → Option Value} {base : Heap} {f : Addr} : ∀ k, ((FX_Chart__init P w K mg base f).X k).fn "index" = true ∨ List.lookup ("index" : Str) ((FX_Chart__init P w K mg base f).X k).env.scope.names = some NameKind.local := fun _ => Or.inr lm139
theorem lm142 {P : Program} {w : World} {K : PySem.W.Frag} {mg : Str → Option Value} {base : Heap} {f : Addr} : ∀ k, Vis ((FX_Chart__init P w K mg base f).X k).env.scope "arrow" := fun _ => Or.inl lm136
theorem lm143 : List.lookup ("is_row" : Str) (Scope.names (defScope st_Chart__init)) = some NameKind.globalImplicit := by decide +kernel
theorem lm144 {P : Program} {w : World} {K : PySem.W.Frag} {mg : Str → Option Value} {base : Heap} {f : Addr} : ∀ k, Gl ((FX_Chart__init P w K mg base f).X k) "is_row" := fun _ => lm143
theorem lm145 : (("is_row" : Str) == ("__debug__" : Str)) = false := by decide +kernel
theorem lm146 : List.lookup ("last" : Str) (Scope.names (defScope st_Chart__init)) = some NameKind.local := by decide +kernel
theorem lm147 {P : Program} {w : World} {K : PySem.W.Frag} {mg : Str → Option Value} {base : Heap} {f : Addr} : ∀ k, Vis ((FX_Chart__init P w K mg base f).X k).env.scope "last" := fun _ => Or.inl lm146
theorem lm148 : (("last" : Str) == ("__debug__" : Str)) = false := by decide +kernel
theorem lm149 : (("last" : Str) == ("__classdict__" : Str)) = false := by decide +kernel
theorem lm150 : List.lookup ("is_whole" : Str) (Scope.names (defScope st_Chart__init)) = some NameKind.globalImplicit := by decide +kernel
theorem lm151 {P : Program} {w : World} {K : PySem.W.Frag} {mg : Str → Option Value} {base : Heap} {f : Addr} : ∀ k, Gl ((FX_Chart__init P w K mg base f).X k) "is_whole" := fun _ => lm150
theorem lm152 {P : Program} {w : World} {K : PySem.W.Frag} {mg : Str → Option Value} {base : Heap} {f : Addr} : ∀ k, Vis ((FX_Chart__init P w K mg base f).X k).env.scope "index" := fun _ => Or.inl lm139
theorem lm153 : (("index" : Str) == ("__debug__" : Str)) = false := by decide +kernel
theorem lm154 : (("index" : Str) == ("__classdict__" : Str)) = false := by decide +kernel
theorem lm155 {P : Program} {w : World} {K : PySem.W.Frag} {mg : Str → Option Value} {base : Heap} {f : Addr} : ∀ k, Loc ((FX_Chart__init P w K mg base f).X k).env.scope "last" := fun _ => Or.inl lm146
theorem lm156 {P : Program} {w : World} {K : PySem.W.Frag} {mg : Str → Option Value} {base : Heap} {f : Addr} : ∀ k, ((FX_Chart__init P w K mg base f).X k).fn "last" = true ∨ List.lookup ("last" : Str) ((FX_Chart__init P w K mg base f).X k).env.scope.names = some NameKind.local := fun _ => Or.inr lm146
theorem lm157 : List.lookup ("cost" : Str) (Scope.names (defScope st_Chart__init)) = some NameKind.local := by decide +kernel
theorem lm158 {P : Program} {w : World} {K : PySem.W.Frag} {mg : Str → Option Value} {base : Heap} {f : Addr} : ∀ k, Loc ((FX_Chart__init P w K mg base f).X k).env.scope "cost" := fun _ => Or.inl lm157
theorem lm159 {P : Program} {w : World} {K : PySem.W.Frag} {mg : Str → Option Value} {base : Heap} {f : Addr} : ∀ k, ((FX_Chart__init P w K mg base f).X k).fn "cost" = true ∨ List.lookup ("cost" : Str) ((FX_Chart__init P w K mg base f).X k).env.scope.names = some NameKind.local := fun _ => Or.inr lm157
theorem lm160 {P : Program} {w : World} {K : PySem.W.Frag} {mg : Str → Option Value} {base : Heap} {f : Addr} : ∀ k, Vis ((FX_Chart__init P w K mg base f).X k).env.scope "cost" := fun _ => Or.inl lm157
theorem lm161 : (("cost" : Str) == ("__debug__" : Str)) = false := by decide +kernel
theorem lm162 : (("cost" : Str) == ("__classdict__" : Str)) = false := by decide +kernel
theorem lm163 : List.lookup ("self" : Str) (Scope.names (defScope st_Chart_outs)) = some NameKind.local := by decide +kernel
theorem lm164 {P : Program} {w : World} {K : PySem.W.Frag} {mg : Str → Option Value} {base : Heap} {f : Addr} : ∀ k, Vis ((FX_Chart_outs P w K mg base f).X k).env.scope "self" := fun _ => Or.inl lm163
theorem lm165 : List.lookup ("enumerate" : Str) (Scope.names (defScope st_Chart_outs)) = some NameKind.globalImplicit := by decide +kernel
theorem lm166 {P : Program} {w : World} {K : PySem.W.Frag} {mg : Str → Option Value} {base : Heap} {f : Addr} : ∀ k, Gl ((FX_Chart_outs P w K mg base f).X k) "enumerate" := fun _ => lm165
theorem lm167 {P : Program} {w : World} {K : PySem.W.Frag} {mg : Str → Option Value} {base : Heap} {f : Addr} : ∀ k, Loc ((blkF (FX_Chart_outs P w K mg base f) bs_Chart_outs_0).X k).env.scope "arrow" := fun _ => Or.inl (by kernel_rfl)
theorem lm168 {P : Program} {w : World} {K : PySem.W.Frag} {mg : Str → Option Value} {base : Heap} {f : Addr} : ∀ k, ((blkF (FX_Chart_outs P w K mg base f) bs_Chart_outs_0).X k).fn "arrow" = true ∨ List.lookup ("arrow" : Str) ((blkF (FX_Chart_outs P w K mg base f) bs_Chart_outs_0).X k).env.scope.names = some NameKind.local := fun _ => Or.inr (by kernel_rfl)
theorem lm169 {P : Program} {w : World} {K : PySem.W.Frag} {mg : Str → Option Value} {base : Heap} {f : Addr} : ∀ k, Loc ((blkF (FX_Chart_outs P w K mg base f) bs_Chart_outs_0).X k).env.scope "number" := fun _ => Or.inl (by kernel_rfl)
theorem lm170 {P : Program} {w : World} {K : PySem.W.Frag} {mg : Str → Option Value} {base : Heap} {f : Addr} : ∀ k, ((blkF (FX_Chart_outs P w K mg base f) bs_Chart_outs_0).X k).fn "number" = true ∨ List.lookup ("number" : Str) ((blkF (FX_Chart_outs P w K mg base f) bs_Chart_outs_0).X k).env.scope.names = some NameKind.local := fun _ => Or.inr (by kernel_rfl)
theorem lm171 {P : Program} {w : World} {K : PySem.W.Frag} {mg : Str → Option Value} {base : Heap} {f : Addr} : ∀ k, Vis ((blkF (FX_Chart_outs P w K mg base f) bs_Chart_outs_0).X k).env.scope "arrow" := fun _ => Or.inl (by kernel_rfl)
theorem lm172 {P : Program} {w : World} {K : PySem.W.Frag} {mg : Str → Option Value} {base : Heap} {f : Addr} : ∀ k, Vis ((blkF (FX_Chart_outs P w K mg base f) bs_Chart_outs_0).X k).env.scope "place" := fun _ => Or.inr (Or.inl (by kernel_rfl))
theorem lm173 {P : Program} {w : World} {K : PySem.W.Frag} {mg : Str → Option Value} {base : Heap} {f : Addr} : ∀ k, Vis ((blkF (FX_Chart_outs P w K mg base f) bs_Chart_outs_0).X k).env.scope "number" := fun _ => Or.inl (by kernel_rfl)
theorem lm174 : (("number" : Str) == ("__debug__" : Str)) = false := by decide +kernel
theorem lm175 : (("number" : Str) == ("__classdict__" : Str)) = false := by decide +kernel
theorem lm176 : List.lookup ("tuple" : Str) (Scope.names (defScope st_Chart_outs)) = some NameKind.globalImplicit := by decide +kernel
theorem lm177 {P : Program} {w : World} {K : PySem.W.Frag} {mg : Str → Option Value} {base : Heap} {f : Addr} : ∀ k, Gl ((FX_Chart_outs P w K mg base f).X k) "tuple" := fun _ => lm176
theorem lm178 : List.lookup ("place" : Str) (Scope.names (defScope st_Chart_outs)) = some NameKind.cell := by decide +kernel
theorem lm179 {P : Program} {w : World} {K : PySem.W.Frag} {mg : Str → Option Value} {base : Heap} {f : Addr} : ∀ k, Vis ((FX_Chart_outs P w K mg base f).X k).env.scope "place" := fun _ => Or.inr (Or.inl lm178)
theorem lm180 : List.lookup ("check_place" : Str) (Scope.names (defScope st_Chart_outs)) = some NameKind.globalImplicit := by decide +kernel
theorem lm181 {P : Program} {w : World} {K : PySem.W.Frag} {mg : Str → Option Value} {base : Heap} {f : Addr} : ∀ k, Gl ((FX_Chart_outs P w K mg base f).X k) "check_place" := fun _ => lm180
theorem lm182 : (("check_place" : Str) == ("__debug__" : Str)) = false := by decide +kernel
theorem lm183 : List.lookup ("waiting" : Str) (Scope.names (defScope st_all_runs)) = some NameKind.local := by decide +kernel
theorem lm184 {P : Program} {w : World} {K : PySem.W.Frag} {mg : Str → Option Value} {base : Heap} {f : Addr} : ∀ k, Vis ((FX_all_runs P w K mg base f).X k).env.scope "waiting" := fun _ => Or.inl lm183
theorem lm185 : (("waiting" : Str) == ("__debug__" : Str)) = false := by decide +kernel
theorem lm186 : (("waiting" : Str) == ("__classdict__" : Str)) = false := by decide +kernel
theorem lm187 : List.lookup ("run" : Str) (Scope.names (defScope st_all_runs)) = some NameKind.local := by decide +kernel
theorem lm188 {P : Program} {w : World} {K : PySem.W.Frag} {mg : Str → Option Value} {base : Heap} {f : Addr} : ∀ k, Vis ((FX_all_runs P w K mg base f).X k).env.scope "run" := fun _ => Or.inl lm187
theorem lm189 : (("run" : Str) == ("__debug__" : Str)) = false := by decide +kernel
theorem lm190 : (("run" : Str) == ("__classdict__" : Str)) = false := by decide +kernel
theorem lm191 : List.lookup ("len" : Str) (Scope.names (defScope st_all_runs)) = some NameKind.globalImplicit := by decide +kernel
theorem lm192 {P : Program} {w : World} {K : PySem.W.Frag} {mg : Str → Option Value} {base : Heap} {f : Addr} : ∀ k, Gl ((FX_all_runs P w K mg base f).X k) "len" := fun _ => lm191
theorem lm193 : List.lookup ("length" : Str) (Scope.names (defScope st_all_runs)) = some NameKind.local := by decide +kernel
theorem lm194 {P : Program} {w : World} {K : PySem.W.Frag} {mg : Str → Option Value} {base : Heap} {f : Addr} : ∀ k, Vis ((FX_all_runs P w K mg base f).X k).env.scope "length" := fun _ => Or.inl lm193
theorem lm195 : (("length" : Str) == ("__debug__" : Str)) = false := by decide +kernel
theorem lm196 : (("length" : Str) == ("__classdict__" : Str)) = false := by decide +kernel
theorem lm197 : List.lookup ("chart" : Str) (Scope.names (defScope st_all_runs)) = some NameKind.local := by decide +kernel
theorem lm198 {P : Program} {w : World} {K : PySem.W.Frag} {mg : Str → Option Value} {base : Heap} {f : Addr} : ∀ k, Vis ((FX_all_runs P w K mg base f).X k).env.scope "chart" := fun _ => Or.inl lm197
theorem lm199 : List.lookup ("place" : Str) (Scope.names (defScope st_all_runs)) = some NameKind.local := by decide +kernel
theorem lm200 {P : Program} {w : World} {K : PySem.W.Frag} {mg : Str → Option Value} {base : Heap} {f : Addr} : ∀ k, Vis ((FX_all_runs P w K mg base f).X k).env.scope "place" := fun _ => Or.inl lm199
theorem lm201 : List.lookup ("reversed" : Str) (Scope.names (defScope st_all_runs)) = some NameKind.globalImplicit := by decide +kernel
theorem lm202 {P : Program} {w : World} {K : PySem.W.Frag} {mg : Str → Option Value} {base : Heap} {f : Addr} : ∀ k, Gl ((FX_all_runs P w K mg base f).X k) "reversed" := fun _ => lm201
theorem lm203 : List.lookup ("arrow" : Str) (Scope.names (defScope st_all_runs)) = some NameKind.local := by decide +kernel
theorem lm204 {P : Program} {w : World} {K : PySem.W.Frag} {mg : Str → Option Value} {base : Heap} {f : Addr} : ∀ k, Loc ((FX_all_runs P w K mg base f).X k).env.scope "arrow" := fun _ => Or.inl lm203
theorem lm205 {P : Program} {w : World} {K : PySem.W.Frag} {mg : Str → Option Value} {base : Heap} {f : Addr} : ∀ k, ((FX_all_runs P w K mg base f).X k).fn "arrow" = true ∨ List.lookup ("arrow" : Str) ((FX_all_runs P w K mg base f).X k).env.scope.names = some NameKind.local := fun _ => Or.inr lm203
theorem lm206 {P : Program} {w : World} {K : PySem.W.Frag} {mg : Str → Option Value} {base : Heap} {f : Addr} : ∀ k, Vis ((FX_all_runs P w K mg base f).X k).env.scope "arrow" := fun _ => Or.inl lm203
theorem lm207 {P : Program} {w : World} {K : PySem.W.Frag} {mg : Str → Option Value} {base : Heap} {f : Addr} : ∀ k, Loc ((FX_all_runs P w K mg base f).X k).env.scope "place" := fun _ => Or.inl lm199
theorem lm208 {P : Program} {w : World} {K : PySem.W.Frag} {mg : Str → Option Value} {base : Heap} {f : Addr} : ∀ k, ((FX_all_runs P w K mg base f).X k).fn "place" = true ∨ List.lookup ("place" : Str) ((FX_all_runs P w K mg base f).X k).env.scope.names = some NameKind.local := fun _ => Or.inr lm199
theorem lm209 {P : Program} {w : World} {K : PySem.W.Frag} {mg : Str → Option Value} {base : Heap} {f : Addr} : ∀ k, Loc ((FX_all_runs P w K mg base f).X k).env.scope "run" := fun _ => Or.inl lm187
theorem lm210 {P : Program} {w : World} {K : PySem.W.Frag} {mg : Str → Option Value} {base : Heap} {f : Addr} : ∀ k, ((FX_all_runs P w K mg base f).X k).fn "run" = true ∨ List.lookup ("run" : Str) ((FX_all_runs P w K mg base f).X k).env.scope.names = some NameKind.local := fun _ => Or.inr lm187
theorem lm211 {P : Program} {w : World} {K : PySem.W.Frag} {mg : Str → Option Value} {base : Heap} {f : Addr} : ∀ k, Loc ((FX_all_runs P w K mg base f).X k).env.scope "waiting" := fun _ => Or.inl lm183
theorem lm212 {P : Program} {w : World} {K : PySem.W.Frag} {mg : Str → Option Value} {base : Heap} {f : Addr} : ∀ k, ((FX_all_runs P w K mg base f).X k).fn "waiting" = true ∨ List.lookup ("waiting" : Str) ((FX_all_runs P w K mg base f).X k).env.scope.names = some NameKind.local := fun _ => Or.inr lm183
theorem lm213 : List.lookup ("is_whole" : Str) (Scope.names (defScope st_all_runs)) = some NameKind.globalImplicit := by decide +kernel
theorem lm214 {P : Program} {w : World} {K : PySem.W.Frag} {mg : Str → Option Value} {base : Heap} {f : Addr} : ∀ k, Gl ((FX_all_runs P w K mg base f).X k) "is_whole" := fun _ => lm213
theorem lm215 : List.lookup ("BadLength" : Str) (Scope.names (defScope st_all_runs)) = some NameKind.globalImplicit := by decide +kernel
theorem lm216 {P : Program} {w : World} {K : PySem.W.Frag} {mg : Str → Option Value} {base : Heap} {f : Addr} : ∀ k, Gl ((FX_all_runs P w K mg base f).X k) "BadLength" := fun _ => lm215
theorem lm217 : (("BadLength" : Str) == ("__debug__" : Str)) = false := by decide +kernel
theorem lm218 : List.lookup ("ways" : Str) (Scope.names (defScope st_count_runs)) = some NameKind.local := by decide +kernel
theorem lm219 {P : Program} {w : World} {K : PySem.W.Frag} {mg : Str → Option Value} {base : Heap} {f : Addr} : ∀ k, Vis ((FX_count_runs P w K mg base f).X k).env.scope "ways" := fun _ => Or.inl lm218
theorem lm220 : (("ways" : Str) == ("__debug__" : Str)) = false := by decide +kernel
theorem lm221 : (("ways" : Str) == ("__classdict__" : Str)) = false := by decide +kernel
theorem lm222 : List.lookup ("sum" : Str) (Scope.names (defScope st_count_runs)) = some NameKind.globalImplicit := by decide +kernel
theorem lm223 {P : Program} {w : World} {K : PySem.W.Frag} {mg : Str → Option Value} {base : Heap} {f : Addr} : ∀ k, Gl ((FX_count_runs P w K mg base f).X k) "sum" := fun _ => lm222
theorem lm224 : List.lookup ("length" : Str) (Scope.names (defScope st_count_runs)) = some NameKind.local := by decide +kernel
theorem lm225 {P : Program} {w : World} {K : PySem.W.Frag} {mg : Str → Option Value} {base : Heap} {f : Addr} : ∀ k, Vis ((FX_count_runs P w K mg base f).X k).env.scope "length" := fun _ => Or.inl lm224
theorem lm226 : List.lookup ("range" : Str) (Scope.names (defScope st_count_runs)) = some NameKind.globalImplicit := by decide +kernel
theorem lm227 {P : Program} {w : World} {K : PySem.W.Frag} {mg : Str → Option Value} {base : Heap} {f : Addr} : ∀ k, Gl ((FX_count_runs P w K mg base f).X k) "range" := fun _ => lm226
theorem lm228 : List.lookup ("_" : Str) (Scope.names (defScope st_count_runs)) = some NameKind.local := by decide +kernel
theorem lm229 {P : Program} {w : World} {K : PySem.W.Frag} {mg : Str → Option Value} {base : Heap} {f : Addr} : ∀ k, Loc ((FX_count_runs P w K mg base f).X k).env.scope "_" := fun _ => Or.inl lm228
theorem lm230 {P : Program} {w : World} {K : PySem.W.Frag} {mg : Str → Option Value} {base : Heap} {f : Addr} : ∀ k, ((FX_count_runs P w K mg base f).X k).fn "_" = true ∨ List.lookup ("_" : Str) ((FX_count_runs P w K mg base f).X k).env.scope.names = some NameKind.local := fun _ => Or.inr lm228
theorem lm231 : List.lookup ("more" : Str) (Scope.names (defScope st_count_runs)) = some NameKind.local := by decide +kernel
theorem lm232 {P : Program} {w : World} {K : PySem.W.Frag} {mg : Str → Option Value} {base : Heap} {f : Addr} : ∀ k, Vis ((FX_count_runs P w K mg base f).X k).env.scope "more" := fun _ => Or.inl lm231
theorem lm233 : (("more" : Str) == ("__debug__" : Str)) = false := by decide +kernel
theorem lm234 : (("more" : Str) == ("__classdict__" : Str)) = false := by decide +kernel
theorem lm235 {P : Program} {w : World} {K : PySem.W.Frag} {mg : Str → Option Value} {base : Heap} {f : Addr} : ∀ k, Loc ((FX_count_runs P w K mg base f).X k).env.scope "ways" := fun _ => Or.inl lm218
theorem lm236 {P : Program} {w : World} {K : PySem.W.Frag} {mg : Str → Option Value} {base : Heap} {f : Addr} : ∀ k, ((FX_count_runs P w K mg base f).X k).fn "ways" = true ∨ List.lookup ("ways" : Str) ((FX_count_runs P w K mg base f).X k).env.scope.names = some NameKind.local := fun _ => Or.inr lm218
theorem lm237 : List.lookup ("chart" : Str) (Scope.names (defScope st_count_runs)) = some NameKind.local := by decide +kernel
theorem lm238 {P : Program} {w : World} {K : PySem.W.Frag} {mg : Str → Option Value} {base : Heap} {f : Addr} : ∀ k, Vis ((FX_count_runs P w K mg base f).X k).env.scope "chart" := fun _ => Or.inl lm237
theorem lm239 : List.lookup ("head" : Str) (Scope.names (defScope st_count_runs)) = some NameKind.local := by decide +kernel
theorem lm240 {P : Program} {w : World} {K : PySem.W.Frag} {mg : Str → Option Value} {base : Heap} {f : Addr} : ∀ k, Loc ((FX_count_runs P w K mg base f).X k).env.scope "head" := fun _ => Or.inl lm239
theorem lm241 {P : Program} {w : World} {K : PySem.W.Frag} {mg : Str → Option Value} {base : Heap} {f : Addr} : ∀ k, ((FX_count_runs P w K mg base f).X k).fn "head" = true ∨ List.lookup ("head" : Str) ((FX_count_runs P w K mg base f).X k).env.scope.names = some NameKind.local := fun _ => Or.inr lm239
theorem lm242 : List.lookup ("tail" : Str) (Scope.names (defScope st_count_runs)) = some NameKind.local := by decide +kernel
theorem lm243 {P : Program} {w : World} {K : PySem.W.Frag} {mg : Str → Option Value} {base : Heap} {f : Addr} : ∀ k, Loc ((FX_count_runs P w K mg base f).X k).env.scope "tail" := fun _ => Or.inl lm242
theorem lm244 {P : Program} {w : World} {K : PySem.W.Frag} {mg : Str → Option Value} {base : Heap} {f : Addr} : ∀ k, ((FX_count_runs P w K mg base f).X k).fn "tail" = true ∨ List.lookup ("tail" : Str) ((FX_count_runs P w K mg base f).X k).env.scope.names = some NameKind.local := fun _ => Or.inr lm242
theorem lm245 {P : Program} {w : World} {K : PySem.W.Frag} {mg : Str → Option Value} {base : Heap} {f : Addr} : ∀ k, Vis ((FX_count_runs P w K mg base f).X k).env.scope "head" := fun _ => Or.inl lm239
theorem lm246 {P : Program} {w : World} {K : PySem.W.Frag} {mg : Str → Option Value} {base : Heap} {f : Addr} : ∀ k, Vis ((FX_count_runs P w K mg base f).X k).env.scope "tail" := fun _ => Or.inl lm242
theorem lm247 : List.lookup ("len" : Str) (Scope.names (defScope st_count_runs)) = some NameKind.globalImplicit := by decide +kernel
theorem lm248 {P : Program} {w : World} {K : PySem.W.Frag} {mg : Str → Option Value} {base : Heap} {f : Addr} : ∀ k, Gl ((FX_count_runs P w K mg base f).X k) "len" := fun _ => lm247
theorem lm249 {P : Program} {w : World} {K : PySem.W.Frag} {mg : Str → Option Value} {base : Heap} {f : Addr} : ∀ k, Loc ((FX_count_runs P w K mg base f).X k).env.scope "more" := fun _ => Or.inl lm231
theorem lm250 {P : Program} {w : World} {K : PySem.W.Frag} {mg : Str → Option Value} {base : Heap} {f : Addr} : ∀ k, ((FX_count_runs P w K mg base f).X k).fn "more" = true ∨ List.lookup ("more" : Str) ((FX_count_runs P w K mg base f).X k).env.scope.names = some NameKind.local := fun _ => Or.inr lm231
theorem lm251 : List.lookup ("is_whole" : Str) (Scope.names (defScope st_count_runs)) = some NameKind.globalImplicit := by decide +kernel
theorem lm252 {P : Program} {w : World} {K : PySem.W.Frag} {mg : Str → Option Value} {base : Heap} {f : Addr} : ∀ k, Gl ((FX_count_runs P w K mg base f).X k) "is_whole" := fun _ => lm251
theorem lm253 : List.lookup ("BadLength" : Str) (Scope.names (defScope st_count_runs)) = some NameKind.globalImplicit := by decide +kernel
theorem lm254 {P : Program} {w : World} {K : PySem.W.Frag} {mg : Str → Option Value} {base : Heap} {f : Addr} : ∀ k, Gl ((FX_count_runs P w K mg base f).X k) "BadLength" := fun _ => lm253
theorem lm255 : List.lookup ("known" : Str) (Scope.names (defScope st_run_to)) = some NameKind.local := by decide +kernel
theorem lm256 {P : Program} {w : World} {K : PySem.W.Frag} {mg : Str → Option Value} {base : Heap} {f : Addr} : ∀ k, Vis ((FX_run_to P w K mg base f).X k).env.scope "known" := fun _ => Or.inl lm255
theorem lm257 : (("known" : Str) == ("__debug__" : Str)) = false := by decide +kernel
theorem lm258 : (("known" : Str) == ("__classdict__" : Str)) = false := by decide +kernel
theorem lm259 : List.lookup ("place" : Str) (Scope.names (defScope st_run_to)) = some NameKind.local := by decide +kernel
theorem lm260 {P : Program} {w : World} {K : PySem.W.Frag} {mg : Str → Option Value} {base : Heap} {f : Addr} : ∀ k, Vis ((FX_run_to P w K mg base f).X k).env.scope "place" := fun _ => Or.inl lm259
theorem lm261 : List.lookup ("at" : Str) (Scope.names (defScope st_run_to)) = some NameKind.local := by decide +kernel
theorem lm262 {P : Program} {w : World} {K : PySem.W.Frag} {mg : Str → Option Value} {base : Heap} {f : Addr} : ∀ k, Vis ((FX_run_to P w K mg base f).X k).env.scope "at" := fun _ => Or.inl lm261
theorem lm263 : (("at" : Str) == ("__debug__" : Str)) = false := by decide +kernel
theorem lm264 : (("at" : Str) == ("__classdict__" : Str)) = false := by decide +kernel
theorem lm265 : List.lookup ("order" : Str) (Scope.names (defScope st_run_to)) = some NameKind.local := by decide +kernel
theorem lm266 {P : Program} {w : World} {K : PySem.W.Frag} {mg : Str → Option Value} {base : Heap} {f : Addr} : ∀ k, Vis ((FX_run_to P w K mg base f).X k).env.scope "order" := fun _ => Or.inl lm265
theorem lm267 : (("order" : Str) == ("__debug__" : Str)) = false := by decide +kernel
theorem lm268 : (("order" : Str) == ("__classdict__" : Str)) = false := by decide +kernel
theorem lm269 : List.lookup ("len" : Str) (Scope.names (defScope st_run_to)) = some NameKind.globalImplicit := by decide +kernel
theorem lm270 {P : Program} {w : World} {K : PySem.W.Frag} {mg : Str → Option Value} {base : Heap} {f : Addr} : ∀ k, Gl ((FX_run_to P w K mg base f).X k) "len" := fun _ => lm269
theorem lm271 {P : Program} {w : World} {K : PySem.W.Frag} {mg : Str → Option Value} {base : Heap} {f : Addr} : ∀ k, Loc ((FX_run_to P w K mg base f).X k).env.scope "at" := fun _ => Or.inl lm261
theorem lm272 {P : Program} {w : World} {K : PySem.W.Frag} {mg : Str → Option Value} {base : Heap} {f : Addr} : ∀ k, ((FX_run_to P w K mg base f).X k).fn "at" = true ∨ List.lookup ("at" : Str) ((FX_run_to P w K mg base f).X k).env.scope.names = some NameKind.local := fun _ => Or.inr lm261
theorem lm273 : List.lookup ("chart" : Str) (Scope.names (defScope st_run_to)) = some NameKind.local := by decide +kernel
theorem lm274 {P : Program} {w : World} {K : PySem.W.Frag} {mg : Str → Option Value} {base : Heap} {f : Addr} : ∀ k, Vis ((FX_run_to P w K mg base f).X k).env.scope "chart" := fun _ => Or.inl lm273
theorem lm275 : List.lookup ("tail" : Str) (Scope.names (defScope st_run_to)) = some NameKind.local := by decide +kernel
theorem lm276 {P : Program} {w : World} {K : PySem.W.Frag} {mg : Str → Option Value} {base : Heap} {f : Addr} : ∀ k, Vis ((FX_run_to P w K mg base f).X k).env.scope "tail" := fun _ => Or.inl lm275
theorem lm277 : List.lookup ("arrow" : Str) (Scope.names (defScope st_run_to)) = some NameKind.local := by decide +kernel
theorem lm278 {P : Program} {w : World} {K : PySem.W.Frag} {mg : Str → Option Value} {base : Heap} {f : Addr} : ∀ k, Loc ((FX_run_to P w K mg base f).X k).env.scope "arrow" := fun _ => Or.inl lm277
theorem lm279 {P : Program} {w : World} {K : PySem.W.Frag} {mg : Str → Option Value} {base : Heap} {f : Addr} : ∀ k, ((FX_run_to P w K mg base f).X k).fn "arrow" = true ∨ List.lookup ("arrow" : Str) ((FX_run_to P w K mg base f).X k).env.scope.names = some NameKind.local := fun _ => Or.inr lm277
theorem lm280 : List.lookup ("head" : Str) (Scope.names (defScope st_run_to)) = some NameKind.local := by decide +kernel
theorem lm281 {P : Program} {w : World} {K : PySem.W.Frag} {mg : Str → Option Value} {base : Heap} {f : Addr} : ∀ k, Vis ((FX_run_to P w K mg base f).X k).env.scope "head" := fun _ => Or.inl lm280
theorem lm282 {P : Program} {w : World} {K : PySem.W.Frag} {mg : Str → Option Value} {base : Heap} {f : Addr} : ∀ k, Vis ((FX_run_to P w K mg base f).X k).env.scope "arrow" := fun _ => Or.inl lm277
theorem lm283 {P : Program} {w : World} {K : PySem.W.Frag} {mg : Str → Option Value} {base : Heap} {f : Addr} : ∀ k, Loc ((FX_run_to P w K mg base f).X k).env.scope "head" := fun _ => Or.inl lm280
theorem lm284 {P : Program} {w : World} {K : PySem.W.Frag} {mg : Str → Option Value} {base : Heap} {f : Addr} : ∀ k, ((FX_run_to P w K mg base f).X k).fn "head" = true ∨ List.lookup ("head" : Str) ((FX_run_to P w K mg base f).X k).env.scope.names = some NameKind.local := fun _ => Or.inr lm280
theorem lm285 {P : Program} {w : World} {K : PySem.W.Frag} {mg : Str → Option Value} {base : Heap} {f : Addr} : ∀ k, Loc ((FX_run_to P w K mg base f).X k).env.scope "tail" := fun _ => Or.inl lm275
theorem lm286 {P : Program} {w : World} {K : PySem.W.Frag} {mg : Str → Option Value} {base : Heap} {f : Addr} : ∀ k, ((FX_run_to P w K mg base f).X k).fn "tail" = true ∨ List.lookup ("tail" : Str) ((FX_run_to P w K mg base f).X k).env.scope.names = some NameKind.local := fun _ => Or.inr lm275
theorem lm287 {P : Program} {w : World} {K : PySem.W.Frag} {mg : Str → Option Value} {base : Heap} {f : Addr} : ∀ k, Loc ((FX_run_to P w K mg base f).X k).env.scope "order" := fun _ => Or.inl lm265
theorem lm288 {P : Program} {w : World} {K : PySem.W.Frag} {mg : Str → Option Value} {base : Heap} {f : Addr} : ∀ k, ((FX_run_to P w K mg base f).X k).fn "order" = true ∨ List.lookup ("order" : Str) ((FX_run_to P w K mg base f).X k).env.scope.names = some NameKind.local := fun _ => Or.inr lm265
theorem lm289 {P : Program} {w : World} {K : PySem.W.Frag} {mg : Str → Option Value} {base : Heap} {f : Addr} : ∀ k, Loc ((FX_run_to P w K mg base f).X k).env.scope "known" := fun _ => Or.inl lm255
theorem lm290 {P : Program} {w : World} {K : PySem.W.Frag} {mg : Str → Option Value} {base : Heap} {f : Addr} : ∀ k, ((FX_run_to P w K mg base f).X k).fn "known" = true ∨ List.lookup ("known" : Str) ((FX_run_to P w K mg base f).X k).env.scope.names = some NameKind.local := fun _ => Or.inr lm255
theorem lm291 : List.lookup ("check_place" : Str) (Scope.names (defScope st_run_to)) = some NameKind.globalImplicit := by decide +kernel
theorem lm292 {P : Program} {w : World} {K : PySem.W.Frag} {mg : Str → Option Value} {base : Heap} {f : Addr} : ∀ k, Gl ((FX_run_to P w K mg base f).X k) "check_place" := fun _ => lm291
theorem lm293 : List.lookup ("_law_total" : Str) (Scope.names (defScope st_law_hand)) = some NameKind.local := by decide +kernel
theorem lm294 {P : Program} {w : World} {K : PySem.W.Frag} {mg : Str → Option Value} {base : Heap} {f : Addr} : ∀ k, Vis ((FX_law_hand P w K mg base f).X k).env.scope "_law_total" := fun _ => Or.inl lm293
theorem lm295 : (("_law_total" : Str) == ("__debug__" : Str)) = false := by decide +kernel
theorem lm296 : (("_law_total" : Str) == ("__classdict__" : Str)) = false := by decide +kernel
theorem lm297 : List.lookup ("_law_cells" : Str) (Scope.names (defScope st_law_hand)) = some NameKind.local := by decide +kernel
theorem lm298 {P : Program} {w : World} {K : PySem.W.Frag} {mg : Str → Option Value} {base : Heap} {f : Addr} : ∀ k, Vis ((FX_law_hand P w K mg base f).X k).env.scope "_law_cells" := fun _ => Or.inl lm297
theorem lm299 : (("_law_cells" : Str) == ("__debug__" : Str)) = false := by decide +kernel
theorem lm300 : (("_law_cells" : Str) == ("__classdict__" : Str)) = false := by decide +kernel
theorem lm301 : List.lookup ("_law_script" : Str) (Scope.names (defScope st_law_hand)) = some NameKind.local := by decide +kernel
theorem lm302 {P : Program} {w : World} {K : PySem.W.Frag} {mg : Str → Option Value} {base : Heap} {f : Addr} : ∀ k, Vis ((FX_law_hand P w K mg base f).X k).env.scope "_law_script" := fun _ => Or.inl lm301
theorem lm303 : (("_law_script" : Str) == ("__debug__" : Str)) = false := by decide +kernel
theorem lm304 : (("_law_script" : Str) == ("__classdict__" : Str)) = false := by decide +kernel
theorem lm305 : List.lookup ("_law_cell" : Str) (Scope.names (defScope st_law_hand)) = some NameKind.local := by decide +kernel
theorem lm306 {P : Program} {w : World} {K : PySem.W.Frag} {mg : Str → Option Value} {base : Heap} {f : Addr} : ∀ k, Loc ((FX_law_hand P w K mg base f).X k).env.scope "_law_cell" := fun _ => Or.inl lm305
theorem lm307 {P : Program} {w : World} {K : PySem.W.Frag} {mg : Str → Option Value} {base : Heap} {f : Addr} : ∀ k, ((FX_law_hand P w K mg base f).X k).fn "_law_cell" = true ∨ List.lookup ("_law_cell" : Str) ((FX_law_hand P w K mg base f).X k).env.scope.names = some NameKind.local := fun _ => Or.inr lm305
theorem lm308 {P : Program} {w : World} {K : PySem.W.Frag} {mg : Str → Option Value} {base : Heap} {f : Addr} : ∀ k, Vis ((FX_law_hand P w K mg base f).X k).env.scope "_law_cell" := fun _ => Or.inl lm305
theorem lm309 : (("_law_cell" : Str) == ("__debug__" : Str)) = false := by decide +kernel
theorem lm310 : (("_law_cell" : Str) == ("__classdict__" : Str)) = false := by decide +kernel
theorem lm311 : List.lookup ("int" : Str) (Scope.names (defScope st_law_hand)) = some NameKind.globalImplicit := by decide +kernel
theorem lm312 {P : Program} {w : World} {K : PySem.W.Frag} {mg : Str → Option Value} {base : Heap} {f : Addr} : ∀ k, Gl ((FX_law_hand P w K mg base f).X k) "int" := fun _ => lm311
theorem lm313 : List.lookup ("abs" : Str) (Scope.names (defScope st_law_hand)) = some NameKind.globalImplicit := by decide +kernel
theorem lm314 {P : Program} {w : World} {K : PySem.W.Frag} {mg : Str → Option Value} {base : Heap} {f : Addr} : ∀ k, Gl ((FX_law_hand P w K mg base f).X k) "abs" := fun _ => lm313
theorem lm315 {P : Program} {w : World} {K : PySem.W.Frag} {mg : Str → Option Value} {base : Heap} {f : Addr} : ∀ k, Loc ((FX_law_hand P w K mg base f).X k).env.scope "_law_total" := fun _ => Or.inl lm293
theorem lm316 {P : Program} {w : World} {K : PySem.W.Frag} {mg : Str → Option Value} {base : Heap} {f : Addr} : ∀ k, ((FX_law_hand P w K mg base f).X k).fn "_law_total" = true ∨ List.lookup ("_law_total" : Str) ((FX_law_hand P w K mg base f).X k).env.scope.names = some NameKind.local := fun _ => Or.inr lm293
theorem lm317 {P : Program} {w : World} {K : PySem.W.Frag} {mg : Str → Option Value} {base : Heap} {f : Addr} : ∀ k, Loc ((FX_law_hand P w K mg base f).X k).env.scope "_law_cells" := fun _ => Or.inl lm297
theorem lm318 {P : Program} {w : World} {K : PySem.W.Frag} {mg : Str → Option Value} {base : Heap} {f : Addr} : ∀ k, ((FX_law_hand P w K mg base f).X k).fn "_law_cells" = true ∨ List.lookup ("_law_cells" : Str) ((FX_law_hand P w K mg base f).X k).env.scope.names = some NameKind.local := fun _ => Or.inr lm297
theorem lm319 : List.lookup ("len" : Str) (Scope.names (defScope st_law_hand)) = some NameKind.globalImplicit := by decide +kernel
theorem lm320 {P : Program} {w : World} {K : PySem.W.Frag} {mg : Str → Option Value} {base : Heap} {f : Addr} : ∀ k, Gl ((FX_law_hand P w K mg base f).X k) "len" := fun _ => lm319
theorem lm321 : List.lookup ("_law_twice" : Str) (Scope.names (defScope st_law_mixed)) = some NameKind.local := by decide +kernel
theorem lm322 {P : Program} {w : World} {K : PySem.W.Frag} {mg : Str → Option Value} {base : Heap} {f : Addr} : ∀ k, Vis ((FX_law_mixed P w K mg base f).X k).env.scope "_law_twice" := fun _ => Or.inl lm321
theorem lm323 : (("_law_twice" : Str) == ("__debug__" : Str)) = false := by decide +kernel
theorem lm324 : (("_law_twice" : Str) == ("__classdict__" : Str)) = false := by decide +kernel
theorem lm325 : List.lookup ("_law_once" : Str) (Scope.names (defScope st_law_mixed)) = some NameKind.local := by decide +kernel
theorem lm326 {P : Program} {w : World} {K : PySem.W.Frag} {mg : Str → Option Value} {base : Heap} {f : Addr} : ∀ k, Vis ((FX_law_mixed P w K mg base f).X k).env.scope "_law_once" := fun _ => Or.inl lm325
theorem lm327 : (("_law_once" : Str) == ("__debug__" : Str)) = false := by decide +kernel
theorem lm328 : (("_law_once" : Str) == ("__classdict__" : Str)) = false := by decide +kernel
theorem lm329 : List.lookup ("int" : Str) (Scope.names (defScope st_law_mixed)) = some NameKind.globalImplicit := by decide +kernel
theorem lm330 {P : Program} {w : World} {K : PySem.W.Frag} {mg : Str → Option Value} {base : Heap} {f : Addr} : ∀ k, Gl ((FX_law_mixed P w K mg base f).X k) "int" := fun _ => lm329
theorem lm331 : List.lookup ("_law_turn" : Str) (Scope.names (defScope st_law_mixed)) = some NameKind.local := by decide +kernel
theorem lm332 {P : Program} {w : World} {K : PySem.W.Frag} {mg : Str → Option Value} {base : Heap} {f : Addr} : ∀ k, Vis ((FX_law_mixed P w K mg base f).X k).env.scope "_law_turn" := fun _ => Or.inl lm331
theorem lm333 : (("_law_turn" : Str) == ("__debug__" : Str)) = false := by decide +kernel
theorem lm334 : (("_law_turn" : Str) == ("__classdict__" : Str)) = false := by decide +kernel
theorem lm335 {P : Program} {w : World} {K : PySem.W.Frag} {mg : Str → Option Value} {base : Heap} {f : Addr} : ∀ k, Loc ((FX_law_mixed P w K mg base f).X k).env.scope "_law_twice" := fun _ => Or.inl lm321
theorem lm336 {P : Program} {w : World} {K : PySem.W.Frag} {mg : Str → Option Value} {base : Heap} {f : Addr} : ∀ k, ((FX_law_mixed P w K mg base f).X k).fn "_law_twice" = true ∨ List.lookup ("_law_twice" : Str) ((FX_law_mixed P w K mg base f).X k).env.scope.names = some NameKind.local := fun _ => Or.inr lm321
theorem lm337 : List.lookup ("_law_number" : Str) (Scope.names (defScope st_law_mixed)) = some NameKind.local := by decide +kernel
theorem lm338 {P : Program} {w : World} {K : PySem.W.Frag} {mg : Str → Option Value} {base : Heap} {f : Addr} : ∀ k, Vis ((FX_law_mixed P w K mg base f).X k).env.scope "_law_number" := fun _ => Or.inl lm337
theorem lm339 : (("_law_number" : Str) == ("__debug__" : Str)) = false := by decide +kernel
theorem lm340 : (("_law_number" : Str) == ("__classdict__" : Str)) = false := by decide +kernel
theorem lm341 {P : Program} {w : World} {K : PySem.W.Frag} {mg : Str → Option Value} {base : Heap} {f : Addr} : ∀ k, Loc ((FX_law_mixed P w K mg base f).X k).env.scope "_law_once" := fun _ => Or.inl lm325
theorem lm342 {P : Program} {w : World} {K : PySem.W.Frag} {mg : Str → Option Value} {base : Heap} {f : Addr} : ∀ k, ((FX_law_mixed P w K mg base f).X k).fn "_law_once" = true ∨ List.lookup ("_law_once" : Str) ((FX_law_mixed P w K mg base f).X k).env.scope.names = some NameKind.local := fun _ => Or.inr lm325
theorem lm343 : List.lookup ("_law_hand_here" : Str) (Scope.names (defScope st_law_take)) = some NameKind.local := by decide +kernel
theorem lm344 {P : Program} {w : World} {K : PySem.W.Frag} {mg : Str → Option Value} {base : Heap} {f : Addr} : ∀ k, Vis ((FX_law_take P w K mg base f).X k).env.scope "_law_hand_here" := fun _ => Or.inl lm343
theorem lm345 : (("_law_hand_here" : Str) == ("__debug__" : Str)) = false := by decide +kernel
theorem lm346 : (("_law_hand_here" : Str) == ("__classdict__" : Str)) = false := by decide +kernel
theorem lm347 : List.lookup ("_law_mixed" : Str) (Scope.names (defScope st_law_take)) = some NameKind.globalImplicit := by decide +kernel
theorem lm348 {P : Program} {w : World} {K : PySem.W.Frag} {mg : Str → Option Value} {base : Heap} {f : Addr} : ∀ k, Gl ((FX_law_take P w K mg base f).X k) "_law_mixed" := fun _ => lm347
theorem lm349 : (("_law_mixed" : Str) == ("__debug__" : Str)) = false := by decide +kernel
theorem lm350 : List.lookup ("int" : Str) (Scope.names (defScope st_law_take)) = some NameKind.globalImplicit := by decide +kernel
theorem lm351 {P : Program} {w : World} {K : PySem.W.Frag} {mg : Str → Option Value} {base : Heap} {f : Addr} : ∀ k, Gl ((FX_law_take P w K mg base f).X k) "int" := fun _ => lm350
theorem lm352 : List.lookup ("_law_many" : Str) (Scope.names (defScope st_law_take)) = some NameKind.local := by decide +kernel
theorem lm353 {P : Program} {w : World} {K : PySem.W.Frag} {mg : Str → Option Value} {base : Heap} {f : Addr} : ∀ k, Vis ((FX_law_take P w K mg base f).X k).env.scope "_law_many" := fun _ => Or.inl lm352
theorem lm354 : (("_law_many" : Str) == ("__debug__" : Str)) = false := by decide +kernel
theorem lm355 : (("_law_many" : Str) == ("__classdict__" : Str)) = false := by decide +kernel
theorem lm356 : List.lookup ("_law_rest" : Str) (Scope.names (defScope st_law_take)) = some NameKind.local := by decide +kernel
theorem lm357 {P : Program} {w : World} {K : PySem.W.Frag} {mg : Str → Option Value} {base : Heap} {f : Addr} : ∀ k, Vis ((FX_law_take P w K mg base f).X k).env.scope "_law_rest" := fun _ => Or.inl lm356
theorem lm358 : (("_law_rest" : Str) == ("__debug__" : Str)) = false := by decide +kernel
theorem lm359 : (("_law_rest" : Str) == ("__classdict__" : Str)) = false := by decide +kernel
theorem lm360 {P : Program} {w : World} {K : PySem.W.Frag} {mg : Str → Option Value} {base : Heap} {f : Addr} : ∀ k, Loc ((FX_law_take P w K mg base f).X k).env.scope "_law_rest" := fun _ => Or.inl lm356
theorem lm361 {P : Program} {w : World} {K : PySem.W.Frag} {mg : Str → Option Value} {base : Heap} {f : Addr} : ∀ k, ((FX_law_take P w K mg base f).X k).fn "_law_rest" = true ∨ List.lookup ("_law_rest" : Str) ((FX_law_take P w K mg base f).X k).env.scope.names = some NameKind.local := fun _ => Or.inr lm356
theorem lm362 : List.lookup ("len" : Str) (Scope.names (defScope st_law_take)) = some NameKind.globalImplicit := by decide +kernel
theorem lm363 {P : Program} {w : World} {K : PySem.W.Frag} {mg : Str → Option Value} {base : Heap} {f : Addr} : ∀ k, Gl ((FX_law_take P w K mg base f).X k) "len" := fun _ => lm362
theorem lm364 : List.lookup ("_law_cell" : Str) (Scope.names (defScope st_law_take)) = some NameKind.local := by decide +kernel
theorem lm365 {P : Program} {w : World} {K : PySem.W.Frag} {mg : Str → Option Value} {base : Heap} {f : Addr} : ∀ k, Vis ((FX_law_take P w K mg base f).X k).env.scope "_law_cell" := fun _ => Or.inl lm364
theorem lm366 {P : Program} {w : World} {K : PySem.W.Frag} {mg : Str → Option Value} {base : Heap} {f : Addr} : ∀ k, Loc ((FX_law_take P w K mg base f).X k).env.scope "_law_cell" := fun _ => Or.inl lm364
theorem lm367 {P : Program} {w : World} {K : PySem.W.Frag} {mg : Str → Option Value} {base : Heap} {f : Addr} : ∀ k, ((FX_law_take P w K mg base f).X k).fn "_law_cell" = true ∨ List.lookup ("_law_cell" : Str) ((FX_law_take P w K mg base f).X k).env.scope.names = some NameKind.local := fun _ => Or.inr lm364
theorem lm368 : List.lookup ("_law_arrows" : Str) (Scope.names (defScope st_law_renumbered)) = some NameKind.local := by decide +kernel
theorem lm369 {P : Program} {w : World} {K : PySem.W.Frag} {mg : Str → Option Value} {base : Heap} {f : Addr} : ∀ k, Vis ((FX_law_renumbered P w K mg base f).X k).env.scope "_law_arrows" := fun _ => Or.inl lm368
theorem lm370 : (("_law_arrows" : Str) == ("__debug__" : Str)) = false := by decide +kernel
theorem lm371 : (("_law_arrows" : Str) == ("__classdict__" : Str)) = false := by decide +kernel
theorem lm372 {P : Program} {w : World} {K : PySem.W.Frag} {mg : Str → Option Value} {base : Heap} {f : Addr} : ∀ k, Loc ((blkF (FX_law_renumbered P w K mg base f) bs_law_renumbered_0).X k).env.scope "_law_head" := fun _ => Or.inl (by kernel_rfl)
theorem lm373 {P : Program} {w : World} {K : PySem.W.Frag} {mg : Str → Option Value} {base : Heap} {f : Addr} : ∀ k, ((blkF (FX_law_renumbered P w K mg base f) bs_law_renumbered_0).X k).fn "_law_head" = true ∨ List.lookup ("_law_head" : Str) ((blkF (FX_law_renumbered P w K mg base f) bs_law_renumbered_0).X k).env.scope.names = some NameKind.local := fun _ => Or.inr (by kernel_rfl)
theorem lm374 {P : Program} {w : World} {K : PySem.W.Frag} {mg : Str → Option Value} {base : Heap} {f : Addr} : ∀ k, Loc ((blkF (FX_law_renumbered P w K mg base f) bs_law_renumbered_0).X k).env.scope "_law_tail" := fun _ => Or.inl (by kernel_rfl)
theorem lm375 {P : Program} {w : World} {K : PySem.W.Frag} {mg : Str → Option Value} {base : Heap} {f : Addr} : ∀ k, ((blkF (FX_law_renumbered P w K mg base f) bs_law_renumbered_0).X k).fn "_law_tail" = true ∨ List.lookup ("_law_tail" : Str) ((blkF (FX_law_renumbered P w K mg base f) bs_law_renumbered_0).X k).env.scope.names = some NameKind.local := fun _ => Or.inr (by kernel_rfl)
theorem lm376 {P : Program} {w : World} {K : PySem.W.Frag} {mg : Str → Option Value} {base : Heap} {f : Addr} : ∀ k, Vis ((blkF (FX_law_renumbered P w K mg base f) bs_law_renumbered_0).X k).env.scope "_law_names" := fun _ => Or.inr (Or.inl (by kernel_rfl))
theorem lm377 : (("_law_names" : Str) == ("__debug__" : Str)) = false := by decide +kernel
theorem lm378 : (("_law_names" : Str) == ("__classdict__" : Str)) = false := by decide +kernel
theorem lm379 {P : Program} {w : World} {K : PySem.W.Frag} {mg : Str → Option Value} {base : Heap} {f : Addr} : ∀ k, Vis ((blkF (FX_law_renumbered P w K mg base f) bs_law_renumbered_0).X k).env.scope "_law_head" := fun _ => Or.inl (by kernel_rfl)
theorem lm380 : (("_law_head" : Str) == ("__debug__" : Str)) = false := by decide +kernel
theorem lm381 : (("_law_head" : Str) == ("__classdict__" : Str)) = false := by decide +kernel
theorem lm382 {P : Program} {w : World} {K : PySem.W.Frag} {mg : Str → Option Value} {base : Heap} {f : Addr} : ∀ k, Vis ((blkF (FX_law_renumbered P w K mg base f) bs_law_renumbered_0).X k).env.scope "_law_tail" := fun _ => Or.inl (by kernel_rfl)
theorem lm383 : (("_law_tail" : Str) == ("__debug__" : Str)) = false := by decide +kernel
theorem lm384 : (("_law_tail" : Str) == ("__classdict__" : Str)) = false := by decide +kernel
theorem lm385 : List.lookup ("_law_many" : Str) (Scope.names (defScope st_law_renumbered)) = some NameKind.local := by decide +kernel
theorem lm386 {P : Program} {w : World} {K : PySem.W.Frag} {mg : Str → Option Value} {base : Heap} {f : Addr} : ∀ k, Vis ((FX_law_renumbered P w K mg base f).X k).env.scope "_law_many" := fun _ => Or.inl lm385
theorem lm387 : List.lookup ("range" : Str) (Scope.names (defScope st_law_renumbered)) = some NameKind.globalImplicit := by decide +kernel
theorem lm388 {P : Program} {w : World} {K : PySem.W.Frag} {mg : Str → Option Value} {base : Heap} {f : Addr} : ∀ k, Gl ((FX_law_renumbered P w K mg base f).X k) "range" := fun _ => lm387
theorem lm389 : List.lookup ("_law_step" : Str) (Scope.names (defScope st_law_renumbered)) = some NameKind.local := by decide +kernel
theorem lm390 {P : Program} {w : World} {K : PySem.W.Frag} {mg : Str → Option Value} {base : Heap} {f : Addr} : ∀ k, Loc ((FX_law_renumbered P w K mg base f).X k).env.scope "_law_step" := fun _ => Or.inl lm389
theorem lm391 {P : Program} {w : World} {K : PySem.W.Frag} {mg : Str → Option Value} {base : Heap} {f : Addr} : ∀ k, ((FX_law_renumbered P w K mg base f).X k).fn "_law_step" = true ∨ List.lookup ("_law_step" : Str) ((FX_law_renumbered P w K mg base f).X k).env.scope.names = some NameKind.local := fun _ => Or.inr lm389
theorem lm392 : List.lookup ("_law_names" : Str) (Scope.names (defScope st_law_renumbered)) = some NameKind.cell := by decide +kernel
theorem lm393 {P : Program} {w : World} {K : PySem.W.Frag} {mg : Str → Option Value} {base : Heap} {f : Addr} : ∀ k, Vis ((FX_law_renumbered P w K mg base f).X k).env.scope "_law_names" := fun _ => Or.inr (Or.inl lm392)
theorem lm394 : List.lookup ("_law_rest" : Str) (Scope.names (defScope st_law_renumbered)) = some NameKind.local := by decide +kernel
theorem lm395 {P : Program} {w : World} {K : PySem.W.Frag} {mg : Str → Option Value} {base : Heap} {f : Addr} : ∀ k, Vis ((FX_law_renumbered P w K mg base f).X k).env.scope "_law_rest" := fun _ => Or.inl lm394
theorem lm396 : List.lookup ("len" : Str) (Scope.names (defScope st_law_renumbered)) = some NameKind.globalImplicit := by decide +kernel
theorem lm397 {P : Program} {w : World} {K : PySem.W.Frag} {mg : Str → Option Value} {base : Heap} {f : Addr} : ∀ k, Gl ((FX_law_renumbered P w K mg base f).X k) "len" := fun _ => lm396
theorem lm398 : List.lookup ("_law_hand_here" : Str) (Scope.names (defScope st_law_renumbered)) = some NameKind.local := by decide +kernel
theorem lm399 {P : Program} {w : World} {K : PySem.W.Frag} {mg : Str → Option Value} {base : Heap} {f : Addr} : ∀ k, Vis ((FX_law_renumbered P w K mg base f).X k).env.scope "_law_hand_here" := fun _ => Or.inl lm398
theorem lm400 : List.lookup ("_law_take" : Str) (Scope.names (defScope st_law_renumbered)) = some NameKind.globalImplicit := by decide +kernel
theorem lm401 {P : Program} {w : World} {K : PySem.W.Frag} {mg : Str → Option Value} {base : Heap} {f : Addr} : ∀ k, Gl ((FX_law_renumbered P w K mg base f).X k) "_law_take" := fun _ => lm400
theorem lm402 : (("_law_take" : Str) == ("__debug__" : Str)) = false := by decide +kernel
theorem lm403 {P : Program} {w : World} {K : PySem.W.Frag} {mg : Str → Option Value} {base : Heap} {f : Addr} : ∀ k, Loc ((FX_law_renumbered P w K mg base f).X k).env.scope "_law_names" := fun _ => Or.inr lm392
theorem lm404 {P : Program} {w : World} {K : PySem.W.Frag} {mg : Str → Option Value} {base : Heap} {f : Addr} : ∀ k, ((FX_law_renumbered P w K mg base f).X k).fn "_law_names" = true ∨ List.lookup ("_law_names" : Str) ((FX_law_renumbered P w K mg base f).X k).env.scope.names = some NameKind.local := fun _ => Or.inl (show (List.lookup ("_law_names" : Str) (Scope.names (defScope st_law_renumbered)) == some NameKind.cell) = true by rw [lm392]; rfl)
theorem lm405 : List.lookup ("list" : Str) (Scope.names (defScope st_law_renumbered)) = some NameKind.globalImplicit := by decide +kernel
theorem lm406 {P : Program} {w : World} {K : PySem.W.Frag} {mg : Str → Option Value} {base : Heap} {f : Addr} : ∀ k, Gl ((FX_law_renumbered P w K mg base f).X k) "list" := fun _ => lm405
theorem lm407 {P : Program} {w : World} {K : PySem.W.Frag} {mg : Str → Option Value} {base : Heap} {f : Addr} : ∀ k, Loc ((FX_law_renumbered P w K mg base f).X k).env.scope "_law_rest" := fun _ => Or.inl lm394
theorem lm408 {P : Program} {w : World} {K : PySem.W.Frag} {mg : Str → Option Value} {base : Heap} {f : Addr} : ∀ k, ((FX_law_renumbered P w K mg base f).X k).fn "_law_rest" = true ∨ List.lookup ("_law_rest" : Str) ((FX_law_renumbered P w K mg base f).X k).env.scope.names = some NameKind.local := fun _ => Or.inr lm394
theorem lm409 : List.lookup ("_law_arrows" : Str) (Scope.names (defScope st_law_chart)) = some NameKind.local := by decide +kernel
theorem lm410 {P : Program} {w : World} {K : PySem.W.Frag} {mg : Str → Option Value} {base : Heap} {f : Addr} : ∀ k, Vis ((FX_law_chart P w K mg base f).X k).env.scope "_law_arrows" := fun _ => Or.inl lm409
theorem lm411 : List.lookup ("_law_many" : Str) (Scope.names (defScope st_law_chart)) = some NameKind.local := by decide +kernel
theorem lm412 {P : Program} {w : World} {K : PySem.W.Frag} {mg : Str → Option Value} {base : Heap} {f : Addr} : ∀ k, Vis ((FX_law_chart P w K mg base f).X k).env.scope "_law_many" := fun _ => Or.inl lm411
theorem lm413 : List.lookup ("_law_hand_here" : Str) (Scope.names (defScope st_law_chart)) = some NameKind.local := by decide +kernel
theorem lm414 {P : Program} {w : World} {K : PySem.W.Frag} {mg : Str → Option Value} {base : Heap} {f : Addr} : ∀ k, Vis ((FX_law_chart P w K mg base f).X k).env.scope "_law_hand_here" := fun _ => Or.inl lm413
theorem lm415 : List.lookup ("_law_renumbered" : Str) (Scope.names (defScope st_law_chart)) = some NameKind.globalImplicit := by decide +kernel
theorem lm416 {P : Program} {w : World} {K : PySem.W.Frag} {mg : Str → Option Value} {base : Heap} {f : Addr} : ∀ k, Gl ((FX_law_chart P w K mg base f).X k) "_law_renumbered" := fun _ => lm415
theorem lm417 : (("_law_renumbered" : Str) == ("__debug__" : Str)) = false := by decide +kernel
theorem lm418 : List.lookup ("tuple" : Str) (Scope.names (defScope st_law_chart)) = some NameKind.globalImplicit := by decide +kernel
theorem lm419 {P : Program} {w : World} {K : PySem.W.Frag} {mg : Str → Option Value} {base : Heap} {f : Addr} : ∀ k, Gl ((FX_law_chart P w K mg base f).X k) "tuple" := fun _ => lm418
theorem lm420 : List.lookup ("_law_costs_here" : Str) (Scope.names (defScope st_law_chart)) = some NameKind.local := by decide +kernel
theorem lm421 {P : Program} {w : World} {K : PySem.W.Frag} {mg : Str → Option Value} {base : Heap} {f : Addr} : ∀ k, Vis ((FX_law_chart P w K mg base f).X k).env.scope "_law_costs_here" := fun _ => Or.inl lm420
theorem lm422 : (("_law_costs_here" : Str) == ("__debug__" : Str)) = false := by decide +kernel
theorem lm423 : (("_law_costs_here" : Str) == ("__classdict__" : Str)) = false := by decide +kernel
theorem lm424 : List.lookup ("_law_take" : Str) (Scope.names (defScope st_law_chart)) = some NameKind.globalImplicit := by decide +kernel
theorem lm425 {P : Program} {w : World} {K : PySem.W.Frag} {mg : Str → Option Value} {base : Heap} {f : Addr} : ∀ k, Gl ((FX_law_chart P w K mg base f).X k) "_law_take" := fun _ => lm424
theorem lm426 : List.lookup ("_law_turn" : Str) (Scope.names (defScope st_law_chart)) = some NameKind.local := by decide +kernel
theorem lm427 {P : Program} {w : World} {K : PySem.W.Frag} {mg : Str → Option Value} {base : Heap} {f : Addr} : ∀ k, Vis ((FX_law_chart P w K mg base f).X k).env.scope "_law_turn" := fun _ => Or.inl lm426
theorem lm428 {P : Program} {w : World} {K : PySem.W.Frag} {mg : Str → Option Value} {base : Heap} {f : Addr} : ∀ k, Loc ((FX_law_chart P w K mg base f).X k).env.scope "_law_arrows" := fun _ => Or.inl lm409
theorem lm429 {P : Program} {w : World} {K : PySem.W.Frag} {mg : Str → Option Value} {base : Heap} {f : Addr} : ∀ k, ((FX_law_chart P w K mg base f).X k).fn "_law_arrows" = true ∨ List.lookup ("_law_arrows" : Str) ((FX_law_chart P w K mg base f).X k).env.scope.names = some NameKind.local := fun _ => Or.inr lm409
theorem lm430 : List.lookup ("len" : Str) (Scope.names (defScope st_law_chart)) = some NameKind.globalImplicit := by decide +kernel
theorem lm431 {P : Program} {w : World} {K : PySem.W.Frag} {mg : Str → Option Value} {base : Heap} {f : Addr} : ∀ k, Gl ((FX_law_chart P w K mg base f).X k) "len" := fun _ => lm430
theorem lm432 {P : Program} {w : World} {K : PySem.W.Frag} {mg : Str → Option Value} {base : Heap} {f : Addr} : ∀ k, Loc ((FX_law_chart P w K mg base f).X k).env.scope "_law_turn" := fun _ => Or.inl lm426
theorem lm433 {P : Program} {w : World} {K : PySem.W.Frag} {mg : Str → Option Value} {base : Heap} {f : Addr} : ∀ k, ((FX_law_chart P w K mg base f).X k).fn "_law_turn" = true ∨ List.lookup ("_law_turn" : Str) ((FX_law_chart P w K mg base f).X k).env.scope.names = some NameKind.local := fun _ => Or.inr lm426
theorem lm434 : List.lookup ("_law_more" : Str) (Scope.names (defScope st_law_chart)) = some NameKind.local := by decide +kernel
theorem lm435 {P : Program} {w : World} {K : PySem.W.Frag} {mg : Str → Option Value} {base : Heap} {f : Addr} : ∀ k, Vis ((FX_law_chart P w K mg base f).X k).env.scope "_law_more" := fun _ => Or.inl lm434
theorem lm436 : (("_law_more" : Str) == ("__debug__" : Str)) = false := by decide +kernel
theorem lm437 : (("_law_more" : Str) == ("__classdict__" : Str)) = false := by decide +kernel
theorem lm438 : List.lookup ("range" : Str) (Scope.names (defScope st_law_chart)) = some NameKind.globalImplicit := by decide +kernel
theorem lm439 {P : Program} {w : World} {K : PySem.W.Frag} {mg : Str → Option Value} {base : Heap} {f : Addr} : ∀ k, Gl ((FX_law_chart P w K mg base f).X k) "range" := fun _ => lm438
theorem lm440 : List.lookup ("_law_step" : Str) (Scope.names (defScope st_law_chart)) = some NameKind.local := by decide +kernel
theorem lm441 {P : Program} {w : World} {K : PySem.W.Frag} {mg : Str → Option Value} {base : Heap} {f : Addr} : ∀ k, Loc ((FX_law_chart P w K mg base f).X k).env.scope "_law_step" := fun _ => Or.inl lm440
theorem lm442 {P : Program} {w : World} {K : PySem.W.Frag} {mg : Str → Option Value} {base : Heap} {f : Addr} : ∀ k, ((FX_law_chart P w K mg base f).X k).fn "_law_step" = true ∨ List.lookup ("_law_step" : Str) ((FX_law_chart P w K mg base f).X k).env.scope.names = some NameKind.local := fun _ => Or.inr lm440
theorem lm443 : List.lookup ("_law_head" : Str) (Scope.names (defScope st_law_chart)) = some NameKind.local := by decide +kernel
theorem lm444 {P : Program} {w : World} {K : PySem.W.Frag} {mg : Str → Option Value} {base : Heap} {f : Addr} : ∀ k, Loc ((FX_law_chart P w K mg base f).X k).env.scope "_law_head" := fun _ => Or.inl lm443
theorem lm445 {P : Program} {w : World} {K : PySem.W.Frag} {mg : Str → Option Value} {base : Heap} {f : Addr} : ∀ k, ((FX_law_chart P w K mg base f).X k).fn "_law_head" = true ∨ List.lookup ("_law_head" : Str) ((FX_law_chart P w K mg base f).X k).env.scope.names = some NameKind.local := fun _ => Or.inr lm443
theorem lm446 {P : Program} {w : World} {K : PySem.W.Frag} {mg : Str → Option Value} {base : Heap} {f : Addr} : ∀ k, Vis ((FX_law_chart P w K mg base f).X k).env.scope "_law_head" := fun _ => Or.inl lm443
theorem lm447 : List.lookup ("_law_tail" : Str) (Scope.names (defScope st_law_chart)) = some NameKind.local := by decide +kernel
theorem lm448 {P : Program} {w : World} {K : PySem.W.Frag} {mg : Str → Option Value} {base : Heap} {f : Addr} : ∀ k, Vis ((FX_law_chart P w K mg base f).X k).env.scope "_law_tail" := fun _ => Or.inl lm447
theorem lm449 {P : Program} {w : World} {K : PySem.W.Frag} {mg : Str → Option Value} {base : Heap} {f : Addr} : ∀ k, Loc ((FX_law_chart P w K mg base f).X k).env.scope "_law_tail" := fun _ => Or.inl lm447
theorem lm450 {P : Program} {w : World} {K : PySem.W.Frag} {mg : Str → Option Value} {base : Heap} {f : Addr} : ∀ k, ((FX_law_chart P w K mg base f).X k).fn "_law_tail" = true ∨ List.lookup ("_law_tail" : Str) ((FX_law_chart P w K mg base f).X k).env.scope.names = some NameKind.local := fun _ => Or.inr lm447
theorem lm451 : List.lookup ("_law_many" : Str) (Scope.names (defScope st_law_costs)) = some NameKind.local := by decide +kernel
theorem lm452 {P : Program} {w : World} {K : PySem.W.Frag} {mg : Str → Option Value} {base : Heap} {f : Addr} : ∀ k, Vis ((FX_law_costs P w K mg base f).X k).env.scope "_law_many" := fun _ => Or.inl lm451
theorem lm453 : List.lookup ("range" : Str) (Scope.names (defScope st_law_costs)) = some NameKind.globalImplicit := by decide +kernel
theorem lm454 {P : Program} {w : World} {K : PySem.W.Frag} {mg : Str → Option Value} {base : Heap} {f : Addr} : ∀ k, Gl ((FX_law_costs P w K mg base f).X k) "range" := fun _ => lm453
theorem lm455 {P : Program} {w : World} {K : PySem.W.Frag} {mg : Str → Option Value} {base : Heap} {f : Addr} : ∀ k, Loc ((blkF (FX_law_costs P w K mg base f) bs_law_costs_0).X k).env.scope "_law_place" := fun _ => Or.inl (by kernel_rfl)
theorem lm456 {P : Program} {w : World} {K : PySem.W.Frag} {mg : Str → Option Value} {base : Heap} {f : Addr} : ∀ k, ((blkF (FX_law_costs P w K mg base f) bs_law_costs_0).X k).fn "_law_place" = true ∨ List.lookup ("_law_place" : Str) ((blkF (FX_law_costs P w K mg base f) bs_law_costs_0).X k).env.scope.names = some NameKind.local := fun _ => Or.inr (by kernel_rfl)
theorem lm457 {P : Program} {w : World} {K : PySem.W.Frag} {mg : Str → Option Value} {base : Heap} {f : Addr} : ∀ k, Vis ((blkF (FX_law_costs P w K mg base f) bs_law_costs_0).X k).env.scope "_law_hand_here" := fun _ => Or.inr (Or.inl (by kernel_rfl))
theorem lm458 {P : Program} {w : World} {K : PySem.W.Frag} {mg : Str → Option Value} {base : Heap} {f : Addr} : ∀ k, Gl ((blkF (FX_law_costs P w K mg base f) bs_law_costs_0).X k) "_law_take" := fun _ => (by unfold Gl; kernel_rfl)
theorem lm459 {P : Program} {w : World} {K : PySem.W.Frag} {mg : Str → Option Value} {base : Heap} {f : Addr} : ∀ k, Vis ((blkF (FX_law_costs P w K mg base f) bs_law_costs_0).X k).env.scope "_law_bound" := fun _ => Or.inr (Or.inl (by kernel_rfl))
theorem lm460 : (("_law_bound" : Str) == ("__debug__" : Str)) = false := by decide +kernel
theorem lm461 : (("_law_bound" : Str) == ("__classdict__" : Str)) = false := by decide +kernel
theorem lm462 : List.lookup ("_law_hand_here" : Str) (Scope.names (defScope st_law_costs)) = some NameKind.cell := by decide +kernel
theorem lm463 {P : Program} {w : World} {K : PySem.W.Frag} {mg : Str → Option Value} {base : Heap} {f : Addr} : ∀ k, Vis ((FX_law_costs P w K mg base f).X k).env.scope "_law_hand_here" := fun _ => Or.inr (Or.inl lm462)
theorem lm464 : List.lookup ("_law_take" : Str) (Scope.names (defScope st_law_costs)) = some NameKind.globalImplicit := by decide +kernel
theorem lm465 {P : Program} {w : World} {K : PySem.W.Frag} {mg : Str → Option Value} {base : Heap} {f : Addr} : ∀ k, Gl ((FX_law_costs P w K mg base f).X k) "_law_take" := fun _ => lm464
theorem lm466 : List.lookup ("_law_bound" : Str) (Scope.names (defScope st_law_costs)) = some NameKind.cell := by decide +kernel
theorem lm467 {P : Program} {w : World} {K : PySem.W.Frag} {mg : Str → Option Value} {base : Heap} {f : Addr} : ∀ k, Loc ((FX_law_costs P w K mg base f).X k).env.scope "_law_bound" := fun _ => Or.inr lm466
theorem lm468 {P : Program} {w : World} {K : PySem.W.Frag} {mg : Str → Option Value} {base : Heap} {f : Addr} : ∀ k, ((FX_law_costs P w K mg base f).X k).fn "_law_bound" = true ∨ List.lookup ("_law_bound" : Str) ((FX_law_costs P w K mg base f).X k).env.scope.names = some NameKind.local := fun _ => Or.inl (show (List.lookup ("_law_bound" : Str) (Scope.names (defScope st_law_costs)) == some NameKind.cell) = true by rw [lm466]; rfl)
theorem lm469 : List.lookup ("_law_costs" : Str) (Scope.names (defScope st_law_chart)) = some NameKind.globalImplicit := by decide +kernel
theorem lm470 {P : Program} {w : World} {K : PySem.W.Frag} {mg : Str → Option Value} {base : Heap} {f : Addr} : ∀ k, Gl ((FX_law_chart P w K mg base f).X k) "_law_costs" := fun _ => lm469
theorem lm471 : (("_law_costs" : Str) == ("__debug__" : Str)) = false := by decide +kernel
theorem lm472 {P : Program} {w : World} {K : PySem.W.Frag} {mg : Str → Option Value} {base : Heap} {f : Addr} : ∀ k, Loc ((FX_law_chart P w K mg base f).X k).env.scope "_law_costs_here" := fun _ => Or.inl lm420
theorem lm473 {P : Program} {w : World} {K : PySem.W.Frag} {mg : Str → Option Value} {base : Heap} {f : Addr} : ∀ k, ((FX_law_chart P w K mg base f).X k).fn "_law_costs_here" = true ∨ List.lookup ("_law_costs_here" : Str) ((FX_law_chart P w K mg base f).X k).env.scope.names = some NameKind.local := fun _ => Or.inr lm420
theorem lm474 : List.lookup ("_law_most" : Str) (Scope.names (defScope st_law_chart)) = some NameKind.local := by decide +kernel
theorem lm475 {P : Program} {w : World} {K : PySem.W.Frag} {mg : Str → Option Value} {base : Heap} {f : Addr} : ∀ k, Vis ((FX_law_chart P w K mg base f).X k).env.scope "_law_most" := fun _ => Or.inl lm474
theorem lm476 : (("_law_most" : Str) == ("__debug__" : Str)) = false := by decide +kernel
theorem lm477 : (("_law_most" : Str) == ("__classdict__" : Str)) = false := by decide +kernel
theorem lm478 {P : Program} {w : World} {K : PySem.W.Frag} {mg : Str → Option Value} {base : Heap} {f : Addr} : ∀ k, Loc ((FX_law_chart P w K mg base f).X k).env.scope "_law_many" := fun _ => Or.inl lm411
theorem lm479 {P : Program} {w : World} {K : PySem.W.Frag} {mg : Str → Option Value} {base : Heap} {f : Addr} : ∀ k, ((FX_law_chart P w K mg base f).X k).fn "_law_many" = true ∨ List.lookup ("_law_many" : Str) ((FX_law_chart P w K mg base f).X k).env.scope.names = some NameKind.local := fun _ => Or.inr lm411
theorem lm480 : List.lookup ("_law_run" : Str) (Scope.names (defScope st_law_places)) = some NameKind.local := by decide +kernel
theorem lm481 {P : Program} {w : World} {K : PySem.W.Frag} {mg : Str → Option Value} {base : Heap} {f : Addr} : ∀ k, Vis ((FX_law_places P w K mg base f).X k).env.scope "_law_run" := fun _ => Or.inl lm480
theorem lm482 : (("_law_run" : Str) == ("__debug__" : Str)) = false := by decide +kernel
theorem lm483 : (("_law_run" : Str) == ("__classdict__" : Str)) = false := by decide +kernel
theorem lm484 {P : Program} {w : World} {K : PySem.W.Frag} {mg : Str → Option Value} {base : Heap} {f : Addr} : ∀ k, Loc ((blkF (FX_law_places P w K mg base f) bs_law_places_0).X k).env.scope "_law_arrow" := fun _ => Or.inl (by kernel_rfl)
theorem lm485 {P : Program} {w : World} {K : PySem.W.Frag} {mg : Str → Option Value} {base : Heap} {f : Addr} : ∀ k, ((blkF (FX_law_places P w K mg base f) bs_law_places_0).X k).fn "_law_arrow" = true ∨ List.lookup ("_law_arrow" : Str) ((blkF (FX_law_places P w K mg base f) bs_law_places_0).X k).env.scope.names = some NameKind.local := fun _ => Or.inr (by kernel_rfl)
theorem lm486 {P : Program} {w : World} {K : PySem.W.Frag} {mg : Str → Option Value} {base : Heap} {f : Addr} : ∀ k, Vis ((blkF (FX_law_places P w K mg base f) bs_law_places_0).X k).env.scope "_law_arrows" := fun _ => Or.inr (Or.inl (by kernel_rfl))
theorem lm487 {P : Program} {w : World} {K : PySem.W.Frag} {mg : Str → Option Value} {base : Heap} {f : Addr} : ∀ k, Vis ((blkF (FX_law_places P w K mg base f) bs_law_places_0).X k).env.scope "_law_arrow" := fun _ => Or.inl (by kernel_rfl)
theorem lm488 : (("_law_arrow" : Str) == ("__debug__" : Str)) = false := by decide +kernel
theorem lm489 : (("_law_arrow" : Str) == ("__classdict__" : Str)) = false := by decide +kernel
theorem lm490 : List.lookup ("_law_thing" : Str) (Scope.names (defScope st_law_tuples)) = some NameKind.local := by decide +kernel
theorem lm491 {kk : Nat} {P : Program} {w : World} {K : PySem.W.Frag} {mg : Str → Option Value} {base : Heap} {f : Addr} : ∀ k, Vis ((FX_law_tuples P w K mg base f kk).X k).env.scope "_law_thing" := fun _ => Or.inl lm490
theorem lm492 : (("_law_thing" : Str) == ("__debug__" : Str)) = false := by decide +kernel
theorem lm493 : (("_law_thing" : Str) == ("__classdict__" : Str)) = false := by decide +kernel
theorem lm494 : List.lookup ("str" : Str) (Scope.names (defScope st_law_tuples)) = some NameKind.globalImplicit := by decide +kernel
theorem lm495 {kk : Nat} {P : Program} {w : World} {K : PySem.W.Frag} {mg : Str → Option Value} {base : Heap} {f : Addr} : ∀ k, Gl ((FX_law_tuples P w K mg base f kk).X k) "str" := fun _ => lm494
theorem lm496 : ("str" : Str) ≠ "__name__" := by decide +kernel
theorem lm497 : (("str" : Str) == ("__debug__" : Str)) = false := by decide +kernel
theorem lm498 : List.lookup ("isinstance" : Str) (Scope.names (defScope st_law_tuples)) = some NameKind.globalImplicit := by decide +kernel
theorem lm499 {kk : Nat} {P : Program} {w : World} {K : PySem.W.Frag} {mg : Str → Option Value} {base : Heap} {f : Addr} : ∀ k, Gl ((FX_law_tuples P w K mg base f kk).X k) "isinstance" := fun _ => lm498
theorem lm500 : List.lookup ("int" : Str) (Scope.names (defScope st_law_tuples)) = some NameKind.globalImplicit := by decide +kernel
theorem lm501 {kk : Nat} {P : Program} {w : World} {K : PySem.W.Frag} {mg : Str → Option Value} {base : Heap} {f : Addr} : ∀ k, Gl ((FX_law_tuples P w K mg base f kk).X k) "int" := fun _ => lm500
theorem lm502 : List.lookup ("bool" : Str) (Scope.names (defScope st_law_tuples)) = some NameKind.globalImplicit := by decide +kernel
theorem lm503 {kk : Nat} {P : Program} {w : World} {K : PySem.W.Frag} {mg : Str → Option Value} {base : Heap} {f : Addr} : ∀ k, Gl ((FX_law_tuples P w K mg base f kk).X k) "bool" := fun _ => lm502
theorem lm504 : List.lookup ("tuple" : Str) (Scope.names (defScope st_law_tuples)) = some NameKind.globalImplicit := by decide +kernel
theorem lm505 {kk : Nat} {P : Program} {w : World} {K : PySem.W.Frag} {mg : Str → Option Value} {base : Heap} {f : Addr} : ∀ k, Gl ((FX_law_tuples P w K mg base f kk).X k) "tuple" := fun _ => lm504
theorem lm506 {kk : Nat} {P : Program} {w : World} {K : PySem.W.Frag} {mg : Str → Option Value} {base : Heap} {f : Addr} : ∀ k, Loc ((blkF (FX_law_tuples P w K mg base f kk) bs_law_tuples_0).X k).env.scope "_law_item" := fun _ => Or.inl (by kernel_rfl)
theorem lm507 {kk : Nat} {P : Program} {w : World} {K : PySem.W.Frag} {mg : Str → Option Value} {base : Heap} {f : Addr} : ∀ k, ((blkF (FX_law_tuples P w K mg base f kk) bs_law_tuples_0).X k).fn "_law_item" = true ∨ List.lookup ("_law_item" : Str) ((blkF (FX_law_tuples P w K mg base f kk) bs_law_tuples_0).X k).env.scope.names = some NameKind.local := fun _ => Or.inr (by kernel_rfl)
theorem lm508 {kk : Nat} {P : Program} {w : World} {K : PySem.W.Frag} {mg : Str → Option Value} {base : Heap} {f : Addr} : ∀ k, Vis ((blkF (FX_law_tuples P w K mg base f kk) bs_law_tuples_0).X k).env.scope "_law_item" := fun _ => Or.inl (by kernel_rfl)
theorem lm509 : (("_law_item" : Str) == ("__debug__" : Str)) = false := by decide +kernel
theorem lm510 : (("_law_item" : Str) == ("__classdict__" : Str)) = false := by decide +kernel
theorem lm511 {kk : Nat} {P : Program} {w : World} {K : PySem.W.Frag} {mg : Str → Option Value} {base : Heap} {f : Addr} : ∀ k, Gl ((blkF (FX_law_tuples P w K mg base f kk) bs_law_tuples_0).X k) "_law_tuples" := fun _ => (by unfold Gl; kernel_rfl)
theorem lm512 : (("_law_tuples" : Str) == ("__debug__" : Str)) = false := by decide +kernel
theorem lm513 : List.lookup ("_law_bound" : Str) (Scope.names (defScope st_law_odd)) = some NameKind.local := by decide +kernel
theorem lm514 {P : Program} {w : World} {K : PySem.W.Frag} {mg : Str → Option Value} {base : Heap} {f : Addr} : ∀ k, Vis ((FX_law_odd P w K mg base f).X k).env.scope "_law_bound" := fun _ => Or.inl lm513
theorem lm515 : List.lookup ("_law_kind" : Str) (Scope.names (defScope st_law_odd)) = some NameKind.local := by decide +kernel
theorem lm516 {P : Program} {w : World} {K : PySem.W.Frag} {mg : Str → Option Value} {base : Heap} {f : Addr} : ∀ k, Vis ((FX_law_odd P w K mg base f).X k).env.scope "_law_kind" := fun _ => Or.inl lm515
theorem lm517 : (("_law_kind" : Str) == ("__debug__" : Str)) = false := by decide +kernel
theorem lm518 : (("_law_kind" : Str) == ("__classdict__" : Str)) = false := by decide +kernel
theorem lm519 : List.lookup ("_law_hand_here" : Str) (Scope.names (defScope st_law_odd)) = some NameKind.local := by decide +kernel
theorem lm520 {P : Program} {w : World} {K : PySem.W.Frag} {mg : Str → Option Value} {base : Heap} {f : Addr} : ∀ k, Vis ((FX_law_odd P w K mg base f).X k).env.scope "_law_hand_here" := fun _ => Or.inl lm519
theorem lm521 : List.lookup ("_law_take" : Str) (Scope.names (defScope st_law_odd)) = some NameKind.globalImplicit := by decide +kernel
theorem lm522 {P : Program} {w : World} {K : PySem.W.Frag} {mg : Str → Option Value} {base : Heap} {f : Addr} : ∀ k, Gl ((FX_law_odd P w K mg base f).X k) "_law_take" := fun _ => lm521
theorem lm523 {P : Program} {w : World} {K : PySem.W.Frag} {mg : Str → Option Value} {base : Heap} {f : Addr} : ∀ k, Loc ((FX_law_odd P w K mg base f).X k).env.scope "_law_kind" := fun _ => Or.inl lm515
theorem lm524 {P : Program} {w : World} {K : PySem.W.Frag} {mg : Str → Option Value} {base : Heap} {f : Addr} : ∀ k, ((FX_law_odd P w K mg base f).X k).fn "_law_kind" = true ∨ List.lookup ("_law_kind" : Str) ((FX_law_odd P w K mg base f).X k).env.scope.names = some NameKind.local := fun _ => Or.inr lm515
theorem lm525 : List.lookup ("_law_best" : Str) (Scope.names (defScope st_law_best_runs)) = some NameKind.local := by decide +kernel
theorem lm526 {P : Program} {w : World} {K : PySem.W.Frag} {mg : Str → Option Value} {base : Heap} {f : Addr} : ∀ k, Vis ((FX_law_best_runs P w K mg base f).X k).env.scope "_law_best" := fun _ => Or.inl lm525
theorem lm527 : (("_law_best" : Str) == ("__debug__" : Str)) = false := by decide +kernel
theorem lm528 : (("_law_best" : Str) == ("__classdict__" : Str)) = false := by decide +kernel
theorem lm529 : List.lookup ("_law_many" : Str) (Scope.names (defScope st_law_best_runs)) = some NameKind.local := by decide +kernel
theorem lm530 {P : Program} {w : World} {K : PySem.W.Frag} {mg : Str → Option Value} {base : Heap} {f : Addr} : ∀ k, Vis ((FX_law_best_runs P w K mg base f).X k).env.scope "_law_many" := fun _ => Or.inl lm529
theorem lm531 : List.lookup ("range" : Str) (Scope.names (defScope st_law_best_runs)) = some NameKind.globalImplicit := by decide +kernel
theorem lm532 {P : Program} {w : World} {K : PySem.W.Frag} {mg : Str → Option Value} {base : Heap} {f : Addr} : ∀ k, Gl ((FX_law_best_runs P w K mg base f).X k) "range" := fun _ => lm531
theorem lm533 : List.lookup ("_law_turn" : Str) (Scope.names (defScope st_law_best_runs)) = some NameKind.local := by decide +kernel
theorem lm534 {P : Program} {w : World} {K : PySem.W.Frag} {mg : Str → Option Value} {base : Heap} {f : Addr} : ∀ k, Loc ((FX_law_best_runs P w K mg base f).X k).env.scope "_law_turn" := fun _ => Or.inl lm533
theorem lm535 {P : Program} {w : World} {K : PySem.W.Frag} {mg : Str → Option Value} {base : Heap} {f : Addr} : ∀ k, ((FX_law_best_runs P w K mg base f).X k).fn "_law_turn" = true ∨ List.lookup ("_law_turn" : Str) ((FX_law_best_runs P w K mg base f).X k).env.scope.names = some NameKind.local := fun _ => Or.inr lm533
theorem lm536 : List.lookup ("_law_arrows" : Str) (Scope.names (defScope st_law_best_runs)) = some NameKind.local := by decide +kernel
theorem lm537 {P : Program} {w : World} {K : PySem.W.Frag} {mg : Str → Option Value} {base : Heap} {f : Addr} : ∀ k, Vis ((FX_law_best_runs P w K mg base f).X k).env.scope "_law_arrows" := fun _ => Or.inl lm536
theorem lm538 : List.lookup ("len" : Str) (Scope.names (defScope st_law_best_runs)) = some NameKind.globalImplicit := by decide +kernel
theorem lm539 {P : Program} {w : World} {K : PySem.W.Frag} {mg : Str → Option Value} {base : Heap} {f : Addr} : ∀ k, Gl ((FX_law_best_runs P w K mg base f).X k) "len" := fun _ => lm538
theorem lm540 : List.lookup ("_law_arrow" : Str) (Scope.names (defScope st_law_best_runs)) = some NameKind.local := by decide +kernel
theorem lm541 {P : Program} {w : World} {K : PySem.W.Frag} {mg : Str → Option Value} {base : Heap} {f : Addr} : ∀ k, Loc ((FX_law_best_runs P w K mg base f).X k).env.scope "_law_arrow" := fun _ => Or.inl lm540
theorem lm542 {P : Program} {w : World} {K : PySem.W.Frag} {mg : Str → Option Value} {base : Heap} {f : Addr} : ∀ k, ((FX_law_best_runs P w K mg base f).X k).fn "_law_arrow" = true ∨ List.lookup ("_law_arrow" : Str) ((FX_law_best_runs P w K mg base f).X k).env.scope.names = some NameKind.local := fun _ => Or.inr lm540
theorem lm543 : List.lookup ("_law_tail" : Str) (Scope.names (defScope st_law_best_runs)) = some NameKind.local := by decide +kernel
theorem lm544 {P : Program} {w : World} {K : PySem.W.Frag} {mg : Str → Option Value} {base : Heap} {f : Addr} : ∀ k, Vis ((FX_law_best_runs P w K mg base f).X k).env.scope "_law_tail" := fun _ => Or.inl lm543
theorem lm545 : List.lookup ("_law_head" : Str) (Scope.names (defScope st_law_best_runs)) = some NameKind.local := by decide +kernel
theorem lm546 {P : Program} {w : World} {K : PySem.W.Frag} {mg : Str → Option Value} {base : Heap} {f : Addr} : ∀ k, Vis ((FX_law_best_runs P w K mg base f).X k).env.scope "_law_head" := fun _ => Or.inl lm545
theorem lm547 : List.lookup ("_law_other" : Str) (Scope.names (defScope st_law_best_runs)) = some NameKind.local := by decide +kernel
theorem lm548 {P : Program} {w : World} {K : PySem.W.Frag} {mg : Str → Option Value} {base : Heap} {f : Addr} : ∀ k, Vis ((FX_law_best_runs P w K mg base f).X k).env.scope "_law_other" := fun _ => Or.inl lm547
theorem lm549 : (("_law_other" : Str) == ("__debug__" : Str)) = false := by decide +kernel
theorem lm550 : (("_law_other" : Str) == ("__classdict__" : Str)) = false := by decide +kernel
theorem lm551 {P : Program} {w : World} {K : PySem.W.Frag} {mg : Str → Option Value} {base : Heap} {f : Addr} : ∀ k, Vis ((FX_law_best_runs P w K mg base f).X k).env.scope "_law_arrow" := fun _ => Or.inl lm540
theorem lm552 {P : Program} {w : World} {K : PySem.W.Frag} {mg : Str → Option Value} {base : Heap} {f : Addr} : ∀ k, Loc ((FX_law_best_runs P w K mg base f).X k).env.scope "_law_other" := fun _ => Or.inl lm547
theorem lm553 {P : Program} {w : World} {K : PySem.W.Frag} {mg : Str → Option Value} {base : Heap} {f : Addr} : ∀ k, ((FX_law_best_runs P w K mg base f).X k).fn "_law_other" = true ∨ List.lookup ("_law_other" : Str) ((FX_law_best_runs P w K mg base f).X k).env.scope.names = some NameKind.local := fun _ => Or.inr lm547
theorem lm554 {P : Program} {w : World} {K : PySem.W.Frag} {mg : Str → Option Value} {base : Heap} {f : Addr} : ∀ k, Loc ((FX_law_best_runs P w K mg base f).X k).env.scope "_law_head" := fun _ => Or.inl lm545
theorem lm555 {P : Program} {w : World} {K : PySem.W.Frag} {mg : Str → Option Value} {base : Heap} {f : Addr} : ∀ k, ((FX_law_best_runs P w K mg base f).X k).fn "_law_head" = true ∨ List.lookup ("_law_head" : Str) ((FX_law_best_runs P w K mg base f).X k).env.scope.names = some NameKind.local := fun _ => Or.inr lm545
theorem lm556 {P : Program} {w : World} {K : PySem.W.Frag} {mg : Str → Option Value} {base : Heap} {f : Addr} : ∀ k, Loc ((FX_law_best_runs P w K mg base f).X k).env.scope "_law_tail" := fun _ => Or.inl lm543
theorem lm557 {P : Program} {w : World} {K : PySem.W.Frag} {mg : Str → Option Value} {base : Heap} {f : Addr} : ∀ k, ((FX_law_best_runs P w K mg base f).X k).fn "_law_tail" = true ∨ List.lookup ("_law_tail" : Str) ((FX_law_best_runs P w K mg base f).X k).env.scope.names = some NameKind.local := fun _ => Or.inr lm543
theorem lm558 {P : Program} {w : World} {K : PySem.W.Frag} {mg : Str → Option Value} {base : Heap} {f : Addr} : ∀ k, Loc ((FX_law_best_runs P w K mg base f).X k).env.scope "_law_best" := fun _ => Or.inl lm525
theorem lm559 {P : Program} {w : World} {K : PySem.W.Frag} {mg : Str → Option Value} {base : Heap} {f : Addr} : ∀ k, ((FX_law_best_runs P w K mg base f).X k).fn "_law_best" = true ∨ List.lookup ("_law_best" : Str) ((FX_law_best_runs P w K mg base f).X k).env.scope.names = some NameKind.local := fun _ => Or.inr lm525
theorem lm560 : List.lookup ("_law_counts_here" : Str) (Scope.names (defScope st_law_counts)) = some NameKind.local := by decide +kernel
theorem lm561 {P : Program} {w : World} {K : PySem.W.Frag} {mg : Str → Option Value} {base : Heap} {f : Addr} : ∀ k, Vis ((FX_law_counts P w K mg base f).X k).env.scope "_law_counts_here" := fun _ => Or.inl lm560
theorem lm562 : (("_law_counts_here" : Str) == ("__debug__" : Str)) = false := by decide +kernel
theorem lm563 : (("_law_counts_here" : Str) == ("__classdict__" : Str)) = false := by decide +kernel
theorem lm564 : List.lookup ("_law_most" : Str) (Scope.names (defScope st_law_counts)) = some NameKind.local := by decide +kernel
theorem lm565 {P : Program} {w : World} {K : PySem.W.Frag} {mg : Str → Option Value} {base : Heap} {f : Addr} : ∀ k, Vis ((FX_law_counts P w K mg base f).X k).env.scope "_law_most" := fun _ => Or.inl lm564
theorem lm566 : List.lookup ("range" : Str) (Scope.names (defScope st_law_counts)) = some NameKind.globalImplicit := by decide +kernel
theorem lm567 {P : Program} {w : World} {K : PySem.W.Frag} {mg : Str → Option Value} {base : Heap} {f : Addr} : ∀ k, Gl ((FX_law_counts P w K mg base f).X k) "range" := fun _ => lm566
theorem lm568 : List.lookup ("_law_step" : Str) (Scope.names (defScope st_law_counts)) = some NameKind.local := by decide +kernel
theorem lm569 {P : Program} {w : World} {K : PySem.W.Frag} {mg : Str → Option Value} {base : Heap} {f : Addr} : ∀ k, Loc ((FX_law_counts P w K mg base f).X k).env.scope "_law_step" := fun _ => Or.inl lm568
theorem lm570 {P : Program} {w : World} {K : PySem.W.Frag} {mg : Str → Option Value} {base : Heap} {f : Addr} : ∀ k, ((FX_law_counts P w K mg base f).X k).fn "_law_step" = true ∨ List.lookup ("_law_step" : Str) ((FX_law_counts P w K mg base f).X k).env.scope.names = some NameKind.local := fun _ => Or.inr lm568
theorem lm571 : List.lookup ("_law_ways" : Str) (Scope.names (defScope st_law_counts)) = some NameKind.local := by decide +kernel
theorem lm572 {P : Program} {w : World} {K : PySem.W.Frag} {mg : Str → Option Value} {base : Heap} {f : Addr} : ∀ k, Vis ((FX_law_counts P w K mg base f).X k).env.scope "_law_ways" := fun _ => Or.inl lm571
theorem lm573 : (("_law_ways" : Str) == ("__debug__" : Str)) = false := by decide +kernel
theorem lm574 : (("_law_ways" : Str) == ("__classdict__" : Str)) = false := by decide +kernel
theorem lm575 : List.lookup ("sum" : Str) (Scope.names (defScope st_law_counts)) = some NameKind.globalImplicit := by decide +kernel
theorem lm576 {P : Program} {w : World} {K : PySem.W.Frag} {mg : Str → Option Value} {base : Heap} {f : Addr} : ∀ k, Gl ((FX_law_counts P w K mg base f).X k) "sum" := fun _ => lm575
theorem lm577 : List.lookup ("_law_longer" : Str) (Scope.names (defScope st_law_counts)) = some NameKind.local := by decide +kernel
theorem lm578 {P : Program} {w : World} {K : PySem.W.Frag} {mg : Str → Option Value} {base : Heap} {f : Addr} : ∀ k, Vis ((FX_law_counts P w K mg base f).X k).env.scope "_law_longer" := fun _ => Or.inl lm577
theorem lm579 : (("_law_longer" : Str) == ("__debug__" : Str)) = false := by decide +kernel
theorem lm580 : (("_law_longer" : Str) == ("__classdict__" : Str)) = false := by decide +kernel
theorem lm581 : List.lookup ("list" : Str) (Scope.names (defScope st_law_counts)) = some NameKind.globalImplicit := by decide +kernel
theorem lm582 {P : Program} {w : World} {K : PySem.W.Frag} {mg : Str → Option Value} {base : Heap} {f : Addr} : ∀ k, Gl ((FX_law_counts P w K mg base f).X k) "list" := fun _ => lm581
theorem lm583 {P : Program} {w : World} {K : PySem.W.Frag} {mg : Str → Option Value} {base : Heap} {f : Addr} : ∀ k, Loc ((FX_law_counts P w K mg base f).X k).env.scope "_law_ways" := fun _ => Or.inl lm571
theorem lm584 {P : Program} {w : World} {K : PySem.W.Frag} {mg : Str → Option Value} {base : Heap} {f : Addr} : ∀ k, ((FX_law_counts P w K mg base f).X k).fn "_law_ways" = true ∨ List.lookup ("_law_ways" : Str) ((FX_law_counts P w K mg base f).X k).env.scope.names = some NameKind.local := fun _ => Or.inr lm571
theorem lm585 : List.lookup ("_law_arrows" : Str) (Scope.names (defScope st_law_counts)) = some NameKind.local := by decide +kernel
theorem lm586 {P : Program} {w : World} {K : PySem.W.Frag} {mg : Str → Option Value} {base : Heap} {f : Addr} : ∀ k, Vis ((FX_law_counts P w K mg base f).X k).env.scope "_law_arrows" := fun _ => Or.inl lm585
theorem lm587 : List.lookup ("_law_head" : Str) (Scope.names (defScope st_law_counts)) = some NameKind.local := by decide +kernel
theorem lm588 {P : Program} {w : World} {K : PySem.W.Frag} {mg : Str → Option Value} {base : Heap} {f : Addr} : ∀ k, Loc ((FX_law_counts P w K mg base f).X k).env.scope "_law_head" := fun _ => Or.inl lm587
theorem lm589 {P : Program} {w : World} {K : PySem.W.Frag} {mg : Str → Option Value} {base : Heap} {f : Addr} : ∀ k, ((FX_law_counts P w K mg base f).X k).fn "_law_head" = true ∨ List.lookup ("_law_head" : Str) ((FX_law_counts P w K mg base f).X k).env.scope.names = some NameKind.local := fun _ => Or.inr lm587
theorem lm590 : List.lookup ("_law_tail" : Str) (Scope.names (defScope st_law_counts)) = some NameKind.local := by decide +kernel
theorem lm591 {P : Program} {w : World} {K : PySem.W.Frag} {mg : Str → Option Value} {base : Heap} {f : Addr} : ∀ k, Loc ((FX_law_counts P w K mg base f).X k).env.scope "_law_tail" := fun _ => Or.inl lm590
theorem lm592 {P : Program} {w : World} {K : PySem.W.Frag} {mg : Str → Option Value} {base : Heap} {f : Addr} : ∀ k, ((FX_law_counts P w K mg base f).X k).fn "_law_tail" = true ∨ List.lookup ("_law_tail" : Str) ((FX_law_counts P w K mg base f).X k).env.scope.names = some NameKind.local := fun _ => Or.inr lm590
theorem lm593 {P : Program} {w : World} {K : PySem.W.Frag} {mg : Str → Option Value} {base : Heap} {f : Addr} : ∀ k, Vis ((FX_law_counts P w K mg base f).X k).env.scope "_law_head" := fun _ => Or.inl lm587
theorem lm594 {P : Program} {w : World} {K : PySem.W.Frag} {mg : Str → Option Value} {base : Heap} {f : Addr} : ∀ k, Vis ((FX_law_counts P w K mg base f).X k).env.scope "_law_tail" := fun _ => Or.inl lm590
theorem lm595 : List.lookup ("_law_many" : Str) (Scope.names (defScope st_law_counts)) = some NameKind.local := by decide +kernel
theorem lm596 {P : Program} {w : World} {K : PySem.W.Frag} {mg : Str → Option Value} {base : Heap} {f : Addr} : ∀ k, Vis ((FX_law_counts P w K mg base f).X k).env.scope "_law_many" := fun _ => Or.inl lm595
theorem lm597 {P : Program} {w : World} {K : PySem.W.Frag} {mg : Str → Option Value} {base : Heap} {f : Addr} : ∀ k, Loc ((FX_law_counts P w K mg base f).X k).env.scope "_law_longer" := fun _ => Or.inl lm577
theorem lm598 {P : Program} {w : World} {K : PySem.W.Frag} {mg : Str → Option Value} {base : Heap} {f : Addr} : ∀ k, ((FX_law_counts P w K mg base f).X k).fn "_law_longer" = true ∨ List.lookup ("_law_longer" : Str) ((FX_law_counts P w K mg base f).X k).env.scope.names = some NameKind.local := fun _ => Or.inr lm577
theorem lm599 {P : Program} {w : World} {K : PySem.W.Frag} {mg : Str → Option Value} {base : Heap} {f : Addr} : ∀ k, Loc ((FX_law_counts P w K mg base f).X k).env.scope "_law_counts_here" := fun _ => Or.inl lm560
theorem lm600 {P : Program} {w : World} {K : PySem.W.Frag} {mg : Str → Option Value} {base : Heap} {f : Addr} : ∀ k, ((FX_law_counts P w K mg base f).X k).fn "_law_counts_here" = true ∨ List.lookup ("_law_counts_here" : Str) ((FX_law_counts P w K mg base f).X k).env.scope.names = some NameKind.local := fun _ => Or.inr lm560
theorem lm601 : List.lookup ("_law_length" : Str) (Scope.names (defScope st_law_length_word)) = some NameKind.local := by decide +kernel
theorem lm602 {P : Program} {w : World} {K : PySem.W.Frag} {mg : Str → Option Value} {base : Heap} {f : Addr} : ∀ k, Vis ((trF (FX_law_length_word P w K mg base f)).X k).env.scope "_law_length" := fun _ => Or.inl lm601
theorem lm603 : (("_law_length" : Str) == ("__debug__" : Str)) = false := by decide +kernel
theorem lm604 : (("_law_length" : Str) == ("__classdict__" : Str)) = false := by decide +kernel
theorem lm605 : List.lookup ("_law_chart_here" : Str) (Scope.names (defScope st_law_length_word)) = some NameKind.local := by decide +kernel
theorem lm606 {P : Program} {w : World} {K : PySem.W.Frag} {mg : Str → Option Value} {base : Heap} {f : Addr} : ∀ k, Vis ((trF (FX_law_length_word P w K mg base f)).X k).env.scope "_law_chart_here" := fun _ => Or.inl lm605
theorem lm607 : (("_law_chart_here" : Str) == ("__debug__" : Str)) = false := by decide +kernel
theorem lm608 : (("_law_chart_here" : Str) == ("__classdict__" : Str)) = false := by decide +kernel
theorem lm609 : List.lookup ("count_runs" : Str) (Scope.names (defScope st_law_length_word)) = some NameKind.globalImplicit := by decide +kernel
theorem lm610 {P : Program} {w : World} {K : PySem.W.Frag} {mg : Str → Option Value} {base : Heap} {f : Addr} : ∀ k, Gl ((trF (FX_law_length_word P w K mg base f)).X k) "count_runs" := fun _ => lm609
theorem lm611 : (("count_runs" : Str) == ("__debug__" : Str)) = false := by decide +kernel
theorem lm612 : List.lookup ("_law_way" : Str) (Scope.names (defScope st_law_length_word)) = some NameKind.local := by decide +kernel
theorem lm613 {P : Program} {w : World} {K : PySem.W.Frag} {mg : Str → Option Value} {base : Heap} {f : Addr} : ∀ k, Vis ((trF (FX_law_length_word P w K mg base f)).X k).env.scope "_law_way" := fun _ => Or.inl lm612
theorem lm614 : (("_law_way" : Str) == ("__debug__" : Str)) = false := by decide +kernel
theorem lm615 : (("_law_way" : Str) == ("__classdict__" : Str)) = false := by decide +kernel
theorem lm616 : List.lookup ("all_runs" : Str) (Scope.names (defScope st_law_length_word)) = some NameKind.globalImplicit := by decide +kernel
theorem lm617 {P : Program} {w : World} {K : PySem.W.Frag} {mg : Str → Option Value} {base : Heap} {f : Addr} : ∀ k, Gl ((trF (FX_law_length_word P w K mg base f)).X k) "all_runs" := fun _ => lm616
theorem lm618 : List.lookup ("list" : Str) (Scope.names (defScope st_law_length_word)) = some NameKind.globalImplicit := by decide +kernel
theorem lm619 {P : Program} {w : World} {K : PySem.W.Frag} {mg : Str → Option Value} {base : Heap} {f : Addr} : ∀ k, Gl ((trF (FX_law_length_word P w K mg base f)).X k) "list" := fun _ => lm618
theorem lm620 : (("all_runs" : Str) == ("__debug__" : Str)) = false := by decide +kernel
theorem lm621 : List.lookup ("len" : Str) (Scope.names (defScope st_law_length_word)) = some NameKind.globalImplicit := by decide +kernel
theorem lm622 {P : Program} {w : World} {K : PySem.W.Frag} {mg : Str → Option Value} {base : Heap} {f : Addr} : ∀ k, Gl ((trF (FX_law_length_word P w K mg base f)).X k) "len" := fun _ => lm621
theorem lm623 : List.lookup ("e" : Str) (Scope.names (defScope st_law_length_word)) = some NameKind.local := by decide +kernel
theorem lm624 {P : Program} {w : World} {K : PySem.W.Frag} {mg : Str → Option Value} {base : Heap} {f : Addr} : ∀ k, Vis ((suF (FX_law_length_word P w K mg base f)).X k).env.scope "e" := fun _ => Or.inl lm623
theorem lm625 : (("e" : Str) == ("__debug__" : Str)) = false := by decide +kernel
theorem lm626 : (("e" : Str) == ("__classdict__" : Str)) = false := by decide +kernel
theorem lm627 {P : Program} {w : World} {K : PySem.W.Frag} {mg : Str → Option Value} {base : Heap} {f : Addr} : ∀ k, List.lookup ("e" : Str) ((FX_law_length_word P w K mg base f).X k).env.scope.names = some NameKind.local := fun _ => lm623
theorem lm628 : List.lookup ("BadLength" : Str) (Scope.names (defScope st_law_length_word)) = some NameKind.globalImplicit := by decide +kernel
theorem lm629 {P : Program} {w : World} {K : PySem.W.Frag} {mg : Str → Option Value} {base : Heap} {f : Addr} : ∀ k, Gl ((FX_law_length_word P w K mg base f).X k) "BadLength" := fun _ => lm628
theorem lm630 : List.lookup ("_law_place" : Str) (Scope.names (defScope st_law_place_word)) = some NameKind.local := by decide +kernel
theorem lm631 {P : Program} {w : World} {K : PySem.W.Frag} {mg : Str → Option Value} {base : Heap} {f : Addr} : ∀ k, Vis ((trF (FX_law_place_word P w K mg base f)).X k).env.scope "_law_place" := fun _ => Or.inl lm630
theorem lm632 : (("_law_place" : Str) == ("__debug__" : Str)) = false := by decide +kernel
theorem lm633 : (("_law_place" : Str) == ("__classdict__" : Str)) = false := by decide +kernel
theorem lm634 : List.lookup ("_law_chart_here" : Str) (Scope.names (defScope st_law_place_word)) = some NameKind.local := by decide +kernel
theorem lm635 {P : Program} {w : World} {K : PySem.W.Frag} {mg : Str → Option Value} {base : Heap} {f : Addr} : ∀ k, Vis ((trF (FX_law_place_word P w K mg base f)).X k).env.scope "_law_chart_here" := fun _ => Or.inl lm634
theorem lm636 : List.lookup ("run_to" : Str) (Scope.names (defScope st_law_place_word)) = some NameKind.globalImplicit := by decide +kernel
theorem lm637 {P : Program} {w : World} {K : PySem.W.Frag} {mg : Str → Option Value} {base : Heap} {f : Addr} : ∀ k, Gl ((trF (FX_law_place_word P w K mg base f)).X k) "run_to" := fun _ => lm636
theorem lm638 : (("run_to" : Str) == ("__debug__" : Str)) = false := by decide +kernel
theorem lm639 : List.lookup ("e" : Str) (Scope.names (defScope st_law_place_word)) = some NameKind.local := by decide +kernel
theorem lm640 {P : Program} {w : World} {K : PySem.W.Frag} {mg : Str → Option Value} {base : Heap} {f : Addr} : ∀ k, Vis ((suF (FX_law_place_word P w K mg base f)).X k).env.scope "e" := fun _ => Or.inl lm639
theorem lm641 {P : Program} {w : World} {K : PySem.W.Frag} {mg : Str → Option Value} {base : Heap} {f : Addr} : ∀ k, List.lookup ("e" : Str) ((FX_law_place_word P w K mg base f).X k).env.scope.names = some NameKind.local := fun _ => lm639
theorem lm642 : List.lookup ("BadPlace" : Str) (Scope.names (defScope st_law_place_word)) = some NameKind.globalImplicit := by decide +kernel
theorem lm643 {P : Program} {w : World} {K : PySem.W.Frag} {mg : Str → Option Value} {base : Heap} {f : Addr} : ∀ k, Gl ((FX_law_place_word P w K mg base f).X k) "BadPlace" := fun _ => lm642
theorem lm644 : List.lookup ("_law_odd_here" : Str) (Scope.names (defScope st_law)) = some NameKind.local := by decide +kernel
theorem lm645 {P : Program} {w : World} {K : PySem.W.Frag} {mg : Str → Option Value} {base : Heap} {f : Addr} : ∀ k, Vis ((FX_law P w K mg base f).X k).env.scope "_law_odd_here" := fun _ => Or.inl lm644
theorem lm646 : (("_law_odd_here" : Str) == ("__debug__" : Str)) = false := by decide +kernel
theorem lm647 : (("_law_odd_here" : Str) == ("__classdict__" : Str)) = false := by decide +kernel
theorem lm648 : List.lookup ("_law_chart_here" : Str) (Scope.names (defScope st_law)) = some NameKind.local := by decide +kernel
theorem lm649 {P : Program} {w : World} {K : PySem.W.Frag} {mg : Str → Option Value} {base : Heap} {f : Addr} : ∀ k, Vis ((FX_law P w K mg base f).X k).env.scope "_law_chart_here" := fun _ => Or.inl lm648
theorem lm650 : List.lookup ("_law_place_word" : Str) (Scope.names (defScope st_law)) = some NameKind.globalImplicit := by decide +kernel
theorem lm651 {P : Program} {w : World} {K : PySem.W.Frag} {mg : Str → Option Value} {base : Heap} {f : Addr} : ∀ k, Gl ((FX_law P w K mg base f).X k) "_law_place_word" := fun _ => lm650
theorem lm652 : (("_law_place_word" : Str) == ("__debug__" : Str)) = false := by decide +kernel
theorem lm653 : List.lookup ("_law_many" : Str) (Scope.names (defScope st_law)) = some NameKind.local := by decide +kernel
theorem lm654 {P : Program} {w : World} {K : PySem.W.Frag} {mg : Str → Option Value} {base : Heap} {f : Addr} : ∀ k, Vis ((FX_law P w K mg base f).X k).env.scope "_law_many" := fun _ => Or.inl lm653
theorem lm655 : List.lookup ("_law_hand_here" : Str) (Scope.names (defScope st_law)) = some NameKind.local := by decide +kernel
theorem lm656 {P : Program} {w : World} {K : PySem.W.Frag} {mg : Str → Option Value} {base : Heap} {f : Addr} : ∀ k, Vis ((FX_law P w K mg base f).X k).env.scope "_law_hand_here" := fun _ => Or.inl lm655
theorem lm657 : List.lookup ("_law_odd" : Str) (Scope.names (defScope st_law)) = some NameKind.globalImplicit := by decide +kernel
theorem lm658 {P : Program} {w : World} {K : PySem.W.Frag} {mg : Str → Option Value} {base : Heap} {f : Addr} : ∀ k, Gl ((FX_law P w K mg base f).X k) "_law_odd" := fun _ => lm657
theorem lm659 : (("_law_odd" : Str) == ("__debug__" : Str)) = false := by decide +kernel
theorem lm660 {P : Program} {w : World} {K : PySem.W.Frag} {mg : Str → Option Value} {base : Heap} {f : Addr} : ∀ k, Loc ((FX_law P w K mg base f).X k).env.scope "_law_odd_here" := fun _ => Or.inl lm644
theorem lm661 {P : Program} {w : World} {K : PySem.W.Frag} {mg : Str → Option Value} {base : Heap} {f : Addr} : ∀ k, ((FX_law P w K mg base f).X k).fn "_law_odd_here" = true ∨ List.lookup ("_law_odd_here" : Str) ((FX_law P w K mg base f).X k).env.scope.names = some NameKind.local := fun _ => Or.inr lm644
theorem lm662 : List.lookup ("range" : Str) (Scope.names (defScope st_law)) = some NameKind.globalImplicit := by decide +kernel
theorem lm663 {P : Program} {w : World} {K : PySem.W.Frag} {mg : Str → Option Value} {base : Heap} {f : Addr} : ∀ k, Gl ((FX_law P w K mg base f).X k) "range" := fun _ => lm662
theorem lm664 : List.lookup ("_law_step" : Str) (Scope.names (defScope st_law)) = some NameKind.local := by decide +kernel
theorem lm665 {P : Program} {w : World} {K : PySem.W.Frag} {mg : Str → Option Value} {base : Heap} {f : Addr} : ∀ k, Loc ((FX_law P w K mg base f).X k).env.scope "_law_step" := fun _ => Or.inl lm664
theorem lm666 {P : Program} {w : World} {K : PySem.W.Frag} {mg : Str → Option Value} {base : Heap} {f : Addr} : ∀ k, ((FX_law P w K mg base f).X k).fn "_law_step" = true ∨ List.lookup ("_law_step" : Str) ((FX_law P w K mg base f).X k).env.scope.names = some NameKind.local := fun _ => Or.inr lm664
theorem lm667 {P : Program} {w : World} {K : PySem.W.Frag} {mg : Str → Option Value} {base : Heap} {f : Addr} : ∀ k, Vis ((FX_law P w K mg base f).X k).env.scope "_law_step" := fun _ => Or.inl lm664
theorem lm668 : (("_law_step" : Str) == ("__debug__" : Str)) = false := by decide +kernel
theorem lm669 : (("_law_step" : Str) == ("__classdict__" : Str)) = false := by decide +kernel
theorem lm670 : List.lookup ("_law_length_word" : Str) (Scope.names (defScope st_law)) = some NameKind.globalImplicit := by decide +kernel
theorem lm671 {P : Program} {w : World} {K : PySem.W.Frag} {mg : Str → Option Value} {base : Heap} {f : Addr} : ∀ k, Gl ((FX_law P w K mg base f).X k) "_law_length_word" := fun _ => lm670
theorem lm672 : (("_law_length_word" : Str) == ("__debug__" : Str)) = false := by decide +kernel
theorem lm673 : List.lookup ("_law_place" : Str) (Scope.names (defScope st_law)) = some NameKind.cell := by decide +kernel
theorem lm674 {P : Program} {w : World} {K : PySem.W.Frag} {mg : Str → Option Value} {base : Heap} {f : Addr} : ∀ k, Loc ((FX_law P w K mg base f).X k).env.scope "_law_place" := fun _ => Or.inr lm673
theorem lm675 {P : Program} {w : World} {K : PySem.W.Frag} {mg : Str → Option Value} {base : Heap} {f : Addr} : ∀ k, ((FX_law P w K mg base f).X k).fn "_law_place" = true ∨ List.lookup ("_law_place" : Str) ((FX_law P w K mg base f).X k).env.scope.names = some NameKind.local := fun _ => Or.inl (show (List.lookup ("_law_place" : Str) (Scope.names (defScope st_law)) == some NameKind.cell) = true by rw [lm673]; rfl)
theorem lm676 {P : Program} {w : World} {K : PySem.W.Frag} {mg : Str → Option Value} {base : Heap} {f : Addr} : ∀ k, Vis ((FX_law P w K mg base f).X k).env.scope "_law_place" := fun _ => Or.inr (Or.inl lm673)
theorem lm677 : List.lookup ("run_to" : Str) (Scope.names (defScope st_law)) = some NameKind.globalImplicit := by decide +kernel
theorem lm678 {P : Program} {w : World} {K : PySem.W.Frag} {mg : Str → Option Value} {base : Heap} {f : Addr} : ∀ k, Gl ((FX_law P w K mg base f).X k) "run_to" := fun _ => lm677
theorem lm679 : List.lookup ("_law_best" : Str) (Scope.names (defScope st_law)) = some NameKind.local := by decide +kernel
theorem lm680 {P : Program} {w : World} {K : PySem.W.Frag} {mg : Str → Option Value} {base : Heap} {f : Addr} : ∀ k, Vis ((FX_law P w K mg base f).X k).env.scope "_law_best" := fun _ => Or.inl lm679
theorem lm681 : List.lookup ("_law_tuples" : Str) (Scope.names (defScope st_law)) = some NameKind.globalImplicit := by decide +kernel
theorem lm682 {P : Program} {w : World} {K : PySem.W.Frag} {mg : Str → Option Value} {base : Heap} {f : Addr} : ∀ k, Gl ((FX_law P w K mg base f).X k) "_law_tuples" := fun _ => lm681
theorem lm683 : List.lookup ("_law_arrows" : Str) (Scope.names (defScope st_law)) = some NameKind.cell := by decide +kernel
theorem lm684 {P : Program} {w : World} {K : PySem.W.Frag} {mg : Str → Option Value} {base : Heap} {f : Addr} : ∀ k, Vis ((FX_law P w K mg base f).X k).env.scope "_law_arrows" := fun _ => Or.inr (Or.inl lm683)
theorem lm685 : List.lookup ("_law_best_runs" : Str) (Scope.names (defScope st_law)) = some NameKind.globalImplicit := by decide +kernel
theorem lm686 {P : Program} {w : World} {K : PySem.W.Frag} {mg : Str → Option Value} {base : Heap} {f : Addr} : ∀ k, Gl ((FX_law P w K mg base f).X k) "_law_best_runs" := fun _ => lm685
theorem lm687 : (("_law_best_runs" : Str) == ("__debug__" : Str)) = false := by decide +kernel
theorem lm688 {P : Program} {w : World} {K : PySem.W.Frag} {mg : Str → Option Value} {base : Heap} {f : Addr} : ∀ k, Loc ((FX_law P w K mg base f).X k).env.scope "_law_best" := fun _ => Or.inl lm679
theorem lm689 {P : Program} {w : World} {K : PySem.W.Frag} {mg : Str → Option Value} {base : Heap} {f : Addr} : ∀ k, ((FX_law P w K mg base f).X k).fn "_law_best" = true ∨ List.lookup ("_law_best" : Str) ((FX_law P w K mg base f).X k).env.scope.names = some NameKind.local := fun _ => Or.inr lm679
theorem lm690 : List.lookup ("_law_far" : Str) (Scope.names (defScope st_law)) = some NameKind.local := by decide +kernel
theorem lm691 {P : Program} {w : World} {K : PySem.W.Frag} {mg : Str → Option Value} {base : Heap} {f : Addr} : ∀ k, Vis ((FX_law P w K mg base f).X k).env.scope "_law_far" := fun _ => Or.inl lm690
theorem lm692 : (("_law_far" : Str) == ("__debug__" : Str)) = false := by decide +kernel
theorem lm693 : (("_law_far" : Str) == ("__classdict__" : Str)) = false := by decide +kernel
theorem lm694 : List.lookup ("count_runs" : Str) (Scope.names (defScope st_law)) = some NameKind.globalImplicit := by decide +kernel
theorem lm695 {P : Program} {w : World} {K : PySem.W.Frag} {mg : Str → Option Value} {base : Heap} {f : Addr} : ∀ k, Gl ((FX_law P w K mg base f).X k) "count_runs" := fun _ => lm694
theorem lm696 : List.lookup ("_law_counts_here" : Str) (Scope.names (defScope st_law)) = some NameKind.local := by decide +kernel
theorem lm697 {P : Program} {w : World} {K : PySem.W.Frag} {mg : Str → Option Value} {base : Heap} {f : Addr} : ∀ k, Vis ((FX_law P w K mg base f).X k).env.scope "_law_counts_here" := fun _ => Or.inl lm696
theorem lm698 : List.lookup ("_law_length" : Str) (Scope.names (defScope st_law)) = some NameKind.local := by decide +kernel
theorem lm699 {P : Program} {w : World} {K : PySem.W.Frag} {mg : Str → Option Value} {base : Heap} {f : Addr} : ∀ k, Vis ((FX_law P w K mg base f).X k).env.scope "_law_length" := fun _ => Or.inl lm698
theorem lm700 : List.lookup ("_law_take" : Str) (Scope.names (defScope st_law)) = some NameKind.globalImplicit := by decide +kernel
theorem lm701 {P : Program} {w : World} {K : PySem.W.Frag} {mg : Str → Option Value} {base : Heap} {f : Addr} : ∀ k, Gl ((FX_law P w K mg base f).X k) "_law_take" := fun _ => lm700
theorem lm702 {P : Program} {w : World} {K : PySem.W.Frag} {mg : Str → Option Value} {base : Heap} {f : Addr} : ∀ k, Loc ((FX_law P w K mg base f).X k).env.scope "_law_far" := fun _ => Or.inl lm690
theorem lm703 {P : Program} {w : World} {K : PySem.W.Frag} {mg : Str → Option Value} {base : Heap} {f : Addr} : ∀ k, ((FX_law P w K mg base f).X k).fn "_law_far" = true ∨ List.lookup ("_law_far" : Str) ((FX_law P w K mg base f).X k).env.scope.names = some NameKind.local := fun _ => Or.inr lm690
theorem lm704 : List.lookup ("all_runs" : Str) (Scope.names (defScope st_law)) = some NameKind.globalImplicit := by decide +kernel
theorem lm705 {P : Program} {w : World} {K : PySem.W.Frag} {mg : Str → Option Value} {base : Heap} {f : Addr} : ∀ k, Gl ((FX_law P w K mg base f).X k) "all_runs" := fun _ => lm704
theorem lm706 : List.lookup ("list" : Str) (Scope.names (defScope st_law)) = some NameKind.globalImplicit := by decide +kernel
theorem lm707 {P : Program} {w : World} {K : PySem.W.Frag} {mg : Str → Option Value} {base : Heap} {f : Addr} : ∀ k, Gl ((FX_law P w K mg base f).X k) "list" := fun _ => lm706
theorem lm708 : List.lookup ("_law_level" : Str) (Scope.names (defScope st_law)) = some NameKind.local := by decide +kernel
theorem lm709 {P : Program} {w : World} {K : PySem.W.Frag} {mg : Str → Option Value} {base : Heap} {f : Addr} : ∀ k, Vis ((FX_law P w K mg base f).X k).env.scope "_law_level" := fun _ => Or.inl lm708
theorem lm710 : (("_law_level" : Str) == ("__debug__" : Str)) = false := by decide +kernel
theorem lm711 : (("_law_level" : Str) == ("__classdict__" : Str)) = false := by decide +kernel
theorem lm712 : List.lookup ("_law_told" : Str) (Scope.names (defScope st_law)) = some NameKind.local := by decide +kernel
theorem lm713 {P : Program} {w : World} {K : PySem.W.Frag} {mg : Str → Option Value} {base : Heap} {f : Addr} : ∀ k, Vis ((FX_law P w K mg base f).X k).env.scope "_law_told" := fun _ => Or.inl lm712
theorem lm714 : (("_law_told" : Str) == ("__debug__" : Str)) = false := by decide +kernel
theorem lm715 : (("_law_told" : Str) == ("__classdict__" : Str)) = false := by decide +kernel
theorem lm716 : List.lookup ("tuple" : Str) (Scope.names (defScope st_law)) = some NameKind.globalImplicit := by decide +kernel
theorem lm717 {P : Program} {w : World} {K : PySem.W.Frag} {mg : Str → Option Value} {base : Heap} {f : Addr} : ∀ k, Gl ((FX_law P w K mg base f).X k) "tuple" := fun _ => lm716
theorem lm718 : List.lookup ("len" : Str) (Scope.names (defScope st_law)) = some NameKind.globalImplicit := by decide +kernel
theorem lm719 {P : Program} {w : World} {K : PySem.W.Frag} {mg : Str → Option Value} {base : Heap} {f : Addr} : ∀ k, Gl ((FX_law P w K mg base f).X k) "len" := fun _ => lm718
theorem lm720 {P : Program} {w : World} {K : PySem.W.Frag} {mg : Str → Option Value} {base : Heap} {f : Addr} : ∀ k, Loc ((FX_law P w K mg base f).X k).env.scope "_law_told" := fun _ => Or.inl lm712
theorem lm721 {P : Program} {w : World} {K : PySem.W.Frag} {mg : Str → Option Value} {base : Heap} {f : Addr} : ∀ k, ((FX_law P w K mg base f).X k).fn "_law_told" = true ∨ List.lookup ("_law_told" : Str) ((FX_law P w K mg base f).X k).env.scope.names = some NameKind.local := fun _ => Or.inr lm712
theorem lm722 : List.lookup ("_law_longer" : Str) (Scope.names (defScope st_law)) = some NameKind.local := by decide +kernel
theorem lm723 {P : Program} {w : World} {K : PySem.W.Frag} {mg : Str → Option Value} {base : Heap} {f : Addr} : ∀ k, Vis ((FX_law P w K mg base f).X k).env.scope "_law_longer" := fun _ => Or.inl lm722
theorem lm724 {P : Program} {w : World} {K : PySem.W.Frag} {mg : Str → Option Value} {base : Heap} {f : Addr} : ∀ k, Loc ((FX_law P w K mg base f).X k).env.scope "_law_level" := fun _ => Or.inl lm708
theorem lm725 {P : Program} {w : World} {K : PySem.W.Frag} {mg : Str → Option Value} {base : Heap} {f : Addr} : ∀ k, ((FX_law P w K mg base f).X k).fn "_law_level" = true ∨ List.lookup ("_law_level" : Str) ((FX_law P w K mg base f).X k).env.scope.names = some NameKind.local := fun _ => Or.inr lm708
theorem lm726 : List.lookup ("_law_run" : Str) (Scope.names (defScope st_law)) = some NameKind.cell := by decide +kernel
theorem lm727 {P : Program} {w : World} {K : PySem.W.Frag} {mg : Str → Option Value} {base : Heap} {f : Addr} : ∀ k, Loc ((FX_law P w K mg base f).X k).env.scope "_law_run" := fun _ => Or.inr lm726
theorem lm728 {P : Program} {w : World} {K : PySem.W.Frag} {mg : Str → Option Value} {base : Heap} {f : Addr} : ∀ k, ((FX_law P w K mg base f).X k).fn "_law_run" = true ∨ List.lookup ("_law_run" : Str) ((FX_law P w K mg base f).X k).env.scope.names = some NameKind.local := fun _ => Or.inl (show (List.lookup ("_law_run" : Str) (Scope.names (defScope st_law)) == some NameKind.cell) = true by rw [lm726]; rfl)
theorem lm729 {P : Program} {w : World} {K : PySem.W.Frag} {mg : Str → Option Value} {base : Heap} {f : Addr} : ∀ k, Loc ((blkF (FX_law P w K mg base f) bs_law_0).X k).env.scope "_law_arrow" := fun _ => Or.inl (by kernel_rfl)
theorem lm730 {P : Program} {w : World} {K : PySem.W.Frag} {mg : Str → Option Value} {base : Heap} {f : Addr} : ∀ k, ((blkF (FX_law P w K mg base f) bs_law_0).X k).fn "_law_arrow" = true ∨ List.lookup ("_law_arrow" : Str) ((blkF (FX_law P w K mg base f) bs_law_0).X k).env.scope.names = some NameKind.local := fun _ => Or.inr (by kernel_rfl)
theorem lm731 {P : Program} {w : World} {K : PySem.W.Frag} {mg : Str → Option Value} {base : Heap} {f : Addr} : ∀ k, Vis ((blkF (FX_law P w K mg base f) bs_law_0).X k).env.scope "_law_arrows" := fun _ => Or.inr (Or.inl (by kernel_rfl))
theorem lm732 {P : Program} {w : World} {K : PySem.W.Frag} {mg : Str → Option Value} {base : Heap} {f : Addr} : ∀ k, Vis ((blkF (FX_law P w K mg base f) bs_law_0).X k).env.scope "_law_arrow" := fun _ => Or.inl (by kernel_rfl)
theorem lm733 {P : Program} {w : World} {K : PySem.W.Frag} {mg : Str → Option Value} {base : Heap} {f : Addr} : ∀ k, Vis ((blkF (FX_law P w K mg base f) bs_law_0).X k).env.scope "_law_place" := fun _ => Or.inr (Or.inl (by kernel_rfl))
theorem lm734 {P : Program} {w : World} {K : PySem.W.Frag} {mg : Str → Option Value} {base : Heap} {f : Addr} : ∀ k, Vis ((blkF (FX_law P w K mg base f) bs_law_0).X k).env.scope "_law_run" := fun _ => Or.inr (Or.inl (by kernel_rfl))
theorem lm735 {P : Program} {w : World} {K : PySem.W.Frag} {mg : Str → Option Value} {base : Heap} {f : Addr} : ∀ k, Loc ((FX_law P w K mg base f).X k).env.scope "_law_longer" := fun _ => Or.inl lm722
theorem lm736 {P : Program} {w : World} {K : PySem.W.Frag} {mg : Str → Option Value} {base : Heap} {f : Addr} : ∀ k, ((FX_law P w K mg base f).X k).fn "_law_longer" = true ∨ List.lookup ("_law_longer" : Str) ((FX_law P w K mg base f).X k).env.scope.names = some NameKind.local := fun _ => Or.inr lm722
theorem lm737 {P : Program} {w : World} {K : PySem.W.Frag} {mg : Str → Option Value} {base : Heap} {f : Addr} : ∀ k, Vis ((FX_law P w K mg base f).X k).env.scope "_law_run" := fun _ => Or.inr (Or.inl lm726)
theorem lm738 : List.lookup ("_law_places" : Str) (Scope.names (defScope st_law)) = some NameKind.globalImplicit := by decide +kernel
theorem lm739 {P : Program} {w : World} {K : PySem.W.Frag} {mg : Str → Option Value} {base : Heap} {f : Addr} : ∀ k, Gl ((FX_law P w K mg base f).X k) "_law_places" := fun _ => lm738
theorem lm740 : (("_law_places" : Str) == ("__debug__" : Str)) = false := by decide +kernel
theorem lm741 : List.lookup ("_law_wanted" : Str) (Scope.names (defScope st_law)) = some NameKind.local := by decide +kernel
theorem lm742 {P : Program} {w : World} {K : PySem.W.Frag} {mg : Str → Option Value} {base : Heap} {f : Addr} : ∀ k, Vis ((FX_law P w K mg base f).X k).env.scope "_law_wanted" := fun _ => Or.inl lm741
theorem lm743 : (("_law_wanted" : Str) == ("__debug__" : Str)) = false := by decide +kernel
theorem lm744 : (("_law_wanted" : Str) == ("__classdict__" : Str)) = false := by decide +kernel
theorem lm745 {P : Program} {w : World} {K : PySem.W.Frag} {mg : Str → Option Value} {base : Heap} {f : Addr} : ∀ k, Loc ((FX_law P w K mg base f).X k).env.scope "_law_length" := fun _ => Or.inl lm698
theorem lm746 {P : Program} {w : World} {K : PySem.W.Frag} {mg : Str → Option Value} {base : Heap} {f : Addr} : ∀ k, ((FX_law P w K mg base f).X k).fn "_law_length" = true ∨ List.lookup ("_law_length" : Str) ((FX_law P w K mg base f).X k).env.scope.names = some NameKind.local := fun _ => Or.inr lm698
theorem lm747 {P : Program} {w : World} {K : PySem.W.Frag} {mg : Str → Option Value} {base : Heap} {f : Addr} : ∀ k, Loc ((FX_law P w K mg base f).X k).env.scope "_law_wanted" := fun _ => Or.inl lm741
theorem lm748 {P : Program} {w : World} {K : PySem.W.Frag} {mg : Str → Option Value} {base : Heap} {f : Addr} : ∀ k, ((FX_law P w K mg base f).X k).fn "_law_wanted" = true ∨ List.lookup ("_law_wanted" : Str) ((FX_law P w K mg base f).X k).env.scope.names = some NameKind.local := fun _ => Or.inr lm741
theorem lm749 : List.lookup ("_law_counts" : Str) (Scope.names (defScope st_law)) = some NameKind.globalImplicit := by decide +kernel
theorem lm750 {P : Program} {w : World} {K : PySem.W.Frag} {mg : Str → Option Value} {base : Heap} {f : Addr} : ∀ k, Gl ((FX_law P w K mg base f).X k) "_law_counts" := fun _ => lm749
theorem lm751 : (("_law_counts" : Str) == ("__debug__" : Str)) = false := by decide +kernel
theorem lm752 {P : Program} {w : World} {K : PySem.W.Frag} {mg : Str → Option Value} {base : Heap} {f : Addr} : ∀ k, Loc ((FX_law P w K mg base f).X k).env.scope "_law_counts_here" := fun _ => Or.inl lm696
theorem lm753 {P : Program} {w : World} {K : PySem.W.Frag} {mg : Str → Option Value} {base : Heap} {f : Addr} : ∀ k, ((FX_law P w K mg base f).X k).fn "_law_counts_here" = true ∨ List.lookup ("_law_counts_here" : Str) ((FX_law P w K mg base f).X k).env.scope.names = some NameKind.local := fun _ => Or.inr lm696
theorem lm754 : List.lookup ("_law_costs_here" : Str) (Scope.names (defScope st_law)) = some NameKind.local := by decide +kernel
theorem lm755 {P : Program} {w : World} {K : PySem.W.Frag} {mg : Str → Option Value} {base : Heap} {f : Addr} : ∀ k, Vis ((FX_law P w K mg base f).X k).env.scope "_law_costs_here" := fun _ => Or.inl lm754
theorem lm756 : List.lookup ("Chart" : Str) (Scope.names (defScope st_law)) = some NameKind.globalImplicit := by decide +kernel
theorem lm757 {P : Program} {w : World} {K : PySem.W.Frag} {mg : Str → Option Value} {base : Heap} {f : Addr} : ∀ k, Gl ((FX_law P w K mg base f).X k) "Chart" := fun _ => lm756
theorem lm758 : (("Chart" : Str) == ("__debug__" : Str)) = false := by decide +kernel
theorem lm759 {P : Program} {w : World} {K : PySem.W.Frag} {mg : Str → Option Value} {base : Heap} {f : Addr} : ∀ k, Loc ((FX_law P w K mg base f).X k).env.scope "_law_chart_here" := fun _ => Or.inl lm648
theorem lm760 {P : Program} {w : World} {K : PySem.W.Frag} {mg : Str → Option Value} {base : Heap} {f : Addr} : ∀ k, ((FX_law P w K mg base f).X k).fn "_law_chart_here" = true ∨ List.lookup ("_law_chart_here" : Str) ((FX_law P w K mg base f).X k).env.scope.names = some NameKind.local := fun _ => Or.inr lm648
theorem lm761 {P : Program} {w : World} {K : PySem.W.Frag} {mg : Str → Option Value} {base : Heap} {f : Addr} : ∀ k, Loc ((FX_law P w K mg base f).X k).env.scope "_law_many" := fun _ => Or.inl lm653
theorem lm762 {P : Program} {w : World} {K : PySem.W.Frag} {mg : Str → Option Value} {base : Heap} {f : Addr} : ∀ k, ((FX_law P w K mg base f).X k).fn "_law_many" = true ∨ List.lookup ("_law_many" : Str) ((FX_law P w K mg base f).X k).env.scope.names = some NameKind.local := fun _ => Or.inr lm653
theorem lm763 : List.lookup ("_law_chart" : Str) (Scope.names (defScope st_law)) = some NameKind.globalImplicit := by decide +kernel
theorem lm764 {P : Program} {w : World} {K : PySem.W.Frag} {mg : Str → Option Value} {base : Heap} {f : Addr} : ∀ k, Gl ((FX_law P w K mg base f).X k) "_law_chart" := fun _ => lm763
theorem lm765 : (("_law_chart" : Str) == ("__debug__" : Str)) = false := by decide +kernel
theorem lm766 {P : Program} {w : World} {K : PySem.W.Frag} {mg : Str → Option Value} {base : Heap} {f : Addr} : ∀ k, Loc ((FX_law P w K mg base f).X k).env.scope "_law_arrows" := fun _ => Or.inr lm683
theorem lm767 {P : Program} {w : World} {K : PySem.W.Frag} {mg : Str → Option Value} {base : Heap} {f : Addr} : ∀ k, ((FX_law P w K mg base f).X k).fn "_law_arrows" = true ∨ List.lookup ("_law_arrows" : Str) ((FX_law P w K mg base f).X k).env.scope.names = some NameKind.local := fun _ => Or.inl (show (List.lookup ("_law_arrows" : Str) (Scope.names (defScope st_law)) == some NameKind.cell) = true by rw [lm683]; rfl)
theorem lm768 {P : Program} {w : World} {K : PySem.W.Frag} {mg : Str → Option Value} {base : Heap} {f : Addr} : ∀ k, Loc ((FX_law P w K mg base f).X k).env.scope "_law_costs_here" := fun _ => Or.inl lm754
theorem lm769 {P : Program} {w : World} {K : PySem.W.Frag} {mg : Str → Option Value} {base : Heap} {f : Addr} : ∀ k, ((FX_law P w K mg base f).X k).fn "_law_costs_here" = true ∨ List.lookup ("_law_costs_here" : Str) ((FX_law P w K mg base f).X k).env.scope.names = some NameKind.local := fun _ => Or.inr lm754
theorem lm770 : List.lookup ("_law_script" : Str) (Scope.names (defScope st_law)) = some NameKind.local := by decide +kernel
theorem lm771 {P : Program} {w : World} {K : PySem.W.Frag} {mg : Str → Option Value} {base : Heap} {f : Addr} : ∀ k, Vis ((FX_law P w K mg base f).X k).env.scope "_law_script" := fun _ => Or.inl lm770
theorem lm772 : List.lookup ("_law_hand" : Str) (Scope.names (defScope st_law)) = some NameKind.globalImplicit := by decide +kernel
theorem lm773 {P : Program} {w : World} {K : PySem.W.Frag} {mg : Str → Option Value} {base : Heap} {f : Addr} : ∀ k, Gl ((FX_law P w K mg base f).X k) "_law_hand" := fun _ => lm772
theorem lm774 : (("_law_hand" : Str) == ("__debug__" : Str)) = false := by decide +kernel
theorem lm775 {P : Program} {w : World} {K : PySem.W.Frag} {mg : Str → Option Value} {base : Heap} {f : Addr} : ∀ k, Loc ((FX_law P w K mg base f).X k).env.scope "_law_hand_here" := fun _ => Or.inl lm655
theorem lm776 {P : Program} {w : World} {K : PySem.W.Frag} {mg : Str → Option Value} {base : Heap} {f : Addr} : ∀ k, ((FX_law P w K mg base f).X k).fn "_law_hand_here" = true ∨ List.lookup ("_law_hand_here" : Str) ((FX_law P w K mg base f).X k).env.scope.names = some NameKind.local := fun _ => Or.inr lm655


end DL
end

section
set_option Elab.async false
set_option linter.all false
set_option maxRecDepth 100000
set_option maxHeartbeats 400000
namespace DL
open PySem PySem.Spec PyProof.Rows L2
/- is_whole -/
def rd_is_whole (K : PySem.W.Frag) (g : Str → Addr) : DCtx → DS := fun c =>
    (dRet (dAndT (dCB (rIsi' K) (dCons (dVar 0) (dCons (dC (.ty .int)) dNil))) (dAndT (dNotT (dCB (rIsi' K) (dCons (dVar 0) (dCons (dC (.ty .bool)) dNil)))) (dChain (rI0' fun i j => .bl (decide (i ≤ j))) (rI0' fun i j => .bl (decide (i ≤ j))) (dVar 1) (dVar 0) (dVar 2)))))
theorem der_is_whole {P : Program} {w : World} {K : PySem.W.Frag} {mg : Str → Option Value} {base : Heap} {g : Str → Addr} {f : Addr} (fx : Fx P w K mg base g) :
    PDSs (FX_is_whole P w K mg base f) K (defBody st_is_whole) (rd_is_whole K g) :=
  (ss_1 (s_ret (pd_and (pd_isi fx.m_isinstance (pa_c (pd_v 0 (hv := lm5) (hd := lm6) (hcd := lm7)) (pa_c (pd_ty .int fx.m_int (by decide +kernel) (hg := lm1) (hn := lm2) (hd := lm3)) pa_n)) (hg := lm9)) (pd_and (pd_not (pd_isi fx.m_isinstance (pa_c (pd_v 0 (hv := lm5) (hd := lm6) (hcd := lm7)) (pa_c (pd_ty .bool fx.m_bool (by decide +kernel) (hg := lm11) (hn := lm12) (hd := lm13)) pa_n)) (hg := lm9))) (pd_one (pd_chain c_le c_le (pd_v 1 (hv := lm15) (hd := lm16) (hcd := lm17)) (pd_v 0 (hv := lm5) (hd := lm6) (hcd := lm7)) (pd_v 2 (hv := lm19) (hd := lm20) (hcd := lm21))))))))
end DL
end

section
set_option Elab.async false
set_option linter.all false
set_option maxRecDepth 100000
set_option maxHeartbeats 400000
namespace DL
open PySem PySem.Spec PyProof.Rows L2
/- is_row -/
def rd_is_row (K : PySem.W.Frag) (g : Str → Addr) : DCtx → DS := fun c =>
    (dRet (dAndT (dIsiT [.list, .tuple] (dVar 0)) (dChain (rI0' fun i j => .bl (decide (i ≤ j))) (rI0' fun i j => .bl (decide (i ≤ j))) (dVar 1) (dCB rLen' (dCons (dVar 0) dNil)) (dVar 2))))
theorem der_is_row {P : Program} {w : World} {K : PySem.W.Frag} {mg : Str → Option Value} {base : Heap} {g : Str → Addr} {f : Addr} (fx : Fx P w K mg base g) :
    PDSs (FX_is_row P w K mg base f) K (defBody st_is_row) (rd_is_row K g) :=
  (ss_1 (s_ret (pd_and (pd_isiT [.list, .tuple] fx.m_isinstance (pd_v 0 (hv := lm23) (hd := lm6) (hcd := lm7)) (fun k => (pa_cons (pe_bltn (v := .ty "list") (lm29 k) (by rw [Fam.mg k]; exact fx.m_list) (by decide +kernel) rfl lm30 lm31) (pa_cons (pe_bltn (v := .ty "tuple") (lm25 k) (by rw [Fam.mg k]; exact fx.m_tuple) (by decide +kernel) rfl lm26 lm27) pa_nil rfl) rfl)) (hg := lm33)) (pd_one (pd_chain c_le c_le (pd_v 1 (hv := lm35) (hd := lm36) (hcd := lm37)) (pd_len fx.m_len (pa_c (pd_v 0 (hv := lm23) (hd := lm6) (hcd := lm7)) pa_n) (hg := lm39)) (pd_v 2 (hv := lm41) (hd := lm42) (hcd := lm43)))))))
end DL
end

section
set_option Elab.async false
set_option linter.all false
set_option maxRecDepth 100000
set_option maxHeartbeats 400000
namespace DL
open PySem PySem.Spec PyProof.Rows L2
/- check_place -/
def rd_check_place (K : PySem.W.Frag) (g : Str → Addr) : DCtx → DS := fun c =>
    (dSeq (dIfS (dNot (dTru (dCall (F_is_whole K g) [] c.w (dCons (dVar 1) (dCons (dC (.int 0)) (dCons (dOp (rI0' fun i j => .int (i - j)) (dCB rLen' (dCons (dFld (g "Chart") "costs" (dVar 0)) dNil)) (dC (.int 1))) dNil)))))) (dRaise (g "BadPlace") ["place"] c.w (dCons (dVar 1) dNil)) dNext)
    (dRet (dVar 1)))
theorem der_check_place {P : Program} {w : World} {K : PySem.W.Frag} {mg : Str → Option Value} {base : Heap} {g : Str → Addr} {f : Addr} (fx : Fx P w K mg base g) (h_is_whole : FnD P w K mg base 1 "is_whole" (F_is_whole K g) []) :
    PDSs (FX_check_place P w K mg base f) K (defBody st_check_place) (rd_check_place K g) :=
  (ss_c (s_if (pdt_not (pdt_tru (pd_call h_is_whole bf_room (by decide) (pa_c (pd_v 1 (hv := lm45) (hd := lm46) (hcd := lm47)) (pa_c pd_int (pa_c (pd_sub (pd_len fx.m_len (pa_c (pd_fld fx.cls_Chart fx.na_Chart_costs (pd_v 0 (hv := lm49) (hd := lm50) (hcd := lm51))) pa_n) (hg := lm53)) pd_int) pa_n))) (hg := lm55) (hdb := lm56)))) (ss_1 (s_raise fx.ex_BadPlace bf_room (by decide) (pa_c (pd_v 1 (hv := lm45) (hd := lm46) (hcd := lm47)) pa_n) (hg := lm58) (hdb := lm59))) ss_nil)
    (ss_1 (s_ret (pd_v 1 (hv := lm45) (hd := lm46) (hcd := lm47)))))
end DL
end

section
set_option Elab.async false
set_option linter.all false
set_option maxRecDepth 100000
set_option maxHeartbeats 400000
namespace DL
open PySem PySem.Spec PyProof.Rows L2
/- reached_places -/
def rd_reached_places (K : PySem.W.Frag) (g : Str → Addr) : DCtx → DS := fun c =>
    (dSeq (dAsg (dLcM (diRng1 (dCons (dVar 0) dNil)) (dgName 2) dYes (dOp rEq' (dVar 2) (dC (.int 0))) [2]) (dgName 3))
    (dSeq (dAsg (dLstM (dCons (dC (.int 0)) dNil)) (dgName 4))
    (dSeq (dWhile (dTru (dVar 4)) (dSeq (dAsg (dBM rPop' (dVar 4) dNil) (dgName 2))
    (dFor (diSeq (dVar 1)) (dgTup 2 (dgCons (dgName 5) (dgCons (dgName 6) dgNil))) (dIfS (dAnd (dB (dOp rEq' (dVar 5) (dVar 2))) (dNot (dTru (dOp rIx' (dVar 3) (dVar 6))))) (dSeq (dAsg (dC (.bl true)) (dgSub (dVar 3) (dVar 6)))
    (dDrop (dBM rAppend' (dVar 4) (dCons (dVar 6) dNil)))) dNext))))
    (dRetG (dVar 3)))))
theorem der_reached_places {P : Program} {w : World} {K : PySem.W.Frag} {mg : Str → Option Value} {base : Heap} {g : Str → Addr} {f : Addr} (fx : Fx P w K mg base g) :
    PDSs (FX_reached_places P w K mg base f) K (defBody st_reached_places) (rd_reached_places K g) :=
  (ss_c (s_setLcM (own := [("place", 2)]) (g := fun cb0 => (dgName 2)) (tt := fun cb0 => dYes) (te := fun cb0 => (dOp rEq' (dVar 2) (dC (.int 0)))) (i := 3) (show ∀ k, ((FX_reached_places P w K mg base f).X k).N.Nodup from fun _ => sc_reached_places.nd) (by intro _; kernel_rfl) (i_r1 fx.m_range (pa_c (pd_v 0 (hv := lm91) (hd := lm92) (hcd := lm93)) pa_n) (hg := lm95)) (show ∀ k, BlkOk ((FX_reached_places P w K mg base f).X k).N ((FX_reached_places P w K mg base f).X k).env.scope bs_reached_places_0 [("place", 2)] from fun _ => blkOk_by blk_reached_places_0) (pg_n (i := 2) (show ∀ k, ((blkF (FX_reached_places P w K mg base f) bs_reached_places_0).X k).N.Nodup from fun _ => sc_reached_places.nd) (hx := lm96) (hf := lm97)) ts_nil (pd_c (c_eq (blk_room bf_room)) (pd_v 2 (hv := lm98) (hd := lm46) (hcd := lm47)) pd_int) (hyl := lm99))
    (ss_c (s_set (i := 4) (show ∀ k, ((FX_reached_places P w K mg base f).X k).N.Nodup from fun _ => sc_reached_places.nd) (pd_lstM (pa_c pd_int pa_n)) (hx := lm88) (hf := lm89))
    (ss_c (s_while bf_pso (pdt_tru (pd_v 4 (hv := lm65) (hd := lm66) (hcd := lm67))) (ss_c (s_set (i := 2) (show ∀ k, ((FX_reached_places P w K mg base f).X k).N.Nodup from fun _ => sc_reached_places.nd) (pd_pop (pd_v 4 (hv := lm65) (hd := lm66) (hcd := lm67))) (hx := lm86) (hf := lm87))
    (ss_1 (s_for (ws := [5, 6]) bf_pso (i_seq (pd_v 1 (hv := lm69) (hd := lm70) (hcd := lm71))) (pg_t (pgs_c (pg_n (i := 5) (show ∀ k, ((FX_reached_places P w K mg base f).X k).N.Nodup from fun _ => sc_reached_places.nd) (hx := lm76) (hf := lm77)) (pgs_c (pg_n (i := 6) (show ∀ k, ((FX_reached_places P w K mg base f).X k).N.Nodup from fun _ => sc_reached_places.nd) (hx := lm73) (hf := lm74)) pgs_n))) (ss_1 (s_if (pdw_and (pdt_c (c_eq bf_room) (pd_v 5 (hv := lm78) (hd := lm79) (hcd := lm80)) (pd_v 2 (hv := lm82) (hd := lm46) (hcd := lm47))) (pdw_and1 (pdt_not (pdt_tru (pd_ix (pd_v 3 (hv := lm61) (hd := lm62) (hcd := lm63)) (pd_v 6 (hv := lm83) (hd := lm84) (hcd := lm85))))))).pdt (ss_c (s_asg (ws := []) pd_bl (pg_s (pd_v 3 (hv := lm61) (hd := lm62) (hcd := lm63)) (pd_v 6 (hv := lm83) (hd := lm84) (hcd := lm85))))
    (ss_1 (s_expr (pd_append (pd_v 4 (hv := lm65) (hd := lm66) (hcd := lm67)) (pa_c (pd_v 6 (hv := lm83) (hd := lm84) (hcd := lm85)) pa_n))))) ss_nil))))))
    (ss_1 (s_retG (pd_v 3 (hv := lm61) (hd := lm62) (hcd := lm63)))))))
end DL
end

section
set_option Elab.async false
set_option linter.all false
set_option maxRecDepth 100000
set_option maxHeartbeats 400000
namespace DL
open PySem PySem.Spec PyProof.Rows L2
/- Chart.__init__ -/
def rd_Chart__init (K : PySem.W.Frag) (g : Str → Addr) : DCtx → DS := fun c =>
    (dSeq (dIfS (dNot (dTru (dCall (F_is_row K g) [] c.w (dCons (dVar 1) (dCons (dC (.int 1)) (dCons (dC (.int 16)) dNil)))))) (dRaise (g "BadChart") ["what", "index"] c.w (dCons (dC (.str "places")) (dCons (dC (.int 0)) dNil))) dNext)
    (dSeq (dFor (diEnum (dCons (dVar 1) dNil)) (dgTup 2 (dgCons (dgName 3) (dgCons (dgName 4) dgNil))) (dIfS (dNot (dTru (dCall (F_is_whole K g) [] c.w (dCons (dVar 4) (dCons (dC (.int 0)) (dCons (dOp (rI' CPow fun i j => .int (i ^ j.toNat)) (dC (.int 10)) (dC (.int 9))) dNil)))))) (dRaise (g "BadChart") ["what", "index"] c.w (dCons (dC (.str "cost")) (dCons (dVar 3) dNil))) dNext))
    (dSeq (dIfS (dNot (dTru (dCall (F_is_row K g) [] c.w (dCons (dVar 2) (dCons (dC (.int 0)) (dCons (dC (.int 32)) dNil)))))) (dRaise (g "BadChart") ["what", "index"] c.w (dCons (dC (.str "arrows")) (dCons (dC (.int 0)) dNil))) dNext)
    (dSeq (dAsg (dOp (rI0' fun i j => .int (i - j)) (dCB rLen' (dCons (dVar 1) dNil)) (dC (.int 1))) (dgName 5))
    (dSeq (dFor (diEnum (dCons (dVar 2) dNil)) (dgTup 2 (dgCons (dgName 3) (dgCons (dgName 6) dgNil))) (dIfS (dOr (dNot (dTru (dCall (F_is_row K g) [] c.w (dCons (dVar 6) (dCons (dC (.int 2)) (dCons (dC (.int 2)) dNil)))))) (dOr (dNot (dTru (dCall (F_is_whole K g) [] c.w (dCons (dOp rIx' (dVar 6) (dC (.int 0))) (dCons (dC (.int 0)) (dCons (dVar 5) dNil)))))) (dNot (dTru (dCall (F_is_whole K g) [] c.w (dCons (dOp rIx' (dVar 6) (dC (.int 1))) (dCons (dC (.int 0)) (dCons (dVar 5) dNil)))))))) (dRaise (g "BadChart") ["what", "index"] c.w (dCons (dC (.str "arrow")) (dCons (dVar 3) dNil))) dNext))
    (dSeq (dFor (diEnum (dCons (dCall (F_reached_places K g) [] c.w (dCons (dCB rLen' (dCons (dVar 1) dNil)) (dCons (dVar 2) dNil))) dNil)) (dgTup 2 (dgCons (dgName 7) (dgCons (dgName 8) dgNil))) (dIfS (dNot (dTru (dVar 8))) (dRaise (g "BadChart") ["what", "index"] c.w (dCons (dC (.str "reached")) (dCons (dVar 7) dNil))) dNext))
    (dSeq (dFldS (g "Chart") "costs" (dVar 0) (dCB rTupOf' (dCons (dVar 1) dNil)))
    (dFldS (g "Chart") "arrows" (dVar 0) (dCB rTupOf' (dCons (dLc (diSeq (dVar 2)) (dgName 6) dYes (dCB rTupOf' (dCons (dVar 6) dNil)) [6]) dNil))))))))))
theorem der_Chart__init {P : Program} {w : World} {K : PySem.W.Frag} {mg : Str → Option Value} {base : Heap} {g : Str → Addr} {f : Addr} (fx : Fx P w K mg base g) (h_is_row : FnD P w K mg base 1 "is_row" (F_is_row K g) []) (h_is_whole : FnD P w K mg base 1 "is_whole" (F_is_whole K g) []) (h_reached_places : FnD P w K mg base 1 "reached_places" (F_reached_places K g) []) :
    PDSs (FX_Chart__init P w K mg base f) K (defBody st_Chart__init) (rd_Chart__init K g) :=
  (ss_c (s_if (pdt_not (pdt_tru (pd_call h_is_row bf_room (by decide) (pa_c (pd_v 1 (hv := lm115) (hd := lm116) (hcd := lm117)) (pa_c pd_int (pa_c pd_int pa_n))) (hg := lm144) (hdb := lm145)))) (ss_1 (s_raise fx.ex_BadChart bf_room (by decide) (pa_c pd_str (pa_c pd_int pa_n)) (hg := lm134) (hdb := lm135))) ss_nil)
    (ss_c (s_for (ws := [3, 4]) bf_pso (i_enum fx.m_enumerate (pa_c (pd_v 1 (hv := lm115) (hd := lm116) (hcd := lm117)) pa_n) (hg := lm124)) (pg_t (pgs_c (pg_n (i := 3) (show ∀ k, ((FX_Chart__init P w K mg base f).X k).N.Nodup from fun _ => sc_Chart__init.nd) (hx := lm140) (hf := lm141)) (pgs_c (pg_n (i := 4) (show ∀ k, ((FX_Chart__init P w K mg base f).X k).N.Nodup from fun _ => sc_Chart__init.nd) (hx := lm158) (hf := lm159)) pgs_n))) (ss_1 (s_if (pdt_not (pdt_tru (pd_call h_is_whole bf_room (by decide) (pa_c (pd_v 4 (hv := lm160) (hd := lm161) (hcd := lm162)) (pa_c pd_int (pa_c (pd_pow pd_int pd_int) pa_n))) (hg := lm151) (hdb := lm56)))) (ss_1 (s_raise fx.ex_BadChart bf_room (by decide) (pa_c pd_str (pa_c (pd_v 3 (hv := lm152) (hd := lm153) (hcd := lm154)) pa_n)) (hg := lm134) (hdb := lm135))) ss_nil)))
    (ss_c (s_if (pdt_not (pdt_tru (pd_call h_is_row bf_room (by decide) (pa_c (pd_v 2 (hv := lm105) (hd := lm70) (hcd := lm71)) (pa_c pd_int (pa_c pd_int pa_n))) (hg := lm144) (hdb := lm145)))) (ss_1 (s_raise fx.ex_BadChart bf_room (by decide) (pa_c pd_str (pa_c pd_int pa_n)) (hg := lm134) (hdb := lm135))) ss_nil)
    (ss_c (s_set (i := 5) (show ∀ k, ((FX_Chart__init P w K mg base f).X k).N.Nodup from fun _ => sc_Chart__init.nd) (pd_sub (pd_len fx.m_len (pa_c (pd_v 1 (hv := lm115) (hd := lm116) (hcd := lm117)) pa_n) (hg := lm119)) pd_int) (hx := lm155) (hf := lm156))
    (ss_c (s_for (ws := [3, 6]) bf_pso (i_enum fx.m_enumerate (pa_c (pd_v 2 (hv := lm105) (hd := lm70) (hcd := lm71)) pa_n) (hg := lm124)) (pg_t (pgs_c (pg_n (i := 3) (show ∀ k, ((FX_Chart__init P w K mg base f).X k).N.Nodup from fun _ => sc_Chart__init.nd) (hx := lm140) (hf := lm141)) (pgs_c (pg_n (i := 6) (show ∀ k, ((FX_Chart__init P w K mg base f).X k).N.Nodup from fun _ => sc_Chart__init.nd) (hx := lm137) (hf := lm138)) pgs_n))) (ss_1 (s_if (pdw_or (pdt_not (pdt_tru (pd_call h_is_row bf_room (by decide) (pa_c (pd_v 6 (hv := lm142) (hd := lm109) (hcd := lm110)) (pa_c pd_int (pa_c pd_int pa_n))) (hg := lm144) (hdb := lm145)))) (pdw_or (pdt_not (pdt_tru (pd_call h_is_whole bf_room (by decide) (pa_c (pd_ix (pd_v 6 (hv := lm142) (hd := lm109) (hcd := lm110)) pd_int) (pa_c pd_int (pa_c (pd_v 5 (hv := lm147) (hd := lm148) (hcd := lm149)) pa_n))) (hg := lm151) (hdb := lm56)))) (pdw_or1 (pdt_not (pdt_tru (pd_call h_is_whole bf_room (by decide) (pa_c (pd_ix (pd_v 6 (hv := lm142) (hd := lm109) (hcd := lm110)) pd_int) (pa_c pd_int (pa_c (pd_v 5 (hv := lm147) (hd := lm148) (hcd := lm149)) pa_n))) (hg := lm151) (hdb := lm56))))))).pdt (ss_1 (s_raise fx.ex_BadChart bf_room (by decide) (pa_c pd_str (pa_c (pd_v 3 (hv := lm152) (hd := lm153) (hcd := lm154)) pa_n)) (hg := lm134) (hdb := lm135))) ss_nil)))
    (ss_c (s_for (ws := [7, 8]) bf_pso (i_enum fx.m_enumerate (pa_c (pd_call h_reached_places bf_room (by decide) (pa_c (pd_len fx.m_len (pa_c (pd_v 1 (hv := lm115) (hd := lm116) (hcd := lm117)) pa_n) (hg := lm119)) (pa_c (pd_v 2 (hv := lm105) (hd := lm70) (hcd := lm71)) pa_n)) (hg := lm121) (hdb := lm122)) pa_n) (hg := lm124)) (pg_t (pgs_c (pg_n (i := 7) (show ∀ k, ((FX_Chart__init P w K mg base f).X k).N.Nodup from fun _ => sc_Chart__init.nd) (hx := lm129) (hf := lm130)) (pgs_c (pg_n (i := 8) (show ∀ k, ((FX_Chart__init P w K mg base f).X k).N.Nodup from fun _ => sc_Chart__init.nd) (hx := lm126) (hf := lm127)) pgs_n))) (ss_1 (s_if (pdt_not (pdt_tru (pd_v 8 (hv := lm131) (hd := lm62) (hcd := lm63)))) (ss_1 (s_raise fx.ex_BadChart bf_room (by decide) (pa_c pd_str (pa_c (pd_v 7 (hv := lm132) (hd := lm46) (hcd := lm47)) pa_n)) (hg := lm134) (hdb := lm135))) ss_nil)))
    (ss_c (s_fld fx.cls_Chart fx.na_Chart_costs (pd_v 0 (hv := lm101) (hd := lm102) (hcd := lm103)) (pd_tupOf fx.m_tuple (pa_c (pd_v 1 (hv := lm115) (hd := lm116) (hcd := lm117)) pa_n) (hg := lm113)))
    (ss_1 (s_fld fx.cls_Chart fx.na_Chart_arrows (pd_v 0 (hv := lm101) (hd := lm102) (hcd := lm103)) (pd_tupOf fx.m_tuple (pa_c (pd_lc (own := [("arrow", 6)]) (g := fun cb0 => (dgName 6)) (tt := fun cb0 => dYes) (te := fun cb0 => (dCB rTupOf' (dCons (dVar 6) dNil))) (show ∀ k, ((FX_Chart__init P w K mg base f).X k).N.Nodup from fun _ => sc_Chart__init.nd) (i_seq (pd_v 2 (hv := lm105) (hd := lm70) (hcd := lm71))) (show ∀ k, BlkOk ((FX_Chart__init P w K mg base f).X k).N ((FX_Chart__init P w K mg base f).X k).env.scope bs_Chart__init_0 [("arrow", 6)] from fun _ => blkOk_by blk_Chart__init_0) (pg_n (i := 6) (show ∀ k, ((blkF (FX_Chart__init P w K mg base f) bs_Chart__init_0).X k).N.Nodup from fun _ => sc_Chart__init.nd) (hx := lm106) (hf := lm107)) ts_nil (pd_tupOf fx.m_tuple (pa_c (pd_v 6 (hv := lm108) (hd := lm109) (hcd := lm110)) pa_n) (hg := lm111))) pa_n) (hg := lm113)))))))))))
end DL
end

section
set_option Elab.async false
set_option linter.all false
set_option maxRecDepth 100000
set_option maxHeartbeats 400000
namespace DL
open PySem PySem.Spec PyProof.Rows L2
/- Chart.outs -/
def rd_Chart_outs (K : PySem.W.Frag) (g : Str → Addr) : DCtx → DS := fun c =>
    (dSeq (dDrop (dCall (F_check_place K g) [] c.w (dCons (dVar 0) (dCons (dVar 1) dNil))))
    (dRet (dCB rTupOf' (dCons (dLc (diEnum (dCons (dFld (g "Chart") "arrows" (dVar 0)) dNil)) (dgTup 2 (dgCons (dgName 2) (dgCons (dgName 3) dgNil))) (dB (dOp rEq' (dOp rIx' (dVar 3) (dC (.int 0))) (dVar 1))) (dVar 2) [2, 3]) dNil))))
theorem der_Chart_outs {P : Program} {w : World} {K : PySem.W.Frag} {mg : Str → Option Value} {base : Heap} {g : Str → Addr} {f : Addr} (fx : Fx P w K mg base g) (h_check_place : FnD P w K mg base 3 "check_place" (F_check_place K g) []) :
    PDSs (FX_Chart_outs P w K mg base f) K (defBody st_Chart_outs) (rd_Chart_outs K g) :=
  (ss_c (s_expr (pd_call h_check_place bf_room (by decide) (pa_c (pd_v 0 (hv := lm164) (hd := lm102) (hcd := lm103)) (pa_c (pd_v 1 (hv := lm179) (hd := lm46) (hcd := lm47)) pa_n)) (hg := lm181) (hdb := lm182)))
    (ss_1 (s_ret (pd_tupOf fx.m_tuple (pa_c (pd_lc (own := [("number", 2), ("arrow", 3)]) (g := fun cb0 => (dgTup 2 (dgCons (dgName 2) (dgCons (dgName 3) dgNil)))) (tt := fun cb0 => (dB (dOp rEq' (dOp rIx' (dVar 3) (dC (.int 0))) (dVar 1)))) (te := fun cb0 => (dVar 2)) (show ∀ k, ((FX_Chart_outs P w K mg base f).X k).N.Nodup from fun _ => sc_Chart_outs.nd) (i_enum fx.m_enumerate (pa_c (pd_fld fx.cls_Chart fx.na_Chart_arrows (pd_v 0 (hv := lm164) (hd := lm102) (hcd := lm103))) pa_n) (hg := lm166)) (show ∀ k, BlkOk ((FX_Chart_outs P w K mg base f).X k).N ((FX_Chart_outs P w K mg base f).X k).env.scope bs_Chart_outs_0 [("number", 2), ("arrow", 3)] from fun _ => blkOk_by blk_Chart_outs_0) (pg_t (pgs_c (pg_n (i := 2) (show ∀ k, ((blkF (FX_Chart_outs P w K mg base f) bs_Chart_outs_0).X k).N.Nodup from fun _ => sc_Chart_outs.nd) (hx := lm169) (hf := lm170)) (pgs_c (pg_n (i := 3) (show ∀ k, ((blkF (FX_Chart_outs P w K mg base f) bs_Chart_outs_0).X k).N.Nodup from fun _ => sc_Chart_outs.nd) (hx := lm167) (hf := lm168)) pgs_n))) (ts_one (pdt_c (c_eq (blk_room bf_room)) (pd_ix (pd_v 3 (hv := lm171) (hd := lm109) (hcd := lm110)) pd_int) (pd_v 1 (hv := lm172) (hd := lm46) (hcd := lm47)))) (pd_v 2 (hv := lm173) (hd := lm174) (hcd := lm175))) pa_n) (hg := lm177)))))
end DL
end

section
set_option Elab.async false
set_option linter.all false
set_option maxRecDepth 100000
set_option maxHeartbeats 400000
namespace DL
open PySem PySem.Spec PyProof.Rows L2
/- all_runs -/
def rd_all_runs (K : PySem.W.Frag) (g : Str → Addr) : DCtx → DGn := fun c =>
    (gThen (gPlain (dIfS (dNot (dTru (dCall (F_is_whole K g) [] c.w (dCons (dVar 1) (dCons (dC (.int 0)) (dCons (dC (.int 12)) dNil)))))) (dRaise (g "BadLength") ["length"] c.w (dCons (dVar 1) dNil)) dNext))
    (gThen (gPlain (dAsg (dLstM (dCons (dTup (dCons (dTup dNil) (dCons (dC (.int 0)) dNil))) dNil)) (dgName 2)))
    (gThen (gWhile (dTru (dVar 2)) (gThen (gPlain (dAsg (dBM rPop' (dVar 2) dNil) (dgTup 2 (dgCons (dgName 3) (dgCons (dgName 4) dgNil)))))
    (gThen (gIf (dB (dOp rEq' (dCB rLen' (dCons (dVar 3) dNil)) (dVar 1))) (gThen (gYield (dVar 3))
    g0) (gThen (gPlain (dFor (diRev (dMeth (g "Chart") "outs" (F_Chart_outs K g) [] c.w (dVar 0) (dCons (dVar 4) dNil))) (dgName 5) (dDrop (dBM rAppend' (dVar 2) (dCons (dTup (dCons (dOp rAdd' (dVar 3) (dTup (dCons (dVar 5) dNil))) (dCons (dOp rIx' (dOp rIx' (dFld (g "Chart") "arrows" (dVar 0)) (dVar 5)) (dC (.int 1))) dNil))) dNil)))))
    g0))
    g0)))
    g0)))
theorem der_all_runs {P : Program} {w : World} {K : PySem.W.Frag} {mg : Str → Option Value} {base : Heap} {g : Str → Addr} {f : Addr} (fx : Fx P w K mg base g) (h_Chart_outs : MtD P w K mg base 4 (g "Chart") "outs" (F_Chart_outs K g) []) (h_is_whole : FnD P w K mg base 1 "is_whole" (F_is_whole K g) []) :
    PDGb (FX_all_runs P w K mg base f) K (defBody st_all_runs) (rd_all_runs K g) :=
  (gb_c (gn_plain (s_if (pdt_not (pdt_tru (pd_call h_is_whole gf_room (by decide) (pa_c (pd_v 1 (hv := lm194) (hd := lm195) (hcd := lm196)) (pa_c pd_int (pa_c pd_int pa_n))) (hg := lm214) (hdb := lm56)))) (ss_1 (s_raise fx.ex_BadLength gf_room (by decide) (pa_c (pd_v 1 (hv := lm194) (hd := lm195) (hcd := lm196)) pa_n) (hg := lm216) (hdb := lm217))) ss_nil))
    (gb_c (gn_plain (s_set (i := 2) (show ∀ k, ((FX_all_runs P w K mg base f).X k).N.Nodup from fun _ => sc_all_runs.nd) (pd_lstM (pa_c (pd_tup (pa_c (pd_tup pa_n) (pa_c pd_int pa_n))) pa_n)) (hx := lm211) (hf := lm212)))
    (gb_c (gn_while gf_pso (pdt_tru (pd_v 2 (hv := lm184) (hd := lm185) (hcd := lm186))) (gb_c (gn_plain (s_asg (ws := [3, 4]) (pd_pop (pd_v 2 (hv := lm184) (hd := lm185) (hcd := lm186))) (pg_t (pgs_c (pg_n (i := 3) (show ∀ k, ((FX_all_runs P w K mg base f).X k).N.Nodup from fun _ => sc_all_runs.nd) (hx := lm209) (hf := lm210)) (pgs_c (pg_n (i := 4) (show ∀ k, ((FX_all_runs P w K mg base f).X k).N.Nodup from fun _ => sc_all_runs.nd) (hx := lm207) (hf := lm208)) pgs_n)))))
    (gb_c (gn_if (pdt_c (c_eq gf_room) (pd_len fx.m_len (pa_c (pd_v 3 (hv := lm188) (hd := lm189) (hcd := lm190)) pa_n) (hg := lm192)) (pd_v 1 (hv := lm194) (hd := lm195) (hcd := lm196))) (gb_c (gn_yield (pd_v 3 (hv := lm188) (hd := lm189) (hcd := lm190)))
    gb_nil) (gb_c (gn_plain (s_for (ws := [5]) gf_pso (i_rev fx.m_reversed (pd_methI h_Chart_outs gf_room (by decide) (pd_v 0 (hv := lm198) (hd := lm50) (hcd := lm51)) (pa_c (pd_v 4 (hv := lm200) (hd := lm46) (hcd := lm47)) pa_n)) (hg := lm202)) (pg_n (i := 5) (show ∀ k, ((FX_all_runs P w K mg base f).X k).N.Nodup from fun _ => sc_all_runs.nd) (hx := lm204) (hf := lm205)) (ss_1 (s_expr (pd_append (pd_v 2 (hv := lm184) (hd := lm185) (hcd := lm186)) (pa_c (pd_tup (pa_c (pd_add (pd_v 3 (hv := lm188) (hd := lm189) (hcd := lm190)) (pd_tup (pa_c (pd_v 5 (hv := lm206) (hd := lm109) (hcd := lm110)) pa_n))) (pa_c (pd_ix (pd_ix (pd_fld fx.cls_Chart fx.na_Chart_arrows (pd_v 0 (hv := lm198) (hd := lm50) (hcd := lm51))) (pd_v 5 (hv := lm206) (hd := lm109) (hcd := lm110))) pd_int) pa_n))) pa_n))))))
    gb_nil))
    gb_nil)))
    gb_nil)))
end DL
end

section
set_option Elab.async false
set_option linter.all false
set_option maxRecDepth 100000
set_option maxHeartbeats 400000
namespace DL
open PySem PySem.Spec PyProof.Rows L2
/- count_runs -/
def rd_count_runs (K : PySem.W.Frag) (g : Str → Addr) : DCtx → DS := fun c =>
    (dSeq (dIfS (dNot (dTru (dCall (F_is_whole K g) [] c.w (dCons (dVar 1) (dCons (dC (.int 0)) (dCons (dC (.int 100)) dNil)))))) (dRaise (g "BadLength") ["length"] c.w (dCons (dVar 1) dNil)) dNext)
    (dSeq (dAsg (dOp rAdd' (dLst (dCons (dC (.int 1)) dNil)) (dOp rRepL' (dLst (dCons (dC (.int 0)) dNil)) (dOp (rI0' fun i j => .int (i - j)) (dCB rLen' (dCons (dFld (g "Chart") "costs" (dVar 0)) dNil)) (dC (.int 1))))) (dgName 2))
    (dSeq (dFor (diRng1 (dCons (dVar 1) dNil)) (dgName 3) (dSeq (dAsg (dOp rRepLM' (dLst (dCons (dC (.int 0)) dNil)) (dCB rLen' (dCons (dVar 2) dNil))) (dgName 4))
    (dSeq (dFor (diSeq (dFld (g "Chart") "arrows" (dVar 0))) (dgTup 2 (dgCons (dgName 5) (dgCons (dgName 6) dgNil))) (dAsg (dOp rAdd' (dOp rIx' (dVar 4) (dVar 6)) (dOp rIx' (dVar 2) (dVar 5))) (dgSub (dVar 4) (dVar 6))))
    (dGh (dAsg (dVar 4) (dgName 2))))))
    (dRet (dCB rSum' (dCons (dVar 2) dNil))))))
theorem der_count_runs {P : Program} {w : World} {K : PySem.W.Frag} {mg : Str → Option Value} {base : Heap} {g : Str → Addr} {f : Addr} (fx : Fx P w K mg base g) (h_is_whole : FnD P w K mg base 1 "is_whole" (F_is_whole K g) []) :
    PDSs (FX_count_runs P w K mg base f) K (defBody st_count_runs) (rd_count_runs K g) :=
  (ss_c (s_if (pdt_not (pdt_tru (pd_call h_is_whole bf_room (by decide) (pa_c (pd_v 1 (hv := lm225) (hd := lm195) (hcd := lm196)) (pa_c pd_int (pa_c pd_int pa_n))) (hg := lm252) (hdb := lm56)))) (ss_1 (s_raise fx.ex_BadLength bf_room (by decide) (pa_c (pd_v 1 (hv := lm225) (hd := lm195) (hcd := lm196)) pa_n) (hg := lm254) (hdb := lm217))) ss_nil)
    (ss_c (s_set (i := 2) (show ∀ k, ((FX_count_runs P w K mg base f).X k).N.Nodup from fun _ => sc_count_runs.nd) (pd_add (pd_lst (pa_c pd_int pa_n)) (pd_repL (pd_lst (pa_c pd_int pa_n)) (pd_sub (pd_len fx.m_len (pa_c (pd_fld fx.cls_Chart fx.na_Chart_costs (pd_v 0 (hv := lm238) (hd := lm50) (hcd := lm51))) pa_n) (hg := lm248)) pd_int))) (hx := lm235) (hf := lm236))
    (ss_c (s_for (ws := [3]) bf_pso (i_r1 fx.m_range (pa_c (pd_v 1 (hv := lm225) (hd := lm195) (hcd := lm196)) pa_n) (hg := lm227)) (pg_n (i := 3) (show ∀ k, ((FX_count_runs P w K mg base f).X k).N.Nodup from fun _ => sc_count_runs.nd) (hx := lm229) (hf := lm230)) (ss_c (s_set (i := 4) (show ∀ k, ((FX_count_runs P w K mg base f).X k).N.Nodup from fun _ => sc_count_runs.nd) (pd_repLM (pd_lst (pa_c pd_int pa_n)) (pd_len fx.m_len (pa_c (pd_v 2 (hv := lm219) (hd := lm220) (hcd := lm221)) pa_n) (hg := lm248))) (hx := lm249) (hf := lm250))
    (ss_c (s_for (ws := [5, 6]) bf_pso (i_seq (pd_fld fx.cls_Chart fx.na_Chart_arrows (pd_v 0 (hv := lm238) (hd := lm50) (hcd := lm51)))) (pg_t (pgs_c (pg_n (i := 5) (show ∀ k, ((FX_count_runs P w K mg base f).X k).N.Nodup from fun _ => sc_count_runs.nd) (hx := lm243) (hf := lm244)) (pgs_c (pg_n (i := 6) (show ∀ k, ((FX_count_runs P w K mg base f).X k).N.Nodup from fun _ => sc_count_runs.nd) (hx := lm240) (hf := lm241)) pgs_n))) (ss_1 (s_asg (ws := []) (pd_add (pd_ix (pd_v 4 (hv := lm232) (hd := lm233) (hcd := lm234)) (pd_v 6 (hv := lm245) (hd := lm84) (hcd := lm85))) (pd_ix (pd_v 2 (hv := lm219) (hd := lm220) (hcd := lm221)) (pd_v 5 (hv := lm246) (hd := lm79) (hcd := lm80)))) (pg_s (pd_v 4 (hv := lm232) (hd := lm233) (hcd := lm234)) (pd_v 6 (hv := lm245) (hd := lm84) (hcd := lm85))))))
    (ss_gh (ss_1 (s_set (i := 2) (show ∀ k, ((FX_count_runs P w K mg base f).X k).N.Nodup from fun _ => sc_count_runs.nd) (pd_v 4 (hv := lm232) (hd := lm233) (hcd := lm234)) (hx := lm235) (hf := lm236)))))))
    (ss_1 (s_ret (pd_sum fx.m_sum (pa_c (pd_v 2 (hv := lm219) (hd := lm220) (hcd := lm221)) pa_n) (hg := lm223)))))))
end DL
end

section
set_option Elab.async false
set_option linter.all false
set_option maxRecDepth 100000
set_option maxHeartbeats 400000
namespace DL
open PySem PySem.Spec PyProof.Rows L2
/- run_to -/
def rd_run_to (K : PySem.W.Frag) (g : Str → Addr) : DCtx → DS := fun c =>
    (dSeq (dDrop (dCall (F_check_place K g) [] c.w (dCons (dVar 0) (dCons (dVar 1) dNil))))
    (dSeq (dAsg (dDisp1 (dC (.int 0)) (dTup dNil)) (dgName 2))
    (dSeq (dAsg (dLstM (dCons (dC (.int 0)) dNil)) (dgName 3))
    (dSeq (dAsg (dC (.int 0)) (dgName 4))
    (dSeq (dWhile (dB (dOp (rI0' fun i j => .bl (decide (i < j))) (dVar 4) (dCB rLen' (dCons (dVar 3) dNil)))) (dSeq (dAsg (dOp rIx' (dVar 3) (dVar 4)) (dgName 5))
    (dSeq (dFor (diSeq (dMeth (g "Chart") "outs" (F_Chart_outs K g) [] c.w (dVar 0) (dCons (dVar 5) dNil))) (dgName 6) (dSeq (dAsg (dOp rIx' (dOp rIx' (dFld (g "Chart") "arrows" (dVar 0)) (dVar 6)) (dC (.int 1))) (dgName 7))
    (dIfS (dB (dDIn true (dVar 7) (dVar 2))) (dSeq (dDPut (dVar 2) (dVar 7) (dOp rAdd' (dDGet (dVar 2) (dVar 5)) (dTup (dCons (dVar 6) dNil))))
    (dDrop (dBM rAppend' (dVar 3) (dCons (dVar 7) dNil)))) dNext)))
    (dAugI (fun i j => i + j) 4 (dC (.int 1))))))
    (dRetG (dDGet (dVar 2) (dVar 1))))))))
theorem der_run_to {P : Program} {w : World} {K : PySem.W.Frag} {mg : Str → Option Value} {base : Heap} {g : Str → Addr} {f : Addr} (fx : Fx P w K mg base g) (h_Chart_outs : MtD P w K mg base 4 (g "Chart") "outs" (F_Chart_outs K g) []) (h_check_place : FnD P w K mg base 3 "check_place" (F_check_place K g) []) :
    PDSs (FX_run_to P w K mg base f) K (defBody st_run_to) (rd_run_to K g) :=
  (ss_c (s_expr (pd_call h_check_place bf_room (by decide) (pa_c (pd_v 0 (hv := lm274) (hd := lm50) (hcd := lm51)) (pa_c (pd_v 1 (hv := lm260) (hd := lm46) (hcd := lm47)) pa_n)) (hg := lm292) (hdb := lm182)))
    (ss_c (s_set (i := 2) (show ∀ k, ((FX_run_to P w K mg base f).X k).N.Nodup from fun _ => sc_run_to.nd) (pd_disp1 pd_int (pd_tup pa_n)) (hx := lm289) (hf := lm290))
    (ss_c (s_set (i := 3) (show ∀ k, ((FX_run_to P w K mg base f).X k).N.Nodup from fun _ => sc_run_to.nd) (pd_lstM (pa_c pd_int pa_n)) (hx := lm287) (hf := lm288))
    (ss_c (s_set (i := 4) (show ∀ k, ((FX_run_to P w K mg base f).X k).N.Nodup from fun _ => sc_run_to.nd) pd_int (hx := lm271) (hf := lm272))
    (ss_c (s_while bf_pso (pdt_c c_lt (pd_v 4 (hv := lm262) (hd := lm263) (hcd := lm264)) (pd_len fx.m_len (pa_c (pd_v 3 (hv := lm266) (hd := lm267) (hcd := lm268)) pa_n) (hg := lm270))) (ss_c (s_set (i := 5) (show ∀ k, ((FX_run_to P w K mg base f).X k).N.Nodup from fun _ => sc_run_to.nd) (pd_ix (pd_v 3 (hv := lm266) (hd := lm267) (hcd := lm268)) (pd_v 4 (hv := lm262) (hd := lm263) (hcd := lm264))) (hx := lm285) (hf := lm286))
    (ss_c (s_for (ws := [6]) bf_pso (i_seq (pd_methI h_Chart_outs bf_room (by decide) (pd_v 0 (hv := lm274) (hd := lm50) (hcd := lm51)) (pa_c (pd_v 5 (hv := lm276) (hd := lm79) (hcd := lm80)) pa_n))) (pg_n (i := 6) (show ∀ k, ((FX_run_to P w K mg base f).X k).N.Nodup from fun _ => sc_run_to.nd) (hx := lm278) (hf := lm279)) (ss_c (s_set (i := 7) (show ∀ k, ((FX_run_to P w K mg base f).X k).N.Nodup from fun _ => sc_run_to.nd) (pd_ix (pd_ix (pd_fld fx.cls_Chart fx.na_Chart_arrows (pd_v 0 (hv := lm274) (hd := lm50) (hcd := lm51))) (pd_v 6 (hv := lm282) (hd := lm109) (hcd := lm110))) pd_int) (hx := lm283) (hf := lm284))
    (ss_1 (s_if (pdt_dnin bf_room (pd_v 7 (hv := lm281) (hd := lm84) (hcd := lm85)) (pd_v 2 (hv := lm256) (hd := lm257) (hcd := lm258))) (ss_c (s_dput bf_room (pd_v 2 (hv := lm256) (hd := lm257) (hcd := lm258)) (pd_v 7 (hv := lm281) (hd := lm84) (hcd := lm85)) (pd_add (pd_dget bf_room (pd_v 2 (hv := lm256) (hd := lm257) (hcd := lm258)) (pd_v 5 (hv := lm276) (hd := lm79) (hcd := lm80))) (pd_tup (pa_c (pd_v 6 (hv := lm282) (hd := lm109) (hcd := lm110)) pa_n))))
    (ss_1 (s_expr (pd_append (pd_v 3 (hv := lm266) (hd := lm267) (hcd := lm268)) (pa_c (pd_v 7 (hv := lm281) (hd := lm84) (hcd := lm85)) pa_n))))) ss_nil))))
    (ss_1 (s_augA (i := 4) (show ∀ k, ((FX_run_to P w K mg base f).X k).N.Nodup from fun _ => sc_run_to.nd) pd_int (hx := lm271) (hf := lm272))))))
    (ss_1 (s_retG (pd_dget bf_room (pd_v 2 (hv := lm256) (hd := lm257) (hcd := lm258)) (pd_v 1 (hv := lm260) (hd := lm46) (hcd := lm47))))))))))
end DL
end

section
set_option Elab.async false
set_option linter.all false
set_option maxRecDepth 100000
set_option maxHeartbeats 400000
namespace DL
open PySem PySem.Spec PyProof.Rows L2
/- _law_hand -/
def rd_law_hand (K : PySem.W.Frag) (g : Str → Addr) : DCtx → DS := fun c =>
    (dSeq (dAsg (dOp rAdd' (dCB (rLenS' K) (dCons (dVar 0) dNil)) (dC (.int 37))) (dgName 1))
    (dSeq (dAsg (dLstM dNil) (dgName 2))
    (dSeq (dFor (diSeqS K (dVar 0)) (dgName 3) (dSeq (dAsg (dOp (rI' (fun _ j => 0 < j) fun i j => .int (i % j)) (dCB rInt' (dCons (dOp rAdd' (dOp (rI' CM fun i j => .int (i * j)) (dVar 1) (dC (.int 1709))) (dCB rInt' (dCons (dVar 3) dNil))) dNil)) (dC (.int 2147483549))) (dgName 1))
    (dDrop (dBM rAppend' (dVar 2) (dCons (dCB rAbs' (dCons (dCB rInt' (dCons (dVar 3) dNil)) dNil)) dNil)))))
    (dRetG (dLstM (dCons (dVar 2) (dCons (dC (.int 0)) (dCons (dC (.int 0)) (dCons (dVar 1) dNil)))))))))
theorem der_law_hand {P : Program} {w : World} {K : PySem.W.Frag} {mg : Str → Option Value} {base : Heap} {g : Str → Addr} {f : Addr} (fx : Fx P w K mg base g) :
    PDSs (FX_law_hand P w K mg base f) K (defBody st_law_hand) (rd_law_hand K g) :=
  (ss_c (s_set (i := 1) (show ∀ k, ((FX_law_hand P w K mg base f).X k).N.Nodup from fun _ => sc_law_hand.nd) (pd_add (pd_lenS fx.m_len (pa_c (pd_v 0 (hv := lm302) (hd := lm303) (hcd := lm304)) pa_n) (hg := lm320)) pd_int) (hx := lm315) (hf := lm316))
    (ss_c (s_set (i := 2) (show ∀ k, ((FX_law_hand P w K mg base f).X k).N.Nodup from fun _ => sc_law_hand.nd) (pd_lstM pa_n) (hx := lm317) (hf := lm318))
    (ss_c (s_for (ws := [3]) bf_pso (i_seqS (pd_v 0 (hv := lm302) (hd := lm303) (hcd := lm304))) (pg_n (i := 3) (show ∀ k, ((FX_law_hand P w K mg base f).X k).N.Nodup from fun _ => sc_law_hand.nd) (hx := lm306) (hf := lm307)) (ss_c (s_set (i := 1) (show ∀ k, ((FX_law_hand P w K mg base f).X k).N.Nodup from fun _ => sc_law_hand.nd) (pd_mod (pd_int1 fx.m_int (pa_c (pd_add (pd_mul (pd_v 1 (hv := lm294) (hd := lm295) (hcd := lm296)) pd_int) (pd_int1 fx.m_int (pa_c (pd_v 3 (hv := lm308) (hd := lm309) (hcd := lm310)) pa_n) (hg := lm312))) pa_n) (hg := lm312)) pd_int) (hx := lm315) (hf := lm316))
    (ss_1 (s_expr (pd_append (pd_v 2 (hv := lm298) (hd := lm299) (hcd := lm300)) (pa_c (pd_abs fx.m_abs (pa_c (pd_int1 fx.m_int (pa_c (pd_v 3 (hv := lm308) (hd := lm309) (hcd := lm310)) pa_n) (hg := lm312)) pa_n) (hg := lm314)) pa_n))))))
    (ss_1 (s_retG (pd_lstM (pa_c (pd_v 2 (hv := lm298) (hd := lm299) (hcd := lm300)) (pa_c pd_int (pa_c pd_int (pa_c (pd_v 1 (hv := lm294) (hd := lm295) (hcd := lm296)) pa_n))))))))))
end DL
end

section
set_option Elab.async false
set_option linter.all false
set_option maxRecDepth 100000
set_option maxHeartbeats 400000
namespace DL
open PySem PySem.Spec PyProof.Rows L2
/- _law_mixed -/
def rd_law_mixed (K : PySem.W.Frag) (g : Str → Addr) : DCtx → DS := fun c =>
    (dSeq (dAsg (dOp (rI' (fun _ j => 0 < j) fun i j => .int (i % j)) (dCB rInt' (dCons (dOp rAdd' (dOp rAdd' (dOp (rI' CM fun i j => .int (i * j)) (dVar 0) (dC (.int 48271))) (dOp (rI' CM fun i j => .int (i * j)) (dVar 1) (dC (.int 7919)))) (dC (.int 30011))) dNil)) (dC (.int 2147483399))) (dgName 2))
    (dSeq (dAsg (dOp (rI' (fun _ j => 0 < j) fun i j => .int (i % j)) (dCB rInt' (dCons (dOp rAdd' (dOp rAdd' (dOp (rI' CM fun i j => .int (i * j)) (dVar 2) (dVar 2)) (dOp (rI' CM fun i j => .int (i * j)) (dVar 1) (dC (.int 92821)))) (dOp (rI' CD fun i j => .int (i / j)) (dVar 2) (dC (.int 131)))) dNil)) (dC (.int 2147483629))) (dgName 3))
    (dRet (dOp (rI' CD fun i j => .int (i / j)) (dCB rInt' (dCons (dOp (rI' (fun _ j => 0 < j) fun i j => .int (i % j)) (dCB rInt' (dCons (dOp rAdd' (dOp (rI' CM fun i j => .int (i * j)) (dVar 3) (dC (.int 69621))) (dOp (rI' CD fun i j => .int (i / j)) (dVar 2) (dC (.int 13)))) dNil)) (dC (.int 2147483587))) dNil)) (dC (.int 32))))))
theorem der_law_mixed {P : Program} {w : World} {K : PySem.W.Frag} {mg : Str → Option Value} {base : Heap} {g : Str → Addr} {f : Addr} (fx : Fx P w K mg base g) :
    PDSs (FX_law_mixed P w K mg base f) K (defBody st_law_mixed) (rd_law_mixed K g) :=
  (ss_c (s_set (i := 2) (show ∀ k, ((FX_law_mixed P w K mg base f).X k).N.Nodup from fun _ => sc_law_mixed.nd) (pd_mod (pd_int1 fx.m_int (pa_c (pd_add (pd_add (pd_mul (pd_v 0 (hv := lm338) (hd := lm339) (hcd := lm340)) pd_int) (pd_mul (pd_v 1 (hv := lm332) (hd := lm333) (hcd := lm334)) pd_int)) pd_int) pa_n) (hg := lm330)) pd_int) (hx := lm341) (hf := lm342))
    (ss_c (s_set (i := 3) (show ∀ k, ((FX_law_mixed P w K mg base f).X k).N.Nodup from fun _ => sc_law_mixed.nd) (pd_mod (pd_int1 fx.m_int (pa_c (pd_add (pd_add (pd_mul (pd_v 2 (hv := lm326) (hd := lm327) (hcd := lm328)) (pd_v 2 (hv := lm326) (hd := lm327) (hcd := lm328))) (pd_mul (pd_v 1 (hv := lm332) (hd := lm333) (hcd := lm334)) pd_int)) (pd_div (pd_v 2 (hv := lm326) (hd := lm327) (hcd := lm328)) pd_int)) pa_n) (hg := lm330)) pd_int) (hx := lm335) (hf := lm336))
    (ss_1 (s_ret (pd_div (pd_int1 fx.m_int (pa_c (pd_mod (pd_int1 fx.m_int (pa_c (pd_add (pd_mul (pd_v 3 (hv := lm322) (hd := lm323) (hcd := lm324)) pd_int) (pd_div (pd_v 2 (hv := lm326) (hd := lm327) (hcd := lm328)) pd_int)) pa_n) (hg := lm330)) pd_int) pa_n) (hg := lm330)) pd_int)))))
end DL
end

section
set_option Elab.async false
set_option linter.all false
set_option maxRecDepth 100000
set_option maxHeartbeats 400000
namespace DL
open PySem PySem.Spec PyProof.Rows L2
/- _law_take -/
def rd_law_take (K : PySem.W.Frag) (g : Str → Addr) : DCtx → DS := fun c =>
    (dOpen (dSeq (dIfS (dAnd (dB (dOp rEq' (dOp rIx' (dVar 0) (dC (.int 2))) (dC (.int 0)))) (dB (dOp (rI0' fun i j => .bl (decide (i < j))) (dOp rIx' (dVar 0) (dC (.int 1))) (dCB rLen' (dCons (dOp rIx' (dVar 0) (dC (.int 0))) dNil))))) (dSeq (dAsg (dOp rIx' (dOp rIx' (dVar 0) (dC (.int 0))) (dOp rIx' (dVar 0) (dC (.int 1)))) (dgName 2))
    (dSeq (dAsg (dOp rAdd' (dOp rIx' (dVar 0) (dC (.int 1))) (dC (.int 1))) (dgSub (dVar 0) (dC (.int 1))))
    (dSeq (dIfS (dB (dOp (rI0' fun i j => .bl (decide (i < j))) (dVar 2) (dOp (rI' CPow fun i j => .int (i ^ j.toNat)) (dC (.int 10)) (dC (.int 18))))) (dRetG (dOp (rI' (fun _ j => 0 < j) fun i j => .int (i % j)) (dCB rInt' (dCons (dCall (F_law_mixed K g) [] c.w (dCons (dOp (rI' (fun _ j => 0 < j) fun i j => .int (i % j)) (dCB rInt' (dCons (dVar 2) dNil)) (dC (.int 2147483399))) (dCons (dOp rIx' (dVar 0) (dC (.int 1))) dNil))) dNil)) (dVar 1))) dNext)
    (dAsg (dVar 2) (dgSub (dVar 0) (dC (.int 2))))))) dNext)
    (dSeq (dIfS (dB (dOp (rI0' fun i j => .bl (decide (j < i))) (dOp rIx' (dVar 0) (dC (.int 2))) (dC (.int 0)))) (dSeq (dAsg (dOp rIx' (dVar 0) (dC (.int 2))) (dgName 3))
    (dSeq (dAsg (dOp (rI' CD fun i j => .int (i / j)) (dCB rInt' (dCons (dVar 3) dNil)) (dVar 1)) (dgSub (dVar 0) (dC (.int 2))))
    (dRetG (dOp (rI' (fun _ j => 0 < j) fun i j => .int (i % j)) (dCB rInt' (dCons (dVar 3) dNil)) (dVar 1))))) dNext)
    (dSeq (dAsg (dOp (rI' (fun _ j => 0 < j) fun i j => .int (i % j)) (dCB rInt' (dCons (dOp rAdd' (dOp rIx' (dVar 0) (dC (.int 3))) (dC (.int 1))) dNil)) (dC (.int 2147483549))) (dgSub (dVar 0) (dC (.int 3))))
    (dRetG (dOp (rI' (fun _ j => 0 < j) fun i j => .int (i % j)) (dCB rInt' (dCons (dCall (F_law_mixed K g) [] c.w (dCons (dOp rIx' (dVar 0) (dC (.int 3))) (dCons (dOp rIx' (dVar 0) (dC (.int 1))) dNil))) dNil)) (dVar 1)))))))
theorem der_law_take {P : Program} {w : World} {K : PySem.W.Frag} {mg : Str → Option Value} {base : Heap} {g : Str → Addr} {f : Addr} (fx : Fx P w K mg base g) (h_law_mixed : FnD P w K mg base 1 "_law_mixed" (F_law_mixed K g) []) :
    PDSs (FX_law_take P w K mg base f) K (defBody st_law_take) (rd_law_take K g) :=
  (ss_open (ss_c (s_if (pdw_and (pdt_c (c_eq bf_room) (pd_ix (pd_v 0 (hv := lm344) (hd := lm345) (hcd := lm346)) pd_int) pd_int) (pdw_and1 (pdt_c c_lt (pd_ix (pd_v 0 (hv := lm344) (hd := lm345) (hcd := lm346)) pd_int) (pd_len fx.m_len (pa_c (pd_ix (pd_v 0 (hv := lm344) (hd := lm345) (hcd := lm346)) pd_int) pa_n) (hg := lm363))))).pdt (ss_c (s_set (i := 2) (show ∀ k, ((FX_law_take P w K mg base f).X k).N.Nodup from fun _ => sc_law_take.nd) (pd_ix (pd_ix (pd_v 0 (hv := lm344) (hd := lm345) (hcd := lm346)) pd_int) (pd_ix (pd_v 0 (hv := lm344) (hd := lm345) (hcd := lm346)) pd_int)) (hx := lm366) (hf := lm367))
    (ss_c (s_asg (ws := []) (pd_add (pd_ix (pd_v 0 (hv := lm344) (hd := lm345) (hcd := lm346)) pd_int) pd_int) (pg_s (pd_v 0 (hv := lm344) (hd := lm345) (hcd := lm346)) pd_int))
    (ss_c (s_if (pdt_c c_lt (pd_v 2 (hv := lm365) (hd := lm309) (hcd := lm310)) (pd_pow pd_int pd_int)) (ss_1 (s_retG (pd_mod (pd_int1 fx.m_int (pa_c (pd_call h_law_mixed bf_room (by decide) (pa_c (pd_mod (pd_int1 fx.m_int (pa_c (pd_v 2 (hv := lm365) (hd := lm309) (hcd := lm310)) pa_n) (hg := lm351)) pd_int) (pa_c (pd_ix (pd_v 0 (hv := lm344) (hd := lm345) (hcd := lm346)) pd_int) pa_n)) (hg := lm348) (hdb := lm349)) pa_n) (hg := lm351)) (pd_v 1 (hv := lm353) (hd := lm354) (hcd := lm355))))) ss_nil)
    (ss_1 (s_asg (ws := []) (pd_v 2 (hv := lm365) (hd := lm309) (hcd := lm310)) (pg_s (pd_v 0 (hv := lm344) (hd := lm345) (hcd := lm346)) pd_int)))))) ss_nil)
    (ss_c (s_if (pdt_c c_gt (pd_ix (pd_v 0 (hv := lm344) (hd := lm345) (hcd := lm346)) pd_int) pd_int) (ss_c (s_set (i := 3) (show ∀ k, ((FX_law_take P w K mg base f).X k).N.Nodup from fun _ => sc_law_take.nd) (pd_ix (pd_v 0 (hv := lm344) (hd := lm345) (hcd := lm346)) pd_int) (hx := lm360) (hf := lm361))
    (ss_c (s_asg (ws := []) (pd_div (pd_int1 fx.m_int (pa_c (pd_v 3 (hv := lm357) (hd := lm358) (hcd := lm359)) pa_n) (hg := lm351)) (pd_v 1 (hv := lm353) (hd := lm354) (hcd := lm355))) (pg_s (pd_v 0 (hv := lm344) (hd := lm345) (hcd := lm346)) pd_int))
    (ss_1 (s_retG (pd_mod (pd_int1 fx.m_int (pa_c (pd_v 3 (hv := lm357) (hd := lm358) (hcd := lm359)) pa_n) (hg := lm351)) (pd_v 1 (hv := lm353) (hd := lm354) (hcd := lm355))))))) ss_nil)
    (ss_c (s_asg (ws := []) (pd_mod (pd_int1 fx.m_int (pa_c (pd_add (pd_ix (pd_v 0 (hv := lm344) (hd := lm345) (hcd := lm346)) pd_int) pd_int) pa_n) (hg := lm351)) pd_int) (pg_s (pd_v 0 (hv := lm344) (hd := lm345) (hcd := lm346)) pd_int))
    (ss_1 (s_retG (pd_mod (pd_int1 fx.m_int (pa_c (pd_call h_law_mixed bf_room (by decide) (pa_c (pd_ix (pd_v 0 (hv := lm344) (hd := lm345) (hcd := lm346)) pd_int) (pa_c (pd_ix (pd_v 0 (hv := lm344) (hd := lm345) (hcd := lm346)) pd_int) pa_n)) (hg := lm348) (hdb := lm349)) pa_n) (hg := lm351)) (pd_v 1 (hv := lm353) (hd := lm354) (hcd := lm355)))))))))
end DL
end

section
set_option Elab.async false
set_option linter.all false
set_option maxRecDepth 100000
set_option maxHeartbeats 400000
namespace DL
open PySem PySem.Spec PyProof.Rows L2
/- _law_renumbered -/
def rd_law_renumbered (K : PySem.W.Frag) (g : Str → Addr) : DCtx → DS := fun c =>
    (dSeq (dIfS (dTru (dCall (F_law_take K g) [] c.w (dCons (dVar 0) (dCons (dC (.int 2)) dNil)))) (dRetG (dVar 2)) dNext)
    (dSeq (dAsg (dLstRgM (dRg2 (dC (.int 1)) (dVar 1))) (dgName 3))
    (dSeq (dAsg (dLstM (dCons (dC (.int 0)) dNil)) (dgName 4))
    (dSeq (dFor (diRng1 (dCons (dOp (rI0' fun i j => .int (i - j)) (dVar 1) (dC (.int 1))) dNil)) (dgName 5) (dDrop (dBM rAppend' (dVar 4) (dCons (dBM rPopAt' (dVar 3) (dCons (dCall (F_law_take K g) [] c.w (dCons (dVar 0) (dCons (dCB rLen' (dCons (dVar 3) dNil)) dNil))) dNil)) dNil))))
    (dGh (dRetG (dLc (diSeq (dVar 2)) (dgTup 2 (dgCons (dgName 6) (dgCons (dgName 7) dgNil))) dYes (dTup (dCons (dOp rIx' (dVar 4) (dVar 6)) (dCons (dOp rIx' (dVar 4) (dVar 7)) dNil))) [6, 7])))))))
theorem der_law_renumbered {P : Program} {w : World} {K : PySem.W.Frag} {mg : Str → Option Value} {base : Heap} {g : Str → Addr} {f : Addr} (fx : Fx P w K mg base g) (h_law_take : FnD P w K mg base 2 "_law_take" (F_law_take K g) []) :
    PDSs (FX_law_renumbered P w K mg base f) K (defBody st_law_renumbered) (rd_law_renumbered K g) :=
  (ss_c (s_if (pdt_tru (pd_call h_law_take bf_room (by decide) (pa_c (pd_v 0 (hv := lm399) (hd := lm345) (hcd := lm346)) (pa_c pd_int pa_n)) (hg := lm401) (hdb := lm402))) (ss_1 (s_retG (pd_v 2 (hv := lm369) (hd := lm370) (hcd := lm371)))) ss_nil)
    (ss_c (s_set (i := 3) (show ∀ k, ((FX_law_renumbered P w K mg base f).X k).N.Nodup from fun _ => sc_law_renumbered.nd) (pd_lstRgM fx.m_list (rg_2 fx.m_range pd_int (pd_v 1 (hv := lm386) (hd := lm354) (hcd := lm355)) (hg := lm388)) (hg := lm406)) (hx := lm407) (hf := lm408))
    (ss_c (s_set (i := 4) (show ∀ k, ((FX_law_renumbered P w K mg base f).X k).N.Nodup from fun _ => sc_law_renumbered.nd) (pd_lstM (pa_c pd_int pa_n)) (hx := lm403) (hf := lm404))
    (ss_c (s_for (ws := [5]) bf_pso (i_r1 fx.m_range (pa_c (pd_sub (pd_v 1 (hv := lm386) (hd := lm354) (hcd := lm355)) pd_int) pa_n) (hg := lm388)) (pg_n (i := 5) (show ∀ k, ((FX_law_renumbered P w K mg base f).X k).N.Nodup from fun _ => sc_law_renumbered.nd) (hx := lm390) (hf := lm391)) (ss_1 (s_expr (pd_append (pd_v 4 (hv := lm393) (hd := lm377) (hcd := lm378)) (pa_c (pd_popAt (pd_v 3 (hv := lm395) (hd := lm358) (hcd := lm359)) (pa_c (pd_call h_law_take bf_room (by decide) (pa_c (pd_v 0 (hv := lm399) (hd := lm345) (hcd := lm346)) (pa_c (pd_len fx.m_len (pa_c (pd_v 3 (hv := lm395) (hd := lm358) (hcd := lm359)) pa_n) (hg := lm397)) pa_n)) (hg := lm401) (hdb := lm402)) pa_n)) pa_n)))))
    (ss_gh (ss_1 (s_retG (pd_lc (own := [("_law_tail", 6), ("_law_head", 7)]) (g := fun cb0 => (dgTup 2 (dgCons (dgName 6) (dgCons (dgName 7) dgNil)))) (tt := fun cb0 => dYes) (te := fun cb0 => (dTup (dCons (dOp rIx' (dVar 4) (dVar 6)) (dCons (dOp rIx' (dVar 4) (dVar 7)) dNil)))) (show ∀ k, ((FX_law_renumbered P w K mg base f).X k).N.Nodup from fun _ => sc_law_renumbered.nd) (i_seq (pd_v 2 (hv := lm369) (hd := lm370) (hcd := lm371))) (show ∀ k, BlkOk ((FX_law_renumbered P w K mg base f).X k).N ((FX_law_renumbered P w K mg base f).X k).env.scope bs_law_renumbered_0 [("_law_tail", 6), ("_law_head", 7)] from fun _ => blkOk_by blk_law_renumbered_0) (pg_t (pgs_c (pg_n (i := 6) (show ∀ k, ((blkF (FX_law_renumbered P w K mg base f) bs_law_renumbered_0).X k).N.Nodup from fun _ => sc_law_renumbered.nd) (hx := lm374) (hf := lm375)) (pgs_c (pg_n (i := 7) (show ∀ k, ((blkF (FX_law_renumbered P w K mg base f) bs_law_renumbered_0).X k).N.Nodup from fun _ => sc_law_renumbered.nd) (hx := lm372) (hf := lm373)) pgs_n))) ts_nil (pd_tup (pa_c (pd_ix (pd_v 4 (hv := lm376) (hd := lm377) (hcd := lm378)) (pd_v 6 (hv := lm382) (hd := lm383) (hcd := lm384))) (pa_c (pd_ix (pd_v 4 (hv := lm376) (hd := lm377) (hcd := lm378)) (pd_v 7 (hv := lm379) (hd := lm380) (hcd := lm381))) pa_n)))))))))))
end DL
end

section
set_option Elab.async false
set_option linter.all false
set_option maxRecDepth 100000
set_option maxHeartbeats 400000
namespace DL
open PySem PySem.Spec PyProof.Rows L2
/- _law_costs -/
def rd_law_costs (K : PySem.W.Frag) (g : Str → Addr) : DCtx → DS := fun c =>
    (dSeq (dAsg (dOp rIx' (dTup (dCons (dC (.int 4)) (dCons (dC (.int 7)) (dCons (dC (.int 2)) (dCons (dOp rAdd' (dOp (rI' CPow fun i j => .int (i ^ j.toNat)) (dC (.int 10)) (dC (.int 9))) (dC (.int 1))) dNil))))) (dCall (F_law_take K g) [] c.w (dCons (dVar 0) (dCons (dC (.int 4)) dNil)))) (dgName 2))
    (dRet (dLc (diRng1 (dCons (dVar 1) dNil)) (dgName 3) dYes (dIf (dB (dOp rEq' (dCall (F_law_take K g) [] c0.w (dCons (dVar 0) (dCons (dC (.int 6)) dNil))) (dC (.int 0)))) (dC (.int 0)) (dCall (F_law_take K g) [] c0.w (dCons (dVar 0) (dCons (dVar 2) dNil)))) [3])))
theorem der_law_costs {P : Program} {w : World} {K : PySem.W.Frag} {mg : Str → Option Value} {base : Heap} {g : Str → Addr} {f : Addr} (fx : Fx P w K mg base g) (h_law_take : FnD P w K mg base 2 "_law_take" (F_law_take K g) []) :
    PDSs (FX_law_costs P w K mg base f) K (defBody st_law_costs) (rd_law_costs K g) :=
  (ss_c (s_set (i := 2) (show ∀ k, ((FX_law_costs P w K mg base f).X k).N.Nodup from fun _ => sc_law_costs.nd) (pd_ix (pd_tup (pa_c pd_int (pa_c pd_int (pa_c pd_int (pa_c (pd_add (pd_pow pd_int pd_int) pd_int) pa_n))))) (pd_call h_law_take bf_room (by decide) (pa_c (pd_v 0 (hv := lm463) (hd := lm345) (hcd := lm346)) (pa_c pd_int pa_n)) (hg := lm465) (hdb := lm402))) (hx := lm467) (hf := lm468))
    (ss_1 (s_ret (pd_lc (own := [("_law_place", 3)]) (g := fun cb0 => (dgName 3)) (tt := fun cb0 => dYes) (te := fun cb0 => (dIf (dB (dOp rEq' (dCall (F_law_take K g) [] cb0.w (dCons (dVar 0) (dCons (dC (.int 6)) dNil))) (dC (.int 0)))) (dC (.int 0)) (dCall (F_law_take K g) [] cb0.w (dCons (dVar 0) (dCons (dVar 2) dNil))))) (show ∀ k, ((FX_law_costs P w K mg base f).X k).N.Nodup from fun _ => sc_law_costs.nd) (i_r1 fx.m_range (pa_c (pd_v 1 (hv := lm452) (hd := lm354) (hcd := lm355)) pa_n) (hg := lm454)) (show ∀ k, BlkOk ((FX_law_costs P w K mg base f).X k).N ((FX_law_costs P w K mg base f).X k).env.scope bs_law_costs_0 [("_law_place", 3)] from fun _ => blkOk_by blk_law_costs_0) (pg_n (i := 3) (show ∀ k, ((blkF (FX_law_costs P w K mg base f) bs_law_costs_0).X k).N.Nodup from fun _ => sc_law_costs.nd) (hx := lm455) (hf := lm456)) ts_nil (pd_if (pdt_c (c_eq (blk_room bf_room)) (pd_call h_law_take (blk_room bf_room) (by decide) (pa_c (pd_v 0 (hv := lm457) (hd := lm345) (hcd := lm346)) (pa_c pd_int pa_n)) (hg := lm458) (hdb := lm402)) pd_int) pd_int (pd_call h_law_take (blk_room bf_room) (by decide) (pa_c (pd_v 0 (hv := lm457) (hd := lm345) (hcd := lm346)) (pa_c (pd_v 2 (hv := lm459) (hd := lm460) (hcd := lm461)) pa_n)) (hg := lm458) (hdb := lm402)))))))
end DL
end

section
set_option Elab.async false
set_option linter.all false
set_option maxRecDepth 100000
set_option maxHeartbeats 400000
namespace DL
open PySem PySem.Spec PyProof.Rows L2
/- _law_chart -/
def rd_law_chart (K : PySem.W.Frag) (g : Str → Addr) : DCtx → DS := fun c =>
    (dSeq (dAsg (dOp rAdd' (dC (.int 1)) (dCall (F_law_take K g) [] c.w (dCons (dVar 0) (dCons (dVar 1) dNil)))) (dgName 3))
    (dSeq (dAsg (dCall (F_law_costs K g) [] c.w (dCons (dVar 0) (dCons (dVar 3) dNil))) (dgName 4))
    (dSeq (dAsg (dLstM dNil) (dgName 5))
    (dSeq (dFor (diRng2 (dCons (dC (.int 1)) (dCons (dVar 3) dNil))) (dgName 6) (dSeq (dAsg (dIf (dTru (dCall (F_law_take K g) [] c.w (dCons (dVar 0) (dCons (dC (.int 3)) dNil)))) (dOp (rI0' fun i j => .int (i - j)) (dVar 6) (dC (.int 1))) (dCall (F_law_take K g) [] c.w (dCons (dVar 0) (dCons (dVar 6) dNil)))) (dgName 7))
    (dDrop (dBM rAppend' (dVar 5) (dCons (dTup (dCons (dVar 7) (dCons (dVar 6) dNil))) dNil)))))
    (dSeq (dFor (diRng1 (dCons (dCall (F_law_take K g) [] c.w (dCons (dVar 0) (dCons (dOp rAdd' (dVar 2) (dC (.int 1))) dNil))) dNil)) (dgName 8) (dDrop (dBM rAppend' (dVar 5) (dCons (dTup (dCons (dCall (F_law_take K g) [] c.w (dCons (dVar 0) (dCons (dVar 3) dNil))) (dCons (dCall (F_law_take K g) [] c.w (dCons (dVar 0) (dCons (dVar 3) dNil))) dNil))) dNil))))
    (dGh (dSeq (dIfS (dB (dOp rEq' (dCall (F_law_take K g) [] c.w (dCons (dVar 0) (dCons (dC (.int 3)) dNil))) (dC (.int 0)))) (dSeq (dAsg (dCall (F_law_take K g) [] c.w (dCons (dVar 0) (dCons (dOp rAdd' (dCB rLen' (dCons (dVar 5) dNil)) (dC (.int 1))) dNil))) (dgName 9))
    (dAsg (dOp rAdd' (dSl (dVar 5) (dPart (dVar 9)) dNoPart) (dSl (dVar 5) dNoPart (dPart (dVar 9)))) (dgName 5))) dNext)
    (dRetG (dTup (dCons (dCB rTupOf' (dCons (dVar 4) dNil)) (dCons (dCB rTupOf' (dCons (dCall (F_law_renumbered K g) [] c.w (dCons (dVar 0) (dCons (dVar 3) (dCons (dVar 5) dNil)))) dNil)) dNil)))))))))))
theorem der_law_chart {P : Program} {w : World} {K : PySem.W.Frag} {mg : Str → Option Value} {base : Heap} {g : Str → Addr} {f : Addr} (fx : Fx P w K mg base g) (h_law_costs : FnD P w K mg base 3 "_law_costs" (F_law_costs K g) []) (h_law_renumbered : FnD P w K mg base 3 "_law_renumbered" (F_law_renumbered K g) []) (h_law_take : FnD P w K mg base 2 "_law_take" (F_law_take K g) []) :
    PDSs (FX_law_chart P w K mg base f) K (defBody st_law_chart) (rd_law_chart K g) :=
  (ss_c (s_set (i := 3) (show ∀ k, ((FX_law_chart P w K mg base f).X k).N.Nodup from fun _ => sc_law_chart.nd) (pd_add pd_int (pd_call h_law_take bf_room (by decide) (pa_c (pd_v 0 (hv := lm414) (hd := lm345) (hcd := lm346)) (pa_c (pd_v 1 (hv := lm475) (hd := lm476) (hcd := lm477)) pa_n)) (hg := lm425) (hdb := lm402))) (hx := lm478) (hf := lm479))
    (ss_c (s_set (i := 4) (show ∀ k, ((FX_law_chart P w K mg base f).X k).N.Nodup from fun _ => sc_law_chart.nd) (pd_call h_law_costs bf_room (by decide) (pa_c (pd_v 0 (hv := lm414) (hd := lm345) (hcd := lm346)) (pa_c (pd_v 3 (hv := lm412) (hd := lm354) (hcd := lm355)) pa_n)) (hg := lm470) (hdb := lm471)) (hx := lm472) (hf := lm473))
    (ss_c (s_set (i := 5) (show ∀ k, ((FX_law_chart P w K mg base f).X k).N.Nodup from fun _ => sc_law_chart.nd) (pd_lstM pa_n) (hx := lm428) (hf := lm429))
    (ss_c (s_for (ws := [6]) bf_pso (i_r2 fx.m_range (pa_c pd_int (pa_c (pd_v 3 (hv := lm412) (hd := lm354) (hcd := lm355)) pa_n)) (hg := lm439)) (pg_n (i := 6) (show ∀ k, ((FX_law_chart P w K mg base f).X k).N.Nodup from fun _ => sc_law_chart.nd) (hx := lm444) (hf := lm445)) (ss_c (s_set (i := 7) (show ∀ k, ((FX_law_chart P w K mg base f).X k).N.Nodup from fun _ => sc_law_chart.nd) (pd_if (pdt_tru (pd_call h_law_take bf_room (by decide) (pa_c (pd_v 0 (hv := lm414) (hd := lm345) (hcd := lm346)) (pa_c pd_int pa_n)) (hg := lm425) (hdb := lm402))) (pd_sub (pd_v 6 (hv := lm446) (hd := lm380) (hcd := lm381)) pd_int) (pd_call h_law_take bf_room (by decide) (pa_c (pd_v 0 (hv := lm414) (hd := lm345) (hcd := lm346)) (pa_c (pd_v 6 (hv := lm446) (hd := lm380) (hcd := lm381)) pa_n)) (hg := lm425) (hdb := lm402))) (hx := lm449) (hf := lm450))
    (ss_1 (s_expr (pd_append (pd_v 5 (hv := lm410) (hd := lm370) (hcd := lm371)) (pa_c (pd_tup (pa_c (pd_v 7 (hv := lm448) (hd := lm383) (hcd := lm384)) (pa_c (pd_v 6 (hv := lm446) (hd := lm380) (hcd := lm381)) pa_n))) pa_n))))))
    (ss_c (s_for (ws := [8]) bf_pso (i_r1 fx.m_range (pa_c (pd_call h_law_take bf_room (by decide) (pa_c (pd_v 0 (hv := lm414) (hd := lm345) (hcd := lm346)) (pa_c (pd_add (pd_v 2 (hv := lm435) (hd := lm436) (hcd := lm437)) pd_int) pa_n)) (hg := lm425) (hdb := lm402)) pa_n) (hg := lm439)) (pg_n (i := 8) (show ∀ k, ((FX_law_chart P w K mg base f).X k).N.Nodup from fun _ => sc_law_chart.nd) (hx := lm441) (hf := lm442)) (ss_1 (s_expr (pd_append (pd_v 5 (hv := lm410) (hd := lm370) (hcd := lm371)) (pa_c (pd_tup (pa_c (pd_call h_law_take bf_room (by decide) (pa_c (pd_v 0 (hv := lm414) (hd := lm345) (hcd := lm346)) (pa_c (pd_v 3 (hv := lm412) (hd := lm354) (hcd := lm355)) pa_n)) (hg := lm425) (hdb := lm402)) (pa_c (pd_call h_law_take bf_room (by decide) (pa_c (pd_v 0 (hv := lm414) (hd := lm345) (hcd := lm346)) (pa_c (pd_v 3 (hv := lm412) (hd := lm354) (hcd := lm355)) pa_n)) (hg := lm425) (hdb := lm402)) pa_n))) pa_n)))))
    (ss_gh (ss_c (s_if (pdt_c (c_eq bf_room) (pd_call h_law_take bf_room (by decide) (pa_c (pd_v 0 (hv := lm414) (hd := lm345) (hcd := lm346)) (pa_c pd_int pa_n)) (hg := lm425) (hdb := lm402)) pd_int) (ss_c (s_set (i := 9) (show ∀ k, ((FX_law_chart P w K mg base f).X k).N.Nodup from fun _ => sc_law_chart.nd) (pd_call h_law_take bf_room (by decide) (pa_c (pd_v 0 (hv := lm414) (hd := lm345) (hcd := lm346)) (pa_c (pd_add (pd_len fx.m_len (pa_c (pd_v 5 (hv := lm410) (hd := lm370) (hcd := lm371)) pa_n) (hg := lm431)) pd_int) pa_n)) (hg := lm425) (hdb := lm402)) (hx := lm432) (hf := lm433))
    (ss_1 (s_set (i := 5) (show ∀ k, ((FX_law_chart P w K mg base f).X k).N.Nodup from fun _ => sc_law_chart.nd) (pd_add (pd_slice (pd_v 5 (hv := lm410) (hd := lm370) (hcd := lm371)) (po_s (pd_v 9 (hv := lm427) (hd := lm333) (hcd := lm334))) po_n) (pd_slice (pd_v 5 (hv := lm410) (hd := lm370) (hcd := lm371)) po_n (po_s (pd_v 9 (hv := lm427) (hd := lm333) (hcd := lm334))))) (hx := lm428) (hf := lm429)))) ss_nil)
    (ss_1 (s_retG (pd_tup (pa_c (pd_tupOf fx.m_tuple (pa_c (pd_v 4 (hv := lm421) (hd := lm422) (hcd := lm423)) pa_n) (hg := lm419)) (pa_c (pd_tupOf fx.m_tuple (pa_c (pd_call h_law_renumbered bf_room (by decide) (pa_c (pd_v 0 (hv := lm414) (hd := lm345) (hcd := lm346)) (pa_c (pd_v 3 (hv := lm412) (hd := lm354) (hcd := lm355)) (pa_c (pd_v 5 (hv := lm410) (hd := lm370) (hcd := lm371)) pa_n))) (hg := lm416) (hdb := lm417)) pa_n) (hg := lm419)) pa_n))))))))))))
end DL
end

section
set_option Elab.async false
set_option linter.all false
set_option maxRecDepth 100000
set_option maxHeartbeats 400000
namespace DL
open PySem PySem.Spec PyProof.Rows L2
/- _law_places -/
def rd_law_places (K : PySem.W.Frag) (g : Str → Addr) : DCtx → DS := fun c =>
    (dRet (dOp rAdd' (dLst (dCons (dC (.int 0)) dNil)) (dLc (diSeq (dVar 1)) (dgName 2) dYes (dOp rIx' (dOp rIx' (dVar 0) (dVar 2)) (dC (.int 1))) [2])))
theorem der_law_places {P : Program} {w : World} {K : PySem.W.Frag} {mg : Str → Option Value} {base : Heap} {g : Str → Addr} {f : Addr} (fx : Fx P w K mg base g) :
    PDSs (FX_law_places P w K mg base f) K (defBody st_law_places) (rd_law_places K g) :=
  (ss_1 (s_ret (pd_add (pd_lst (pa_c pd_int pa_n)) (pd_lc (own := [("_law_arrow", 2)]) (g := fun cb0 => (dgName 2)) (tt := fun cb0 => dYes) (te := fun cb0 => (dOp rIx' (dOp rIx' (dVar 0) (dVar 2)) (dC (.int 1)))) (show ∀ k, ((FX_law_places P w K mg base f).X k).N.Nodup from fun _ => sc_law_places.nd) (i_seq (pd_v 1 (hv := lm481) (hd := lm482) (hcd := lm483))) (show ∀ k, BlkOk ((FX_law_places P w K mg base f).X k).N ((FX_law_places P w K mg base f).X k).env.scope bs_law_places_0 [("_law_arrow", 2)] from fun _ => blkOk_by blk_law_places_0) (pg_n (i := 2) (show ∀ k, ((blkF (FX_law_places P w K mg base f) bs_law_places_0).X k).N.Nodup from fun _ => sc_law_places.nd) (hx := lm484) (hf := lm485)) ts_nil (pd_ix (pd_ix (pd_v 0 (hv := lm486) (hd := lm370) (hcd := lm371)) (pd_v 2 (hv := lm487) (hd := lm488) (hcd := lm489))) pd_int)))))
end DL
end

section
set_option Elab.async false
set_option linter.all false
set_option maxRecDepth 100000
set_option maxHeartbeats 400000
namespace DL
open PySem PySem.Spec PyProof.Rows L2
/- _law_tuples -/
def rd_law_tuples (K : PySem.W.Frag) (g : Str → Addr) (G : DF) : DCtx → DS := fun c =>
    (dSeq (dIfS (dTru (dCB (rIsi' K) (dCons (dVar 0) (dCons (dC (.ty .tuple)) dNil)))) (dRet (dNotT (dLc (diSeq (dVar 0)) (dgName 1) (dNot (dTru (dCall G [] c0.w (dCons (dVar 1) dNil)))) (dC (.int 1)) [1]))) dNext)
    (dRet (dOrT (dOp rIsN' (dVar 0) (dC .non)) (dOrT (dCB (rIsi' K) (dCons (dVar 0) (dCons (dC (.ty .str)) dNil))) (dAndT (dCB (rIsi' K) (dCons (dVar 0) (dCons (dC (.ty .int)) dNil))) (dNotT (dCB (rIsi' K) (dCons (dVar 0) (dCons (dC (.ty .bool)) dNil)))))))))
theorem der_law_tuples {P : Program} {w : World} {K : PySem.W.Frag} {mg : Str → Option Value} {base : Heap} {g : Str → Addr} {f : Addr} (fx : Fx P w K mg base g) {kk : Nat} {G : DF} (h_self : FnD P w K mg base kk "_law_tuples" G []) :
    PDSs (FX_law_tuples P w K mg base f kk) K (defBody st_law_tuples) (rd_law_tuples K g G) :=
  (ss_c (s_if (pdt_tru (pd_isi fx.m_isinstance (pa_c (pd_v 0 (hv := lm491) (hd := lm492) (hcd := lm493)) (pa_c (pd_ty .tuple fx.m_tuple (by decide +kernel) (hg := lm505) (hn := lm26) (hd := lm27)) pa_n)) (hg := lm499))) (ss_1 (s_ret (pd_not (pd_lc (own := [("_law_item", 1)]) (g := fun cb0 => (dgName 1)) (tt := fun cb0 => (dNot (dTru (dCall G [] cb0.w (dCons (dVar 1) dNil))))) (te := fun cb0 => (dC (.int 1))) (show ∀ k, ((FX_law_tuples P w K mg base f kk).X k).N.Nodup from fun _ => sc_law_tuples.nd) (i_seq (pd_v 0 (hv := lm491) (hd := lm492) (hcd := lm493))) (show ∀ k, BlkOk ((FX_law_tuples P w K mg base f kk).X k).N ((FX_law_tuples P w K mg base f kk).X k).env.scope bs_law_tuples_0 [("_law_item", 1)] from fun _ => blkOk_by blk_law_tuples_0) (pg_n (i := 1) (show ∀ k, ((blkF (FX_law_tuples P w K mg base f kk) bs_law_tuples_0).X k).N.Nodup from fun _ => sc_law_tuples.nd) (hx := lm506) (hf := lm507)) (ts_one (pdt_not (pdt_tru (pd_call h_self (blk_room bf_room) (Nat.le_refl kk) (pa_c (pd_v 1 (hv := lm508) (hd := lm509) (hcd := lm510)) pa_n) (hg := lm511) (hdb := lm512))))) pd_int)))) ss_nil)
    (ss_1 (s_ret (pd_or (pd_c c_is (pd_v 0 (hv := lm491) (hd := lm492) (hcd := lm493)) pd_non) (pd_or (pd_isi fx.m_isinstance (pa_c (pd_v 0 (hv := lm491) (hd := lm492) (hcd := lm493)) (pa_c (pd_ty .str fx.m_str (by decide +kernel) (hg := lm495) (hn := lm496) (hd := lm497)) pa_n)) (hg := lm499)) (pd_one (pd_and (pd_isi fx.m_isinstance (pa_c (pd_v 0 (hv := lm491) (hd := lm492) (hcd := lm493)) (pa_c (pd_ty .int fx.m_int (by decide +kernel) (hg := lm501) (hn := lm2) (hd := lm3)) pa_n)) (hg := lm499)) (pd_one (pd_not (pd_isi fx.m_isinstance (pa_c (pd_v 0 (hv := lm491) (hd := lm492) (hcd := lm493)) (pa_c (pd_ty .bool fx.m_bool (by decide +kernel) (hg := lm503) (hn := lm12) (hd := lm13)) pa_n)) (hg := lm499)))))))))))
end DL
end

section
set_option Elab.async false
set_option linter.all false
set_option maxRecDepth 100000
set_option maxHeartbeats 400000
namespace DL
open PySem PySem.Spec PyProof.Rows L2
/- _law_odd -/
def rd_law_odd (K : PySem.W.Frag) (g : Str → Addr) : DCtx → DS := fun c =>
    (dSeq (dAsg (dCall (F_law_take K g) [] c.w (dCons (dVar 0) (dCons (dC (.int 9)) dNil))) (dgName 2))
    (dSeq (dIfS (dB (dOp rEq' (dVar 2) (dC (.int 0)))) (dRet (dOp rAdd' (dVar 1) (dCall (F_law_take K g) [] c.w (dCons (dVar 0) (dCons (dOp (rI' CPow fun i j => .int (i ^ j.toNat)) (dC (.int 10)) (dC (.int 12))) dNil))))) dNext)
    (dSeq (dIfS (dB (dOp rEq' (dVar 2) (dC (.int 1)))) (dRet (dOp (rI0' fun i j => .int (i - j)) (dUnI (fun i => -i) (dC (.int 1))) (dCall (F_law_take K g) [] c.w (dCons (dVar 0) (dCons (dOp (rI' CPow fun i j => .int (i ^ j.toNat)) (dC (.int 10)) (dC (.int 12))) dNil))))) dNext)
    (dRet (dOp rIx' (dTup (dCons (dC (.bl true)) (dCons (dC (.bl false)) (dCons (dC .non) (dCons (dC (.str "1")) (dCons (dTup (dCons (dC (.int 0)) dNil)) (dCons (dC (.str "00")) (dCons (dVar 1) dNil)))))))) (dOp (rI0' fun i j => .int (i - j)) (dVar 2) (dC (.int 2))))))))
theorem der_law_odd {P : Program} {w : World} {K : PySem.W.Frag} {mg : Str → Option Value} {base : Heap} {g : Str → Addr} {f : Addr} (fx : Fx P w K mg base g) (h_law_take : FnD P w K mg base 2 "_law_take" (F_law_take K g) []) :
    PDSs (FX_law_odd P w K mg base f) K (defBody st_law_odd) (rd_law_odd K g) :=
  (ss_c (s_set (i := 2) (show ∀ k, ((FX_law_odd P w K mg base f).X k).N.Nodup from fun _ => sc_law_odd.nd) (pd_call h_law_take bf_room (by decide) (pa_c (pd_v 0 (hv := lm520) (hd := lm345) (hcd := lm346)) (pa_c pd_int pa_n)) (hg := lm522) (hdb := lm402)) (hx := lm523) (hf := lm524))
    (ss_c (s_if (pdt_c (c_eq bf_room) (pd_v 2 (hv := lm516) (hd := lm517) (hcd := lm518)) pd_int) (ss_1 (s_ret (pd_add (pd_v 1 (hv := lm514) (hd := lm460) (hcd := lm461)) (pd_call h_law_take bf_room (by decide) (pa_c (pd_v 0 (hv := lm520) (hd := lm345) (hcd := lm346)) (pa_c (pd_pow pd_int pd_int) pa_n)) (hg := lm522) (hdb := lm402))))) ss_nil)
    (ss_c (s_if (pdt_c (c_eq bf_room) (pd_v 2 (hv := lm516) (hd := lm517) (hcd := lm518)) pd_int) (ss_1 (s_ret (pd_sub (pd_neg pd_int) (pd_call h_law_take bf_room (by decide) (pa_c (pd_v 0 (hv := lm520) (hd := lm345) (hcd := lm346)) (pa_c (pd_pow pd_int pd_int) pa_n)) (hg := lm522) (hdb := lm402))))) ss_nil)
    (ss_1 (s_ret (pd_ix (pd_tup (pa_c pd_bl (pa_c pd_bl (pa_c pd_non (pa_c pd_str (pa_c (pd_tup (pa_c pd_int pa_n)) (pa_c pd_str (pa_c (pd_v 1 (hv := lm514) (hd := lm460) (hcd := lm461)) pa_n)))))))) (pd_sub (pd_v 2 (hv := lm516) (hd := lm517) (hcd := lm518)) pd_int)))))))
end DL
end

section
set_option Elab.async false
set_option linter.all false
set_option maxRecDepth 100000
set_option maxHeartbeats 400000
namespace DL
open PySem PySem.Spec PyProof.Rows L2
/- _law_best_runs -/
def rd_law_best_runs (K : PySem.W.Frag) (g : Str → Addr) : DCtx → DS := fun c =>
    (dSeq (dAsg (dOp rRepLM' (dLst (dCons (dC .non) dNil)) (dVar 1)) (dgName 2))
    (dSeq (dAsg (dTup dNil) (dgSub (dVar 2) (dC (.int 0))))
    (dSeq (dFor (diRng1 (dCons (dVar 1) dNil)) (dgName 3) (dFor (diRng1 (dCons (dCB rLen' (dCons (dVar 0) dNil)) dNil)) (dgName 4) (dSeq (dAsg (dOp rIx' (dVar 0) (dVar 4)) (dgTup 2 (dgCons (dgName 5) (dgCons (dgName 6) dgNil))))
    (dIfS (dB (dOp rNotN' (dOp rIx' (dVar 2) (dVar 5)) (dC .non))) (dSeq (dAsg (dOp rAdd' (dOp rIx' (dVar 2) (dVar 5)) (dTup (dCons (dVar 4) dNil))) (dgName 7))
    (dIfS (dOr (dB (dOp rIsN' (dOp rIx' (dVar 2) (dVar 6)) (dC .non))) (dB (dOp rLtP' (dTup (dCons (dCB rLen' (dCons (dVar 7) dNil)) (dCons (dVar 7) dNil))) (dTup (dCons (dCB rLen' (dCons (dOp rIx' (dVar 2) (dVar 6)) dNil)) (dCons (dOp rIx' (dVar 2) (dVar 6)) dNil)))))) (dAsg (dVar 7) (dgSub (dVar 2) (dVar 6))) dNext)) dNext))))
    (dRetG (dVar 2)))))
theorem der_law_best_runs {P : Program} {w : World} {K : PySem.W.Frag} {mg : Str → Option Value} {base : Heap} {g : Str → Addr} {f : Addr} (fx : Fx P w K mg base g) :
    PDSs (FX_law_best_runs P w K mg base f) K (defBody st_law_best_runs) (rd_law_best_runs K g) :=
  (ss_c (s_set (i := 2) (show ∀ k, ((FX_law_best_runs P w K mg base f).X k).N.Nodup from fun _ => sc_law_best_runs.nd) (pd_repLM (pd_lst (pa_c pd_non pa_n)) (pd_v 1 (hv := lm530) (hd := lm354) (hcd := lm355))) (hx := lm558) (hf := lm559))
    (ss_c (s_asg (ws := []) (pd_tup pa_n) (pg_s (pd_v 2 (hv := lm526) (hd := lm527) (hcd := lm528)) pd_int))
    (ss_c (s_for (ws := [3]) bf_pso (i_r1 fx.m_range (pa_c (pd_v 1 (hv := lm530) (hd := lm354) (hcd := lm355)) pa_n) (hg := lm532)) (pg_n (i := 3) (show ∀ k, ((FX_law_best_runs P w K mg base f).X k).N.Nodup from fun _ => sc_law_best_runs.nd) (hx := lm534) (hf := lm535)) (ss_1 (s_for (ws := [4]) bf_pso (i_r1 fx.m_range (pa_c (pd_len fx.m_len (pa_c (pd_v 0 (hv := lm537) (hd := lm370) (hcd := lm371)) pa_n) (hg := lm539)) pa_n) (hg := lm532)) (pg_n (i := 4) (show ∀ k, ((FX_law_best_runs P w K mg base f).X k).N.Nodup from fun _ => sc_law_best_runs.nd) (hx := lm541) (hf := lm542)) (ss_c (s_asg (ws := [5, 6]) (pd_ix (pd_v 0 (hv := lm537) (hd := lm370) (hcd := lm371)) (pd_v 4 (hv := lm551) (hd := lm488) (hcd := lm489))) (pg_t (pgs_c (pg_n (i := 5) (show ∀ k, ((FX_law_best_runs P w K mg base f).X k).N.Nodup from fun _ => sc_law_best_runs.nd) (hx := lm556) (hf := lm557)) (pgs_c (pg_n (i := 6) (show ∀ k, ((FX_law_best_runs P w K mg base f).X k).N.Nodup from fun _ => sc_law_best_runs.nd) (hx := lm554) (hf := lm555)) pgs_n))))
    (ss_1 (s_if (pdt_c c_isn (pd_ix (pd_v 2 (hv := lm526) (hd := lm527) (hcd := lm528)) (pd_v 5 (hv := lm544) (hd := lm383) (hcd := lm384))) pd_non) (ss_c (s_set (i := 7) (show ∀ k, ((FX_law_best_runs P w K mg base f).X k).N.Nodup from fun _ => sc_law_best_runs.nd) (pd_add (pd_ix (pd_v 2 (hv := lm526) (hd := lm527) (hcd := lm528)) (pd_v 5 (hv := lm544) (hd := lm383) (hcd := lm384))) (pd_tup (pa_c (pd_v 4 (hv := lm551) (hd := lm488) (hcd := lm489)) pa_n))) (hx := lm552) (hf := lm553))
    (ss_1 (s_if (pdw_or (pdt_c c_is (pd_ix (pd_v 2 (hv := lm526) (hd := lm527) (hcd := lm528)) (pd_v 6 (hv := lm546) (hd := lm380) (hcd := lm381))) pd_non) (pdw_or1 (pdt_c (c_ltP bf_room) (pd_tup (pa_c (pd_len fx.m_len (pa_c (pd_v 7 (hv := lm548) (hd := lm549) (hcd := lm550)) pa_n) (hg := lm539)) (pa_c (pd_v 7 (hv := lm548) (hd := lm549) (hcd := lm550)) pa_n))) (pd_tup (pa_c (pd_len fx.m_len (pa_c (pd_ix (pd_v 2 (hv := lm526) (hd := lm527) (hcd := lm528)) (pd_v 6 (hv := lm546) (hd := lm380) (hcd := lm381))) pa_n) (hg := lm539)) (pa_c (pd_ix (pd_v 2 (hv := lm526) (hd := lm527) (hcd := lm528)) (pd_v 6 (hv := lm546) (hd := lm380) (hcd := lm381))) pa_n)))))).pdt (ss_1 (s_asg (ws := []) (pd_v 7 (hv := lm548) (hd := lm549) (hcd := lm550)) (pg_s (pd_v 2 (hv := lm526) (hd := lm527) (hcd := lm528)) (pd_v 6 (hv := lm546) (hd := lm380) (hcd := lm381))))) ss_nil))) ss_nil))))))
    (ss_1 (s_retG (pd_v 2 (hv := lm526) (hd := lm527) (hcd := lm528)))))))
end DL
end

section
set_option Elab.async false
set_option linter.all false
set_option maxRecDepth 100000
set_option maxHeartbeats 400000
namespace DL
open PySem PySem.Spec PyProof.Rows L2
/- _law_counts -/
def rd_law_counts (K : PySem.W.Frag) (g : Str → Addr) : DCtx → DS := fun c =>
    (dSeq (dAsg (dOp rAdd' (dLst (dCons (dC (.int 1)) dNil)) (dOp rRepL' (dLst (dCons (dC (.int 0)) dNil)) (dOp (rI0' fun i j => .int (i - j)) (dVar 1) (dC (.int 1))))) (dgName 3))
    (dSeq (dAsg (dLstM (dCons (dC (.int 1)) dNil)) (dgName 4))
    (dSeq (dFor (diRng1 (dCons (dVar 2) dNil)) (dgName 5) (dSeq (dAsg (dOp rRepLM' (dLst (dCons (dC (.int 0)) dNil)) (dVar 1)) (dgName 6))
    (dSeq (dFor (diSeq (dVar 0)) (dgTup 2 (dgCons (dgName 7) (dgCons (dgName 8) dgNil))) (dAsg (dOp rAdd' (dOp rIx' (dVar 6) (dVar 8)) (dOp rIx' (dVar 3) (dVar 7))) (dgSub (dVar 6) (dVar 8))))
    (dGh (dSeq (dAsg (dCB rListOf' (dCons (dVar 6) dNil)) (dgName 3))
    (dDrop (dBM rAppend' (dVar 4) (dCons (dCB rSum' (dCons (dVar 3) dNil)) dNil))))))))
    (dRetG (dVar 4)))))
theorem der_law_counts {P : Program} {w : World} {K : PySem.W.Frag} {mg : Str → Option Value} {base : Heap} {g : Str → Addr} {f : Addr} (fx : Fx P w K mg base g) :
    PDSs (FX_law_counts P w K mg base f) K (defBody st_law_counts) (rd_law_counts K g) :=
  (ss_c (s_set (i := 3) (show ∀ k, ((FX_law_counts P w K mg base f).X k).N.Nodup from fun _ => sc_law_counts.nd) (pd_add (pd_lst (pa_c pd_int pa_n)) (pd_repL (pd_lst (pa_c pd_int pa_n)) (pd_sub (pd_v 1 (hv := lm596) (hd := lm354) (hcd := lm355)) pd_int))) (hx := lm583) (hf := lm584))
    (ss_c (s_set (i := 4) (show ∀ k, ((FX_law_counts P w K mg base f).X k).N.Nodup from fun _ => sc_law_counts.nd) (pd_lstM (pa_c pd_int pa_n)) (hx := lm599) (hf := lm600))
    (ss_c (s_for (ws := [5]) bf_pso (i_r1 fx.m_range (pa_c (pd_v 2 (hv := lm565) (hd := lm476) (hcd := lm477)) pa_n) (hg := lm567)) (pg_n (i := 5) (show ∀ k, ((FX_law_counts P w K mg base f).X k).N.Nodup from fun _ => sc_law_counts.nd) (hx := lm569) (hf := lm570)) (ss_c (s_set (i := 6) (show ∀ k, ((FX_law_counts P w K mg base f).X k).N.Nodup from fun _ => sc_law_counts.nd) (pd_repLM (pd_lst (pa_c pd_int pa_n)) (pd_v 1 (hv := lm596) (hd := lm354) (hcd := lm355))) (hx := lm597) (hf := lm598))
    (ss_c (s_for (ws := [7, 8]) bf_pso (i_seq (pd_v 0 (hv := lm586) (hd := lm370) (hcd := lm371))) (pg_t (pgs_c (pg_n (i := 7) (show ∀ k, ((FX_law_counts P w K mg base f).X k).N.Nodup from fun _ => sc_law_counts.nd) (hx := lm591) (hf := lm592)) (pgs_c (pg_n (i := 8) (show ∀ k, ((FX_law_counts P w K mg base f).X k).N.Nodup from fun _ => sc_law_counts.nd) (hx := lm588) (hf := lm589)) pgs_n))) (ss_1 (s_asg (ws := []) (pd_add (pd_ix (pd_v 6 (hv := lm578) (hd := lm579) (hcd := lm580)) (pd_v 8 (hv := lm593) (hd := lm380) (hcd := lm381))) (pd_ix (pd_v 3 (hv := lm572) (hd := lm573) (hcd := lm574)) (pd_v 7 (hv := lm594) (hd := lm383) (hcd := lm384)))) (pg_s (pd_v 6 (hv := lm578) (hd := lm579) (hcd := lm580)) (pd_v 8 (hv := lm593) (hd := lm380) (hcd := lm381))))))
    (ss_gh (ss_c (s_set (i := 3) (show ∀ k, ((FX_law_counts P w K mg base f).X k).N.Nodup from fun _ => sc_law_counts.nd) (pd_listOf fx.m_list (pa_c (pd_v 6 (hv := lm578) (hd := lm579) (hcd := lm580)) pa_n) (hg := lm582)) (hx := lm583) (hf := lm584))
    (ss_1 (s_expr (pd_append (pd_v 4 (hv := lm561) (hd := lm562) (hcd := lm563)) (pa_c (pd_sum fx.m_sum (pa_c (pd_v 3 (hv := lm572) (hd := lm573) (hcd := lm574)) pa_n) (hg := lm576)) pa_n)))))))))
    (ss_1 (s_retG (pd_v 4 (hv := lm561) (hd := lm562) (hcd := lm563)))))))
end DL
end

section
set_option Elab.async false
set_option linter.all false
set_option maxRecDepth 100000
set_option maxHeartbeats 400000
namespace DL
open PySem PySem.Spec PyProof.Rows L2
/- _law_length_word -/
def rd_law_length_word (K : PySem.W.Frag) (g : Str → Addr) : DCtx → DS := fun c =>
    (dTryAs K (g "BadLength") 3 (fun c => (dSeq (dIfS (dTru (dVar 2)) (dRet (dCB rLen' (dCons (dLiG (F_all_runs K g) (fun C : Addr => C = g "BadLength") [] c.w (dCons (dVar 0) (dCons (dVar 1) dNil))) dNil))) dNext)
    (dRet (dCall (F_count_runs K g) [] c.w (dCons (dVar 0) (dCons (dVar 1) dNil)))))) (fun c => (dRet (dLst (dCons (dXf (g "BadLength") "length" (fun c => (dVar 3)) c) dNil)))) c)
theorem der_law_length_word {P : Program} {w : World} {K : PySem.W.Frag} {mg : Str → Option Value} {base : Heap} {g : Str → Addr} {f : Addr} (fx : Fx P w K mg base g) (h_all_runs : GnD P w K mg base 5 "all_runs" (F_all_runs K g) []) (h_count_runs : FnD P w K mg base 3 "count_runs" (F_count_runs K g) []) :
    PDSs (FX_law_length_word P w K mg base f) K (defBody st_law_length_word) (rd_law_length_word K g) :=
  (ss_1 (s_tryAs (i := 3) fx.g_BadLength (show ∀ k, ((FX_law_length_word P w K mg base f).X k).N.Nodup from fun _ => sc_law_length_word.nd) (ss_c (s_if (pdt_tru (pd_v 2 (hv := lm613) (hd := lm614) (hcd := lm615))) (ss_1 (s_ret (pd_len fx.m_len (pa_c (pd_liG (NS := (fun C : Addr => C = g "BadLength")) h_all_runs (tr_room bf_room) (by decide) (fun C e => by subst e; exact fx.nos_BadLength) fx.m_list (pa_c (pd_v 0 (hv := lm606) (hd := lm607) (hcd := lm608)) (pa_c (pd_v 1 (hv := lm602) (hd := lm603) (hcd := lm604)) pa_n)) (hg := lm617) (hgl := lm619) (hdb := lm620)) pa_n) (hg := lm622)))) ss_nil)
    (ss_1 (s_ret (pd_call h_count_runs (tr_room bf_room) (by decide) (pa_c (pd_v 0 (hv := lm606) (hd := lm607) (hcd := lm608)) (pa_c (pd_v 1 (hv := lm602) (hd := lm603) (hcd := lm604)) pa_n)) (hg := lm610) (hdb := lm611))))) (ss_1 (s_ret (pd_lst (pa_c (pd_xf fx.xf_BadLength fx.nf_BadLength_length (pd_v 3 (hv := lm624) (hd := lm625) (hcd := lm626))) pa_n)))) (hln := lm627) (hg := lm629) (hdb := lm217)))
end DL
end

section
set_option Elab.async false
set_option linter.all false
set_option maxRecDepth 100000
set_option maxHeartbeats 400000
namespace DL
open PySem PySem.Spec PyProof.Rows L2
/- _law_place_word -/
def rd_law_place_word (K : PySem.W.Frag) (g : Str → Addr) : DCtx → DS := fun c =>
    (dSeq (dTryAs K (g "BadPlace") 2 (fun c => (dDrop (dCall (F_run_to K g) [] c.w (dCons (dVar 0) (dCons (dVar 1) dNil))))) (fun c => (dRet (dLst (dCons (dXf (g "BadPlace") "place" (fun c => (dVar 2)) c) dNil)))) c)
    (dRet (dC .non)))
theorem der_law_place_word {P : Program} {w : World} {K : PySem.W.Frag} {mg : Str → Option Value} {base : Heap} {g : Str → Addr} {f : Addr} (fx : Fx P w K mg base g) (h_run_to : FnD P w K mg base 5 "run_to" (F_run_to K g) []) :
    PDSs (FX_law_place_word P w K mg base f) K (defBody st_law_place_word) (rd_law_place_word K g) :=
  (ss_c (s_tryAs (i := 2) fx.g_BadPlace (show ∀ k, ((FX_law_place_word P w K mg base f).X k).N.Nodup from fun _ => sc_law_place_word.nd) (ss_1 (s_expr (pd_call h_run_to (tr_room bf_room) (by decide) (pa_c (pd_v 0 (hv := lm635) (hd := lm607) (hcd := lm608)) (pa_c (pd_v 1 (hv := lm631) (hd := lm632) (hcd := lm633)) pa_n)) (hg := lm637) (hdb := lm638)))) (ss_1 (s_ret (pd_lst (pa_c (pd_xf fx.xf_BadPlace fx.nf_BadPlace_place (pd_v 2 (hv := lm640) (hd := lm625) (hcd := lm626))) pa_n)))) (hln := lm641) (hg := lm643) (hdb := lm59))
    (ss_1 (s_ret pd_non)))
end DL
end

section
set_option Elab.async false
set_option linter.all false
set_option maxRecDepth 100000
set_option maxHeartbeats 400000
namespace DL
open PySem PySem.Spec PyProof.Rows L2
/- law -/
def rd_law (K : PySem.W.Frag) (g : Str → Addr) : DCtx → DS := fun c =>
    (dSeq (dAsg (dCall (F_law_hand K g) [] c.w (dCons (dVar 0) dNil)) (dgName 1))
    (dSeq (dAsg (dCall (F_law_chart K g) [] c.w (dCons (dVar 1) (dCons (dC (.int 5)) (dCons (dC (.int 5)) dNil)))) (dgTup 2 (dgCons (dgName 2) (dgCons (dgName 3) dgNil))))
    (dSeq (dAsg (dCB rLen' (dCons (dVar 2) dNil)) (dgName 4))
    (dSeq (dAsg (dMake (g "Chart") (F_Chart__init K g) [] c.w (dCons (dVar 2) (dCons (dVar 3) dNil))) (dgName 5))
    (dSeq (dAsg (dCall (F_law_counts K g) [] c.w (dCons (dVar 3) (dCons (dVar 4) (dCons (dC (.int 100)) dNil)))) (dgName 6))
    (dSeq (dAsg (dCall (F_law_take K g) [] c.w (dCons (dVar 1) (dCons (dC (.int 13)) dNil))) (dgName 7))
    (dSeq (dAsg (dC (.int 0)) (dgName 8))
    (dSeq (dWhile (dAnd (dB (dOp (rI0' fun i j => .bl (decide (i < j))) (dVar 8) (dVar 7))) (dAnd (dB (dOp (rI0' fun i j => .bl (decide (i < j))) (dVar 8) (dC (.int 12)))) (dB (dOp (rI0' fun i j => .bl (decide (i ≤ j))) (dOp rIx' (dVar 6) (dOp rAdd' (dVar 8) (dC (.int 1)))) (dC (.int 300)))))) (dAsg (dOp rAdd' (dVar 8) (dC (.int 1))) (dgName 8)))
    (dSeq (dAsg (dLst (dCons (dTup dNil) dNil)) (dgName 9))
    (dSeq (dFor (diRng1 (dCons (dVar 8) dNil)) (dgName 10) (dSeq (dAsg (dLst dNil) (dgName 11))
    (dSeq (dFor (diSeq (dVar 9)) (dgName 12) (dSeq (dAsg (dOp rIx' (dCall (F_law_places K g) [] c.w (dCons (dVar 3) (dCons (dVar 12) dNil))) (dUnI (fun i => -i) (dC (.int 1)))) (dgName 13))
    (dAsg (dOp rAdd' (dVar 11) (dLc (diRng1 (dCons (dCB rLen' (dCons (dVar 3) dNil)) dNil)) (dgName 18) (dB (dOp rEq' (dOp rIx' (dOp rIx' (dVar 3) (dVar 18)) (dC (.int 0))) (dVar 13))) (dOp rAdd' (dVar 12) (dTup (dCons (dVar 18) dNil))) [18])) (dgName 11))))
    (dAsg (dCB rListOf' (dCons (dVar 11) dNil)) (dgName 9)))))
    (dSeq (dAsg (dLiGM (F_all_runs K g) (fun C : Addr => C = g "BadLength") [] c.w (dCons (dVar 5) (dCons (dVar 8) dNil))) (dgName 14))
    (dSeq (dIfS (dOr (dB (dOp rNe' (dVar 14) (dVar 9))) (dOr (dNot (dTru (dCall (F_law_tuples K g) [] c.w (dCons (dCB rTupOf' (dCons (dVar 14) dNil)) dNil)))) (dB (dOp rNe' (dCall (F_count_runs K g) [] c.w (dCons (dVar 5) (dCons (dVar 8) dNil))) (dCB rLen' (dCons (dVar 9) dNil)))))) (dRet (dC (.bl false))) dNext)
    (dSeq (dDrop (dBM rAppend' (dVar 14) (dCons (dTup dNil) dNil)))
    (dGh (dSeq (dIfS (dB (dOp rNe' (dLiG (F_all_runs K g) (fun C : Addr => C = g "BadLength") [] c.w (dCons (dVar 5) (dCons (dVar 8) dNil))) (dVar 9))) (dRet (dC (.bl false))) dNext)
    (dSeq (dAsg (dOp rIx' (dTup (dCons (dC (.int 100)) (dCons (dCall (F_law_take K g) [] c.w (dCons (dVar 1) (dCons (dC (.int 101)) dNil))) (dCons (dOp rAdd' (dVar 8) (dC (.int 1))) dNil)))) (dCall (F_law_take K g) [] c.w (dCons (dVar 1) (dCons (dC (.int 3)) dNil)))) (dgName 15))
    (dSeq (dIfS (dB (dOp rNe' (dCall (F_count_runs K g) [] c.w (dCons (dVar 5) (dCons (dVar 15) dNil))) (dOp rIx' (dVar 6) (dVar 15)))) (dRet (dC (.bl false))) dNext)
    (dSeq (dAsg (dCall (F_law_best_runs K g) [] c.w (dCons (dVar 3) (dCons (dVar 4) dNil))) (dgName 16))
    (dSeq (dFor (diRng1 (dCons (dVar 4) dNil)) (dgName 13) (dIfS (dOr (dB (dOp rNe' (dCall (F_run_to K g) [] c.w (dCons (dVar 5) (dCons (dVar 13) dNil))) (dOp rIx' (dVar 16) (dVar 13)))) (dNot (dTru (dCall (F_law_tuples K g) [] c.w (dCons (dCall (F_run_to K g) [] c.w (dCons (dVar 5) (dCons (dVar 13) dNil))) dNil))))) (dRet (dC (.bl false))) dNext))
    (dSeq (dFor (diRng1 (dCons (dC (.int 2)) dNil)) (dgName 10) (dSeq (dAsg (dCall (F_law_odd K g) [] c.w (dCons (dVar 1) (dCons (dIf (dTru (dVar 10)) (dC (.int 13)) (dC (.int 101))) dNil))) (dgName 17))
    (dIfS (dB (dOp rNe' (dCall (F_law_length_word K g) [] c.w (dCons (dVar 5) (dCons (dVar 17) (dCons (dVar 10) dNil)))) (dLst (dCons (dVar 17) dNil)))) (dRet (dC (.bl false))) dNext)))
    (dSeq (dAsg (dCall (F_law_odd K g) [] c.w (dCons (dVar 1) (dCons (dVar 4) dNil))) (dgName 17))
    (dRet (dOp rEq' (dCall (F_law_place_word K g) [] c.w (dCons (dVar 5) (dCons (dVar 17) dNil))) (dLst (dCons (dVar 17) dNil)))))))))))))))))))))))))
theorem der_law {P : Program} {w : World} {K : PySem.W.Frag} {mg : Str → Option Value} {base : Heap} {g : Str → Addr} {f : Addr} (fx : Fx P w K mg base g) (h_Chart__init : MkD P w K mg base 3 "Chart" (g "Chart") (F_Chart__init K g) []) (h_law_best_runs : FnD P w K mg base 1 "_law_best_runs" (F_law_best_runs K g) []) (h_law_chart : FnD P w K mg base 4 "_law_chart" (F_law_chart K g) []) (h_law_counts : FnD P w K mg base 1 "_law_counts" (F_law_counts K g) []) (h_law_hand : FnD P w K mg base 1 "_law_hand" (F_law_hand K g) []) (h_law_length_word : FnD P w K mg base 9 "_law_length_word" (F_law_length_word K g) []) (h_law_odd : FnD P w K mg base 3 "_law_odd" (F_law_odd K g) []) (h_law_place_word : FnD P w K mg base 6 "_law_place_word" (F_law_place_word K g) []) (h_law_places : FnD P w K mg base 1 "_law_places" (F_law_places K g) []) (h_law_take : FnD P w K mg base 2 "_law_take" (F_law_take K g) []) (h_law_tuples : FnD P w K mg base 4 "_law_tuples" (F_law_tuples K g) []) (h_all_runs : GnD P w K mg base 5 "all_runs" (F_all_runs K g) []) (h_count_runs : FnD P w K mg base 3 "count_runs" (F_count_runs K g) []) (h_run_to : FnD P w K mg base 5 "run_to" (F_run_to K g) []) :
    PDSs (FX_law P w K mg base f) K (defBody st_law) (rd_law K g) :=
  (ss_c (s_set (i := 1) (show ∀ k, ((FX_law P w K mg base f).X k).N.Nodup from fun _ => sc_law.nd) (pd_call h_law_hand bf_room (by decide) (pa_c (pd_v 0 (hv := lm771) (hd := lm303) (hcd := lm304)) pa_n) (hg := lm773) (hdb := lm774)) (hx := lm775) (hf := lm776))
    (ss_c (s_asg (ws := [2, 3]) (pd_call h_law_chart bf_room (by decide) (pa_c (pd_v 1 (hv := lm656) (hd := lm345) (hcd := lm346)) (pa_c pd_int (pa_c pd_int pa_n))) (hg := lm764) (hdb := lm765)) (pg_t (pgs_c (pg_n (i := 2) (show ∀ k, ((FX_law P w K mg base f).X k).N.Nodup from fun _ => sc_law.nd) (hx := lm768) (hf := lm769)) (pgs_c (pg_n (i := 3) (show ∀ k, ((FX_law P w K mg base f).X k).N.Nodup from fun _ => sc_law.nd) (hx := lm766) (hf := lm767)) pgs_n))))
    (ss_c (s_set (i := 4) (show ∀ k, ((FX_law P w K mg base f).X k).N.Nodup from fun _ => sc_law.nd) (pd_len fx.m_len (pa_c (pd_v 2 (hv := lm755) (hd := lm422) (hcd := lm423)) pa_n) (hg := lm719)) (hx := lm761) (hf := lm762))
    (ss_c (s_set (i := 5) (show ∀ k, ((FX_law P w K mg base f).X k).N.Nodup from fun _ => sc_law.nd) (pd_make h_Chart__init bf_room (by decide) (pa_c (pd_v 2 (hv := lm755) (hd := lm422) (hcd := lm423)) (pa_c (pd_v 3 (hv := lm684) (hd := lm370) (hcd := lm371)) pa_n)) (hg := lm757) (hdb := lm758)) (hx := lm759) (hf := lm760))
    (ss_c (s_set (i := 6) (show ∀ k, ((FX_law P w K mg base f).X k).N.Nodup from fun _ => sc_law.nd) (pd_call h_law_counts bf_room (by decide) (pa_c (pd_v 3 (hv := lm684) (hd := lm370) (hcd := lm371)) (pa_c (pd_v 4 (hv := lm654) (hd := lm354) (hcd := lm355)) (pa_c pd_int pa_n))) (hg := lm750) (hdb := lm751)) (hx := lm752) (hf := lm753))
    (ss_c (s_set (i := 7) (show ∀ k, ((FX_law P w K mg base f).X k).N.Nodup from fun _ => sc_law.nd) (pd_call h_law_take bf_room (by decide) (pa_c (pd_v 1 (hv := lm656) (hd := lm345) (hcd := lm346)) (pa_c pd_int pa_n)) (hg := lm701) (hdb := lm402)) (hx := lm747) (hf := lm748))
    (ss_c (s_set (i := 8) (show ∀ k, ((FX_law P w K mg base f).X k).N.Nodup from fun _ => sc_law.nd) pd_int (hx := lm745) (hf := lm746))
    (ss_c (s_while bf_pso (pdw_and (pdt_c c_lt (pd_v 8 (hv := lm699) (hd := lm603) (hcd := lm604)) (pd_v 7 (hv := lm742) (hd := lm743) (hcd := lm744))) (pdw_and (pdt_c c_lt (pd_v 8 (hv := lm699) (hd := lm603) (hcd := lm604)) pd_int) (pdw_and1 (pdt_c c_le (pd_ix (pd_v 6 (hv := lm697) (hd := lm562) (hcd := lm563)) (pd_add (pd_v 8 (hv := lm699) (hd := lm603) (hcd := lm604)) pd_int)) pd_int)))).pdt (ss_1 (s_set (i := 8) (show ∀ k, ((FX_law P w K mg base f).X k).N.Nodup from fun _ => sc_law.nd) (pd_add (pd_v 8 (hv := lm699) (hd := lm603) (hcd := lm604)) pd_int) (hx := lm745) (hf := lm746))))
    (ss_c (s_set (i := 9) (show ∀ k, ((FX_law P w K mg base f).X k).N.Nodup from fun _ => sc_law.nd) (pd_lst (pa_c (pd_tup pa_n) pa_n)) (hx := lm724) (hf := lm725))
    (ss_c (s_for (ws := [10]) bf_pso (i_r1 fx.m_range (pa_c (pd_v 8 (hv := lm699) (hd := lm603) (hcd := lm604)) pa_n) (hg := lm663)) (pg_n (i := 10) (show ∀ k, ((FX_law P w K mg base f).X k).N.Nodup from fun _ => sc_law.nd) (hx := lm665) (hf := lm666)) (ss_c (s_set (i := 11) (show ∀ k, ((FX_law P w K mg base f).X k).N.Nodup from fun _ => sc_law.nd) (pd_lst pa_n) (hx := lm735) (hf := lm736))
    (ss_c (s_for (ws := [12]) bf_pso (i_seq (pd_v 9 (hv := lm709) (hd := lm710) (hcd := lm711))) (pg_n (i := 12) (show ∀ k, ((FX_law P w K mg base f).X k).N.Nodup from fun _ => sc_law.nd) (hx := lm727) (hf := lm728)) (ss_c (s_set (i := 13) (show ∀ k, ((FX_law P w K mg base f).X k).N.Nodup from fun _ => sc_law.nd) (pd_ix (pd_call h_law_places bf_room (by decide) (pa_c (pd_v 3 (hv := lm684) (hd := lm370) (hcd := lm371)) (pa_c (pd_v 12 (hv := lm737) (hd := lm482) (hcd := lm483)) pa_n)) (hg := lm739) (hdb := lm740)) (pd_neg pd_int)) (hx := lm674) (hf := lm675))
    (ss_1 (s_set (i := 11) (show ∀ k, ((FX_law P w K mg base f).X k).N.Nodup from fun _ => sc_law.nd) (pd_add (pd_v 11 (hv := lm723) (hd := lm579) (hcd := lm580)) (pd_lc (own := [("_law_arrow", 18)]) (g := fun cb0 => (dgName 18)) (tt := fun cb0 => (dB (dOp rEq' (dOp rIx' (dOp rIx' (dVar 3) (dVar 18)) (dC (.int 0))) (dVar 13)))) (te := fun cb0 => (dOp rAdd' (dVar 12) (dTup (dCons (dVar 18) dNil)))) (show ∀ k, ((FX_law P w K mg base f).X k).N.Nodup from fun _ => sc_law.nd) (i_r1 fx.m_range (pa_c (pd_len fx.m_len (pa_c (pd_v 3 (hv := lm684) (hd := lm370) (hcd := lm371)) pa_n) (hg := lm719)) pa_n) (hg := lm663)) (show ∀ k, BlkOk ((FX_law P w K mg base f).X k).N ((FX_law P w K mg base f).X k).env.scope bs_law_0 [("_law_arrow", 18)] from fun _ => blkOk_by blk_law_0) (pg_n (i := 18) (show ∀ k, ((blkF (FX_law P w K mg base f) bs_law_0).X k).N.Nodup from fun _ => sc_law.nd) (hx := lm729) (hf := lm730)) (ts_one (pdt_c (c_eq (blk_room bf_room)) (pd_ix (pd_ix (pd_v 3 (hv := lm731) (hd := lm370) (hcd := lm371)) (pd_v 18 (hv := lm732) (hd := lm488) (hcd := lm489))) pd_int) (pd_v 13 (hv := lm733) (hd := lm632) (hcd := lm633)))) (pd_add (pd_v 12 (hv := lm734) (hd := lm482) (hcd := lm483)) (pd_tup (pa_c (pd_v 18 (hv := lm732) (hd := lm488) (hcd := lm489)) pa_n))))) (hx := lm735) (hf := lm736)))))
    (ss_1 (s_set (i := 9) (show ∀ k, ((FX_law P w K mg base f).X k).N.Nodup from fun _ => sc_law.nd) (pd_listOf fx.m_list (pa_c (pd_v 11 (hv := lm723) (hd := lm579) (hcd := lm580)) pa_n) (hg := lm707)) (hx := lm724) (hf := lm725))))))
    (ss_c (s_set (i := 14) (show ∀ k, ((FX_law P w K mg base f).X k).N.Nodup from fun _ => sc_law.nd) (pd_liGM (NS := (fun C : Addr => C = g "BadLength")) h_all_runs bf_room (by decide) (fun C e => by subst e; exact fx.nos_BadLength) fx.m_list (pa_c (pd_v 5 (hv := lm649) (hd := lm607) (hcd := lm608)) (pa_c (pd_v 8 (hv := lm699) (hd := lm603) (hcd := lm604)) pa_n)) (hg := lm705) (hgl := lm707) (hdb := lm620)) (hx := lm720) (hf := lm721))
    (ss_c (s_if (pdw_or (pdt_c (c_ne bf_room) (pd_v 14 (hv := lm713) (hd := lm714) (hcd := lm715)) (pd_v 9 (hv := lm709) (hd := lm710) (hcd := lm711))) (pdw_or (pdt_not (pdt_tru (pd_call h_law_tuples bf_room (by decide) (pa_c (pd_tupOf fx.m_tuple (pa_c (pd_v 14 (hv := lm713) (hd := lm714) (hcd := lm715)) pa_n) (hg := lm717)) pa_n) (hg := lm682) (hdb := lm512)))) (pdw_or1 (pdt_c (c_ne bf_room) (pd_call h_count_runs bf_room (by decide) (pa_c (pd_v 5 (hv := lm649) (hd := lm607) (hcd := lm608)) (pa_c (pd_v 8 (hv := lm699) (hd := lm603) (hcd := lm604)) pa_n)) (hg := lm695) (hdb := lm611)) (pd_len fx.m_len (pa_c (pd_v 9 (hv := lm709) (hd := lm710) (hcd := lm711)) pa_n) (hg := lm719)))))).pdt (ss_1 (s_ret pd_bl)) ss_nil)
    (ss_c (s_expr (pd_append (pd_v 14 (hv := lm713) (hd := lm714) (hcd := lm715)) (pa_c (pd_tup pa_n) pa_n)))
    (ss_gh (ss_c (s_if (pdt_c (c_ne bf_room) (pd_liG (NS := (fun C : Addr => C = g "BadLength")) h_all_runs bf_room (by decide) (fun C e => by subst e; exact fx.nos_BadLength) fx.m_list (pa_c (pd_v 5 (hv := lm649) (hd := lm607) (hcd := lm608)) (pa_c (pd_v 8 (hv := lm699) (hd := lm603) (hcd := lm604)) pa_n)) (hg := lm705) (hgl := lm707) (hdb := lm620)) (pd_v 9 (hv := lm709) (hd := lm710) (hcd := lm711))) (ss_1 (s_ret pd_bl)) ss_nil)
    (ss_c (s_set (i := 15) (show ∀ k, ((FX_law P w K mg base f).X k).N.Nodup from fun _ => sc_law.nd) (pd_ix (pd_tup (pa_c pd_int (pa_c (pd_call h_law_take bf_room (by decide) (pa_c (pd_v 1 (hv := lm656) (hd := lm345) (hcd := lm346)) (pa_c pd_int pa_n)) (hg := lm701) (hdb := lm402)) (pa_c (pd_add (pd_v 8 (hv := lm699) (hd := lm603) (hcd := lm604)) pd_int) pa_n)))) (pd_call h_law_take bf_room (by decide) (pa_c (pd_v 1 (hv := lm656) (hd := lm345) (hcd := lm346)) (pa_c pd_int pa_n)) (hg := lm701) (hdb := lm402))) (hx := lm702) (hf := lm703))
    (ss_c (s_if (pdt_c (c_ne bf_room) (pd_call h_count_runs bf_room (by decide) (pa_c (pd_v 5 (hv := lm649) (hd := lm607) (hcd := lm608)) (pa_c (pd_v 15 (hv := lm691) (hd := lm692) (hcd := lm693)) pa_n)) (hg := lm695) (hdb := lm611)) (pd_ix (pd_v 6 (hv := lm697) (hd := lm562) (hcd := lm563)) (pd_v 15 (hv := lm691) (hd := lm692) (hcd := lm693)))) (ss_1 (s_ret pd_bl)) ss_nil)
    (ss_c (s_set (i := 16) (show ∀ k, ((FX_law P w K mg base f).X k).N.Nodup from fun _ => sc_law.nd) (pd_call h_law_best_runs bf_room (by decide) (pa_c (pd_v 3 (hv := lm684) (hd := lm370) (hcd := lm371)) (pa_c (pd_v 4 (hv := lm654) (hd := lm354) (hcd := lm355)) pa_n)) (hg := lm686) (hdb := lm687)) (hx := lm688) (hf := lm689))
    (ss_c (s_for (ws := [13]) bf_pso (i_r1 fx.m_range (pa_c (pd_v 4 (hv := lm654) (hd := lm354) (hcd := lm355)) pa_n) (hg := lm663)) (pg_n (i := 13) (show ∀ k, ((FX_law P w K mg base f).X k).N.Nodup from fun _ => sc_law.nd) (hx := lm674) (hf := lm675)) (ss_1 (s_if (pdw_or (pdt_c (c_ne bf_room) (pd_call h_run_to bf_room (by decide) (pa_c (pd_v 5 (hv := lm649) (hd := lm607) (hcd := lm608)) (pa_c (pd_v 13 (hv := lm676) (hd := lm632) (hcd := lm633)) pa_n)) (hg := lm678) (hdb := lm638)) (pd_ix (pd_v 16 (hv := lm680) (hd := lm527) (hcd := lm528)) (pd_v 13 (hv := lm676) (hd := lm632) (hcd := lm633)))) (pdw_or1 (pdt_not (pdt_tru (pd_call h_law_tuples bf_room (by decide) (pa_c (pd_call h_run_to bf_room (by decide) (pa_c (pd_v 5 (hv := lm649) (hd := lm607) (hcd := lm608)) (pa_c (pd_v 13 (hv := lm676) (hd := lm632) (hcd := lm633)) pa_n)) (hg := lm678) (hdb := lm638)) pa_n) (hg := lm682) (hdb := lm512)))))).pdt (ss_1 (s_ret pd_bl)) ss_nil)))
    (ss_c (s_for (ws := [10]) bf_pso (i_r1 fx.m_range (pa_c pd_int pa_n) (hg := lm663)) (pg_n (i := 10) (show ∀ k, ((FX_law P w K mg base f).X k).N.Nodup from fun _ => sc_law.nd) (hx := lm665) (hf := lm666)) (ss_c (s_set (i := 17) (show ∀ k, ((FX_law P w K mg base f).X k).N.Nodup from fun _ => sc_law.nd) (pd_call h_law_odd bf_room (by decide) (pa_c (pd_v 1 (hv := lm656) (hd := lm345) (hcd := lm346)) (pa_c (pd_if (pdt_tru (pd_v 10 (hv := lm667) (hd := lm668) (hcd := lm669))) pd_int pd_int) pa_n)) (hg := lm658) (hdb := lm659)) (hx := lm660) (hf := lm661))
    (ss_1 (s_if (pdt_c (c_ne bf_room) (pd_call h_law_length_word bf_room (by decide) (pa_c (pd_v 5 (hv := lm649) (hd := lm607) (hcd := lm608)) (pa_c (pd_v 17 (hv := lm645) (hd := lm646) (hcd := lm647)) (pa_c (pd_v 10 (hv := lm667) (hd := lm668) (hcd := lm669)) pa_n))) (hg := lm671) (hdb := lm672)) (pd_lst (pa_c (pd_v 17 (hv := lm645) (hd := lm646) (hcd := lm647)) pa_n))) (ss_1 (s_ret pd_bl)) ss_nil))))
    (ss_c (s_set (i := 17) (show ∀ k, ((FX_law P w K mg base f).X k).N.Nodup from fun _ => sc_law.nd) (pd_call h_law_odd bf_room (by decide) (pa_c (pd_v 1 (hv := lm656) (hd := lm345) (hcd := lm346)) (pa_c (pd_v 4 (hv := lm654) (hd := lm354) (hcd := lm355)) pa_n)) (hg := lm658) (hdb := lm659)) (hx := lm660) (hf := lm661))
    (ss_1 (s_ret (pd_c (c_eq bf_room) (pd_call h_law_place_word bf_room (by decide) (pa_c (pd_v 5 (hv := lm649) (hd := lm607) (hcd := lm608)) (pa_c (pd_v 17 (hv := lm645) (hd := lm646) (hcd := lm647)) pa_n)) (hg := lm651) (hdb := lm652)) (pd_lst (pa_c (pd_v 17 (hv := lm645) (hd := lm646) (hcd := lm647)) pa_n))))))))))))))))))))))))))
end DL
end

section
set_option Elab.async false
set_option linter.all false
set_option maxRecDepth 100000
set_option maxHeartbeats 400000
namespace DL
open PySem PySem.Spec PyProof.Rows L2
local macro_rules | `(tactic| walk_at "dl") => `(tactic| simp only [x_C, x_V0, x_V, x_op, x_I, x_I0, x_addI, x_addT, x_B, x_And, x_Or, x_Not, x_Tru, x_AndT, x_OrT, x_NotT, x_If, x_nil, x_cons, x_Tup, x_Lst, x_LstM, x_CB, x_Chain, x_UnI, x_int, x_abs, x_lenT, x_lenL, x_listOfT, x_listOfL, x_tupOfT, x_tupOfL, x_call, x_make, x_BM, x_NoPart, x_Part, x_Sl, x_Fld', x_gName, x_gNil, x_gCons, x_gTup, x_next, x_brk, x_cont, x_drop, x_ret, x_retG, x_ifS, x_asg, x_raise, x_isiT, List.set_cons_zero, List.set_cons_succ, List.append_nil])
/-- the ends of a body -/
abbrev endB (Q : DV) : DEnds := { nx := fun _ S' => Q .non S', rt := Q }
abbrev cE (E : DX) : DCtx := ⟨fun C fs _ S => E C fs S, none⟩
theorem ty_int {S : Sto} {d : D} (h : tyD S d = some .int) : ∃ i, d = .int i := by
  cases d with
  | int i => exact ⟨i, rfl⟩
  | raw a => simp only [tyD] at h; split at h <;> simp at h
  | _ => simp [tyD] at h
theorem ty_bool {S : Sto} {d : D} (h : tyD S d = some .bool) : ∃ i, d = .bl i := by
  cases d with
  | bl i => exact ⟨i, rfl⟩
  | raw a => simp only [tyD] at h; split at h <;> simp at h
  | _ => simp [tyD] at h
theorem whole_non {S : Sto} {d : D} {a : Ty} {lo hi : Int} (h : tyD S d = some a) (n : a ≠ .int) : wholeD lo hi d = false := by
  cases d with
  | int i => cases h; exact absurd rfl n
  | _ => rfl
theorem dat_is_whole (K : PySem.W.Frag) (g : Str → Addr) : ∀ ds S Q E, F_is_whole K g ds S Q E → rd_is_whole K g (cE E) (endB Q) (startD N_is_whole ds) S := fun ds S Q E h => by
  obtain ⟨d, lo, hi, rfl, ht, hq⟩ := h
  obtain ⟨a, ha⟩ := Option.isSome_iff_exists.mp ht
  have e0 : startD N_is_whole [d, .int lo, .int hi] = [some d, some (.int lo), some (.int hi)] := rfl
  rw [e0]
  unfold rd_is_whole
  walk_at "dl"
  simp only [x_isi ha, tr_bl]
  refine ⟨by decide, ?_⟩
  by_cases hi' : a = .int
  · subst hi'
    obtain ⟨i, rfl⟩ := ty_int ha
    have e : wholeD lo hi (.int i) = (decide (lo ≤ i) && decide (i ≤ hi)) := rfl
    rw [e] at hq
    simp only [show subT .int .int = true from rfl, show subT .int .bool = false from rfl, if_true, Bool.not_false, x_I0]
    refine ⟨by decide, ?_⟩
    split
    · rename_i z; rw [z] at hq; exact hq
    · rename_i z; simp only [Bool.not_eq_true] at z; rw [z] at hq; exact hq
  · rw [whole_non ha hi'] at hq
    by_cases hb : a = .bool
    · subst hb
      simp only [show subT .bool .int = true from rfl, show subT .bool .bool = true from rfl, if_true, Bool.not_true, Bool.false_eq_true, if_false]
      exact ⟨by decide, hq⟩
    · have e : subT a .int = false := by cases a <;> first | rfl | exact absurd rfl hi' | exact absurd rfl hb
      simp only [e, Bool.false_eq_true, if_false]
      exact hq
theorem row_ty {S : Sto} {d : D} {a : Ty} (h : tyD S d = some a) : (asQ S d).isSome = (([Ty.list, Ty.tuple]).any fun n => subT a n) := by
  cases d with
  | raw x =>
    simp only [tyD] at h
    simp only [asQ, asL]
    cases e : S x with
    | none => simp only [e] at h; cases h
    | some o => cases o <;> simp only [e] at h ⊢ <;> first | cases h | skip
                all_goals rfl
  | ins C fs => cases h
  | ty n => cases h
  | _ => cases h; rfl
theorem dat_is_row (K : PySem.W.Frag) (g : Str → Addr) : ∀ ds S Q E, F_is_row K g ds S Q E → rd_is_row K g (cE E) (endB Q) (startD N_is_row ds) S := fun ds S Q E h => by
  obtain ⟨d, lo, hi, rfl, ht, hq⟩ := h
  obtain ⟨a, ha⟩ := Option.isSome_iff_exists.mp ht
  have e0 : startD N_is_row [d, .int lo, .int hi] = [some d, some (.int lo), some (.int hi)] := rfl
  rw [e0]
  unfold rd_is_row
  walk_at "dl"
  simp only [ha, tr_bl]
  have r := row_ty ha
  cases e : asQ S d with
  | none =>
    rw [e] at r hq
    rw [← r]
    simp only [Option.isSome_none, Bool.false_eq_true, if_false]
    exact hq
  | some es =>
    rw [e] at r hq
    rw [← r]
    simp only [Option.isSome_some, if_true, x_len e, x_I0]
    have e2 : rowD lo hi (some es) = (decide (lo ≤ es.length) && decide ((es.length : Int) ≤ hi)) := rfl
    rw [e2] at hq
    split
    · rename_i z; rw [z] at hq; exact hq
    · rename_i z; simp only [Bool.not_eq_true] at z; rw [z] at hq; exact hq
theorem dat_law_mixed (K : PySem.W.Frag) (g : Str → Addr) : ∀ ds S Q E, F_law_mixed K g ds S Q E → rd_law_mixed K g (cE E) (endB Q) (startD N_law_mixed ds) S := fun ds S Q E h => by
  obtain ⟨n, t, rfl, hn, ht, hq⟩ := h
  have e0 : startD N_law_mixed [.int n, .int t] = [some (.int n), some (.int t), none, none] := rfl
  rw [e0]
  unfold rd_law_mixed
  refine x_seq fun R hR => ?_
  walk_at "dl"
  refine ⟨by unfold CM; omega, by unfold CM; omega, by omega, hR _ _ ?_⟩
  have b1 := Int.emod_nonneg (n * 48271 + t * 7919 + 30011) (b := 2147483399) (by decide)
  have b2 := Int.emod_lt_of_pos (n * 48271 + t * 7919 + 30011) (b := 2147483399) (by decide)
  generalize (n * 48271 + t * 7919 + 30011) % 2147483399 = o at b1 b2
  refine x_seq fun R hR => ?_
  walk_at "dl"
  refine ⟨by unfold CM; omega, by unfold CM; omega, by unfold CD; omega, by omega, hR _ _ ?_⟩
  generalize (o * o + t * 92821 + o / 131) = z
  have b3 := Int.emod_nonneg z (b := 2147483629) (by decide)
  have b4 := Int.emod_lt_of_pos z (b := 2147483629) (by decide)
  generalize z % 2147483629 = o2 at b3 b4
  walk_at "dl"
  refine ⟨by unfold CM; omega, by unfold CD; omega, by omega, by unfold CD; omega, hq _ ?_⟩
  have b5 := Int.emod_nonneg (o2 * 69621 + o / 13) (b := 2147483587) (by decide)
  omega
end DL
end

section
set_option Elab.async false
set_option linter.all false
set_option maxRecDepth 100000
set_option maxHeartbeats 400000
namespace DL
open PySem PySem.Spec PyProof.Rows L2
local macro_rules | `(tactic| walk_at "dl") => `(tactic| simp only [x_C, x_V0, x_V, x_op, x_I, x_I0, x_addI, x_addT, x_B, x_And, x_Or, x_Not, x_Tru, x_AndT, x_OrT, x_NotT, x_If, x_nil, x_cons, x_Tup, x_Lst, x_LstM, x_CB, x_Chain, x_UnI, x_int, x_abs, x_lenT, x_lenL, x_listOfT, x_listOfL, x_tupOfT, x_tupOfL, x_call, x_make, x_BM, x_NoPart, x_Part, x_Sl, x_Fld', x_gName, x_gNil, x_gCons, x_gTup, x_next, x_brk, x_cont, x_drop, x_ret, x_retG, x_ifS, x_asg, x_raise, x_isiT, List.set_cons_zero, List.set_cons_succ, List.append_nil])
theorem at4_0 {a b c d : D} : atI [a, b, c, d] 0 = some a := rfl
theorem at4_1 {a b c d : D} : atI [a, b, c, d] 1 = some b := rfl
theorem at4_2 {a b c d : D} : atI [a, b, c, d] 2 = some c := rfl
theorem at4_3 {a b c d : D} : atI [a, b, c, d] 3 = some d := rfl
theorem ix4_1 {a b c d : D} : ixN [a, b, c, d].length 1 = some 1 := rfl
theorem ix4_2 {a b c d : D} : ixN [a, b, c, d].length 2 = some 2 := rfl
theorem ix4_3 {a b c d : D} : ixN [a, b, c, d].length 3 = some 3 := rfl
theorem cpow_1018 : CPow 10 18 := by unfold CPow; omega
abbrev handL (cs : List Int) (i r t : Int) : O := .lst [.lst (cs.map D.int), .int i, .int r, .int t]
theorem opn_hand {env : DEnv} {S : Sto} {h : Addr} (hh : Hand S h) : Opn env S (fun env2 S2 => env2 = env ∧ ∃ (cs : List Int) (i r t : Int), S2 = updS S h (handL cs i r t) ∧ (∀ c ∈ cs, 0 ≤ c) ∧ 0 ≤ i ∧ 0 ≤ r ∧ 0 ≤ t) := fun K Z H σ re rl => by
  obtain ⟨nz, u, hu, ca, cs, i, r, t, rfl, hZ, hb⟩ := rl.own h _ hh
  refine ⟨Z, env, updS S h (handL cs i r t), ⟨rfl, cs, i, r, t, rfl, hb⟩, Same.refl _, re, rl.sub, fun b o e => ?_⟩
  by_cases hbh : b = h
  · subst hbh
    rw [updS_same] at e
    cases e
    exact ⟨nz, _, hu, _, rfl, .cons (.lst hZ (Reps.of_ints cs)) (.cons (.int _) (.cons (.int _) (.cons (.int _) .nil)))⟩
  · rw [updS_ne hbh] at e
    exact rl.own b o e
theorem close_hand {S : Sto} {h : Addr} {cs : List Int} {i r t : Int} {d : D} (hh : Hand S h) (h0 : ∀ c ∈ cs, 0 ≤ c) (h1 : 0 ≤ i) (h2 : 0 ≤ r) (h3 : 0 ≤ t) : GhR (updS S h (handL cs i r t)) d S d := fun K Z H v p rl => by
  refine ⟨Z, Same.refl _, p, rl.sub, fun b o e => ?_⟩
  by_cases hbh : b = h
  · subst hbh
    rw [hh] at e
    cases e
    obtain ⟨nz, u, hu, xs, rfl, hr⟩ := rl.own b _ updS_same
    cases hr with | cons q1 q2 =>
    cases q2 with | cons q3 q4 =>
    cases q4 with | cons q5 q6 =>
    cases q6 with | cons q7 q8 =>
    cases q8
    cases q1 with | lst z1 z2 =>
    cases q3; cases q5; cases q7
    rw [Reps.ints z2] at z1
    exact ⟨nz, _, hu, _, cs, i, r, t, rfl, z1, h0, h1, h2, h3⟩
  · exact rl.own b o (by rw [updS_ne hbh]; exact e)
theorem dat_law_take (K : PySem.W.Frag) (g : Str → Addr) : ∀ ds S Q E, F_law_take K g ds S Q E → rd_law_take K g (cE E) (endB Q) (startD N_law_take ds) S := fun ds S Q E h => by
  obtain ⟨h, n, rfl, hh, hn, hn2, hq⟩ := h
  have e0 : startD N_law_take [.raw h, .int n] = [some (.raw h), some (.int n), none, none] := rfl
  rw [e0]
  unfold rd_law_take
  refine ⟨_, opn_hand hh, ?_⟩
  rintro _ _ ⟨rfl, cs, i, r, t, rfl, hcs, hi, hr, ht⟩
  have cm : ∀ a : Int, CM a 1709 := fun a => by unfold CM; omega
  refine x_seq fun R hR => ?_
  have key : ∀ (x : Option D) (cs : List Int) (i r t : Int), (∀ c ∈ cs, 0 ≤ c) → 0 ≤ i → 0 ≤ r → 0 ≤ t → R [some (.raw h), some (.int n), x, none] (updS S h (handL cs i r t)) := fun x cs i r t hcs hi hr ht => hR _ _ (by
    refine x_seq fun R2 hR2 => ?_
    walk_at "dl"
    simp only [x_ixQ as_upd, at4_2, x_I0]
    split
    · rename_i hp
      have hp := of_decide_eq_true hp
      refine x_seq fun R3 hR3 => ?_
      walk_at "dl"
      simp only [x_ixQ as_upd, at4_2]
      refine hR3 _ _ ?_
      refine x_seq fun R4 hR4 => ?_
      walk_at "dl"
      refine ⟨⟨hn, hn2⟩, ?_⟩
      simp only [x_gSub, x_C, x_V0, own_upd, ix4_2, updS_upd]
      refine hR4 _ _ ?_
      walk_at "dl"
      refine ⟨hn, _, S, close_hand hh hcs hi (Int.ediv_nonneg hr (by omega)) ht, hq _ (Int.emod_nonneg _ (by omega)) (Int.emod_lt_of_pos _ hn)⟩
    · refine hR2 _ _ ?_
      refine x_seq fun R3 hR3 => ?_
      walk_at "dl"
      simp only [x_ixQ as_upd, at4_3, x_addI, x_int, x_I]
      refine ⟨by omega, ?_⟩
      simp only [x_gSub, x_C, x_V0, own_upd, ix4_3, updS_upd]
      refine hR3 _ _ ?_
      have b1 := Int.emod_nonneg (t + 1) (b := 2147483549) (by decide)
      show dRetG _ _ _ (updS S h (handL cs i r ((t + 1) % 2147483549)))
      generalize (t + 1) % 2147483549 = t2 at b1
      walk_at "dl"
      simp only [x_ixQ as_upd, at4_3, at4_1]
      refine ⟨_, _, rfl, b1, hi, fun z hz => ?_⟩
      simp only [x_int, x_V0, x_V, x_I]
      exact ⟨hn, _, S, close_hand hh hcs hi hr b1, hq _ (Int.emod_nonneg _ (by omega)) (Int.emod_lt_of_pos _ hn)⟩)
  walk_at "dl"
  simp only [x_ixQ as_upd, at4_0, at4_1, at4_2, x_eqI, x_lenL, x_I0]
  split
  · split
    · rename_i _ hlt
      have hlt := of_decide_eq_true hlt
      rw [List.length_map] at hlt
      obtain ⟨cell, hc⟩ : ∃ c, cs[i.toNat]? = some c := ⟨cs[i.toNat]'(by omega), List.getElem?_eq_getElem (by omega)⟩
      have hc0 : 0 ≤ cell := hcs cell (List.mem_of_getElem? hc)
      refine x_seq fun R2 hR2 => ?_
      walk_at "dl"
      simp only [x_ixQ as_upd, at4_0, at4_1]
      have e1 : asQ (updS S h (handL cs i r t)) (.lst (cs.map D.int)) = some (cs.map D.int) := rfl
      have e2 : atI (cs.map D.int) i = some (.int cell) := by
        rw [atI_ok hi (by rw [List.length_map]; exact hlt), List.getElem?_map, hc]
        rfl
      simp only [x_ixQ e1, e2]
      refine hR2 _ _ ?_
      refine x_seq fun R3 hR3 => ?_
      walk_at "dl"
      simp only [x_ixQ as_upd, at4_1, x_addI]
      simp only [x_gSub, x_C, x_V0, own_upd, ix4_1, updS_upd]
      refine hR3 _ _ ?_
      refine x_seq fun R4 hR4 => ?_
      walk_at "dl"
      refine ⟨cpow_1018, ?_⟩
      split
      · refine ⟨by omega, ?_⟩
        show rIx' _ _ (updS S h (handL cs (i + 1) r t)) _
        simp only [x_ixQ as_upd, at4_1]
        refine ⟨_, _, rfl, Int.emod_nonneg _ (by decide), by omega, fun z hz => ?_⟩
        simp only [x_int, x_V0, x_V, x_I]
        exact ⟨hn, _, S, close_hand hh hcs (by omega) hr ht, hq _ (Int.emod_nonneg _ (by omega)) (Int.emod_lt_of_pos _ hn)⟩
      · refine hR4 _ _ ?_
        walk_at "dl"
        simp only [x_gSub, x_C, x_V0, x_V, own_upd, ix4_2, updS_upd]
        exact key (some (.int cell)) cs (i + 1) cell t hcs (by omega) hc0 ht
    · exact key none cs i r t hcs hi hr ht
  · simp only [Bool.false_eq_true, if_false]
    exact key none cs i r t hcs hi hr ht
end DL
end

section
set_option Elab.async false
set_option linter.all false
set_option maxRecDepth 100000
set_option maxHeartbeats 400000
namespace DL
open PySem PySem.Spec PyProof.Rows L2
local macro_rules | `(tactic| walk_at "dl") => `(tactic| simp only [x_C, x_V0, x_V, x_op, x_I, x_I0, x_addI, x_addT, x_B, x_And, x_Or, x_Not, x_Tru, x_AndT, x_OrT, x_NotT, x_If, x_nil, x_cons, x_Tup, x_Lst, x_LstM, x_CB, x_Chain, x_UnI, x_int, x_abs, x_lenT, x_lenL, x_listOfT, x_listOfL, x_tupOfT, x_tupOfL, x_call, x_make, x_BM, x_NoPart, x_Part, x_Sl, x_Fld', x_gName, x_gNil, x_gCons, x_gTup, x_next, x_brk, x_cont, x_drop, x_ret, x_retG, x_ifS, x_asg, x_raise, x_isiT, List.set_cons_zero, List.set_cons_succ, List.append_nil, x_for, x_while, x_iSeq, as_lst, as_tup, x_iRng1, x_iRng2, x_iEnum, x_lc, x_lcM, x_yes, x_Rg1, x_Rg2, x_ixT, x_ixL, x_eqI, x_neI, tr_bl, tr_int, x_gSub])

theorem getElem_map {α β : Type} {f : α → β} {xs : List α} {i : Nat} {y : β} (h : (xs.map f)[i]? = some y) : ∃ x, xs[i]? = some x ∧ y = f x := by
  rw [List.getElem?_map] at h
  obtain ⟨x, h1, h2⟩ := Option.map_eq_some_iff.mp h
  exact ⟨x, h1, h2.symm⟩
theorem take_succ' {α : Type} {xs : List α} {i : Nat} {x : α} (h : xs[i]? = some x) : xs.take (i + 1) = xs.take i ++ [x] := by
  rw [List.take_succ, h]; rfl
theorem new_hand {S : Sto} {a b : Addr} {cs : List Int} {t : Int} (ha : S a = none) (hb : updS S a (.lst (cs.map fun c => D.int c)) b = none) (hc : ∀ c ∈ cs, 0 ≤ c) (ht : 0 ≤ t) :
    GhR (updS (updS S a (.lst (cs.map fun c => D.int c))) b (.lst [.raw a, .int 0, .int 0, .int t])) (.raw b) (updS S b (.abs handP)) (.raw b) := fun K Z H v p rl => by
  have hab : a ≠ b := fun e => by subst e; rw [updS_same] at hb; cases hb
  have hba : b ≠ a := fun e => hab e.symm
  obtain ⟨u, h1, h2, r2, s2⟩ := rl.freeze (a := a) (o := .lst (cs.map fun c => D.int c)) (by rw [updS_ne hab, updS_same])
  obtain ⟨xs, rfl, h3⟩ := h2
  cases p
  refine ⟨_, s2, .raw b, r2.sub, fun x o e => ?_⟩
  by_cases hx : x = b
  · subst hx
    rw [updS_same] at e
    cases e
    obtain ⟨nz, u, h4, h5⟩ := r2.own x (.lst [.raw a, .int 0, .int 0, .int t]) (by rw [delS_ne hba, updS_same])
    refine ⟨nz, u, h4, ?_⟩
    obtain ⟨ys, rfl, h6⟩ := h5
    cases h6 with | cons q1 q2 =>
    cases q2 with | cons q3 q4 =>
    cases q4 with | cons q5 q6 =>
    cases q6 with | cons q7 q8 =>
    cases q8
    cases q1; cases q3; cases q5; cases q7
    rw [Reps.ints h3]
    exact ⟨a, cs, 0, 0, t, rfl, upd_same, hc, by decide, by decide, ht⟩
  · rw [updS_ne hx] at e
    have hxa : x ≠ a := fun z => by subst z; rw [ha] at e; cases e
    exact r2.own x o (by rw [delS_ne hxa, updS_ne hx, updS_ne hxa]; exact e)
theorem dat_law_hand (K : PySem.W.Frag) (g : Str → Addr) : ∀ ds S Q E, F_law_hand K g ds S Q E → rd_law_hand K g (cE E) (endB Q) (startD N_law_hand ds) S := fun ds S Q E h => by
  obtain ⟨sc, cs, rfl, hsc, hl, hq⟩ := h
  have e0 : startD N_law_hand [.raw sc] = [some (.raw sc), none, none, none] := rfl
  rw [e0]
  unfold rd_law_hand
  refine x_seq fun R hR => ?_
  walk_at "dl"
  refine ⟨cs, hsc, hR _ _ ?_⟩
  refine x_seq fun R hR => ?_
  walk_at "dl"
  refine ⟨by decide, fun a ha => hR _ _ ?_⟩
  refine x_seq fun R hR => ?_
  walk_at "dl"
  simp only [diSeqS, x_V, x_V0]
  refine ⟨sc, cs, rfl, hsc.upd ha, fun i env S' => ∃ tot x, 0 ≤ tot ∧ env = [some (.raw sc), some (.int tot), some (.raw a), x] ∧ S' = updS S a (.lst ((cs.take i).map fun c => .int (if c < 0 then -c else c))), ⟨_, none, by omega, rfl, rfl⟩, fun _ _ _ h => by
    obtain ⟨_, _, _, _, rfl⟩ := h
    exact hsc.upd ha, ?_, ?_⟩
  · rintro i _ _ _ hi ⟨tot, x, htot, rfl, rfl⟩
    obtain ⟨c, hc, rfl⟩ := getElem_map hi
    have hlt : i < cs.length := (List.getElem?_eq_some_iff.mp hc).1
    simp only [List.set_cons_zero, List.set_cons_succ]
    refine x_seq fun R2 hR2 => ?_
    walk_at "dl"
    refine ⟨by unfold CM; omega, by omega, hR2 _ _ ?_⟩
    walk_at "dl"
    simp only [asl_upd, Option.isSome_some, true_and, x_append own_upd, updS_upd]
    refine ⟨?_, _, _, Int.emod_nonneg _ (by decide), rfl, ?_⟩
    · rw [List.length_map, List.length_take, sizeLine_eq]; omega
    · rw [take_succ' hc, List.map_append]; rfl
  · rintro _ _ ⟨tot, x, htot, rfl, rfl⟩
    refine hR _ _ ?_
    walk_at "dl"
    rw [List.length_map, List.take_length]
    have e : (cs.map fun c => D.int (if c < 0 then -c else c)) = ((cs.map fun c => if c < 0 then -c else c).map fun c => D.int c) := by rw [List.map_map]; rfl
    rw [e]
    refine ⟨by rw [sizeLine_eq]; simp, fun b hb => ⟨_, _, new_hand ha hb ?_ htot, hq b ?_⟩⟩
    · intro c hc
      obtain ⟨x, _, rfl⟩ := List.mem_map.mp hc
      split <;> omega
    · by_cases hab : b = a
      · subst hab; exact ha
      · rw [updS_ne hab] at hb; exact hb
end DL
end

section
set_option Elab.async false
set_option linter.all false
set_option maxRecDepth 100000
set_option maxHeartbeats 400000
namespace DL
open PySem PySem.Spec PyProof.Rows L2
local macro_rules | `(tactic| walk_at "dl") => `(tactic| simp only [x_C, x_V0, x_V, x_op, x_I, x_I0, x_addI, x_addT, x_B, x_And, x_Or, x_Not, x_Tru, x_AndT, x_OrT, x_NotT, x_If, x_nil, x_cons, x_Tup, x_Lst, x_LstM, x_CB, x_Chain, x_UnI, x_int, x_abs, x_lenT, x_lenL, x_listOfT, x_listOfL, x_tupOfT, x_tupOfL, x_call, x_make, x_BM, x_NoPart, x_Part, x_Sl, x_Fld', x_gName, x_gNil, x_gCons, x_gTup, x_next, x_brk, x_cont, x_drop, x_ret, x_retG, x_ifS, x_asg, x_raise, x_isiT, List.set_cons_zero, List.set_cons_succ, List.append_nil, x_for, x_while, x_iSeq, as_lst, as_tup, x_iRng1, x_iRng2, x_iEnum, x_lc, x_lcM, x_yes, x_Rg1, x_Rg2, x_ixT, x_ixL, x_eqI, x_neI, tr_bl, tr_int, x_gSub])
theorem Fr.refl (S : Sto) : Fr S S := fun _ _ h => h
theorem Fr.trans {S S1 S2 : Sto} (a : Fr S S1) (b : Fr S1 S2) : Fr S S2 := fun x o h => b x o (a x o h)
theorem Fr.upd {S S' : Sto} {a : Addr} {o : O} (h : Fr S S') (ha : S a = none) : Fr S (updS S' a o) := fun x u e => by
  have hx : x ≠ a := fun z => by subst z; rw [ha] at e; cases e
  rw [updS_ne hx]
  exact h x u e
theorem Fr.del {S S' : Sto} {a : Addr} (h : Fr S S') (ha : S a = none) : Fr S (delS S' a) := fun x u e => by
  have hx : x ≠ a := fun z => by subst z; rw [ha] at e; cases e
  rw [delS_ne hx]
  exact h x u e
theorem Fr.none {S S' : Sto} {a : Addr} (h : Fr S S') (ha : S' a = none) : S a = none := by
  cases e : S a with
  | none => rfl
  | some o => rw [h a o e] at ha; cases ha
theorem as_raw {S : Sto} {a : Addr} {es : List D} (h : S a = some (.lst es)) : asQ S (.raw a) = some es := by simp only [asQ, asL, h]
theorem asl_raw {S : Sto} {a : Addr} {es : List D} (h : S a = some (.lst es)) : asL S (.raw a) = some es := by simp only [asL, h]
theorem own_raw {S : Sto} {a : Addr} {es : List D} (h : S a = some (.lst es)) : ownL S (.raw a) = some (a, es) := by simp only [ownL, h]
theorem tr_raw {S : Sto} {a : Addr} {es : List D} (h : S a = some (.lst es)) : truD S (.raw a) = some (!es.isEmpty) := by simp only [truD, asQ, asL, h, Option.map_some]
theorem x_pop {S : Sto} {a : Addr} {es : List D} {y : D} {Q : DV} (h : S a = some (.lst (es ++ [y]))) : rPop' (.raw a) [] S Q = Q y (updS S a (.lst es)) := by
  unfold rPop'
  simp only [own_raw h]
  have e : (es ++ [y])[(es ++ [y]).length - 1]? = some y := by simp
  simp only [e, List.dropLast_concat]
theorem rng_get {n : Nat} {i : Nat} {x : D} {lo : Int} (h : (rngD lo n)[i]? = some x) : i < n ∧ x = .int (lo + (i : Nat)) := by
  unfold rngD at h
  rw [List.getElem?_map] at h
  obtain ⟨y, h1, h2⟩ := Option.map_eq_some_iff.mp h
  obtain ⟨h3, h4⟩ := List.getElem?_eq_some_iff.mp h1
  rw [List.length_range] at h3
  rw [List.getElem_range] at h4
  subst h4
  exact ⟨h3, h2.symm⟩
theorem rng_len {n : Nat} {lo : Int} : (rngD lo n).length = n := by unfold rngD; rw [List.length_map, List.length_range]
def rb (bs : List Bool) (i : Int) : Bool := bs.getD i.toNat false
theorem rb_set {bs : List Bool} {j i : Int} (h0 : 0 ≤ j) (h1 : j < bs.length) (h2 : 0 ≤ i) : rb (bs.set j.toNat true) i = (decide (i = j) || rb bs i) := by
  unfold rb
  rw [List.getD_eq_getElem?_getD, List.getD_eq_getElem?_getD, List.getElem?_set]
  by_cases e : i = j
  · subst e
    have : i.toNat < bs.length := by omega
    simp [this]
  · have : j.toNat ≠ i.toNat := by omega
    simp [this, e]
structure DInv (as : List (Int × Int)) (n : Nat) (bs : List Bool) (fs : List Int) (pl : Int) (done : List (Int × Int)) : Prop where
  len : bs.length = n
  zero : rb bs 0 = true
  found : ∀ f ∈ fs, 0 ≤ f ∧ f < n ∧ rb bs f = true
  clo : ∀ p ∈ as, rb bs p.1 = true → p.1 ∉ fs → (p.1 ≠ pl ∨ p ∈ done) → rb bs p.2 = true
theorem DInv.step {as : List (Int × Int)} {n : Nat} {bs : List Bool} {fs : List Int} {pl : Int} {i : Nat} {p : Int × Int} (h : DInv as n bs fs pl (as.take i)) (hp : as[i]? = some p) (h2 : p.1 = pl → rb bs p.2 = true) : DInv as n bs fs pl (as.take (i + 1)) :=
  ⟨h.len, h.zero, h.found, fun q hq h3 h4 h5 => by
    rw [take_succ' hp, List.mem_append] at h5
    rcases h5 with h5 | h5 | h5
    · exact h.clo q hq h3 h4 (.inl h5)
    · exact h.clo q hq h3 h4 (.inr h5)
    · rw [List.mem_singleton] at h5
      subst h5
      by_cases e : q.1 = pl
      · exact h2 e
      · exact h.clo q hq h3 h4 (.inl e)⟩
theorem DInv.push {as : List (Int × Int)} {n : Nat} {bs : List Bool} {fs : List Int} {pl : Int} {i : Nat} {p : Int × Int} (h : DInv as n bs fs pl (as.take i)) (hp : as[i]? = some p) (h0 : 0 ≤ p.2) (h1 : p.2 < n) (ha : ∀ p ∈ as, 0 ≤ p.1 ∧ p.1 < n ∧ 0 ≤ p.2 ∧ p.2 < n) :
    DInv as n (bs.set p.2.toNat true) (fs ++ [p.2]) pl (as.take (i + 1)) := by
  have hl : p.2 < bs.length := by rw [h.len]; exact h1
  refine ⟨by rw [List.length_set, h.len], ?_, fun f hf => ?_, fun q hq h3 h4 h5 => ?_⟩
  · rw [rb_set h0 hl (by decide), h.zero, Bool.or_true]
  · rw [List.mem_append, List.mem_singleton] at hf
    rcases hf with hf | rfl
    · obtain ⟨z1, z2, z3⟩ := h.found f hf
      exact ⟨z1, z2, by rw [rb_set h0 hl z1, z3, Bool.or_true]⟩
    · exact ⟨h0, h1, by rw [rb_set h0 hl h0]; simp⟩
  · obtain ⟨z1, z2, z3, z4⟩ := ha q hq
    rw [List.mem_append, List.mem_singleton] at h4
    have hne : q.1 ≠ p.2 := fun e => h4 (.inr e)
    rw [rb_set h0 hl z1, decide_eq_false hne, Bool.false_or] at h3
    rw [rb_set h0 hl z3]
    rw [take_succ' hp, List.mem_append, List.mem_singleton] at h5
    rcases h5 with h5 | h5 | rfl
    · rw [h.clo q hq h3 (fun z => h4 (.inl z)) (.inl h5), Bool.or_true]
    · rw [h.clo q hq h3 (fun z => h4 (.inl z)) (.inr h5), Bool.or_true]
    · simp
theorem DInv.all {as : List (Int × Int)} {n : Nat} {bs : List Bool} {pl : Int} (h : DInv as n bs [] pl as) (hr : ∀ i : Int, 0 ≤ i → i < n → Reach as i) : bs = List.replicate n true := by
  have key : ∀ i, Reach as i → rb bs i = true := fun i r => by
    induction r with
    | zero => exact h.zero
    | step r m ih => exact h.clo _ m ih (by simp) (.inr m)
  rw [List.eq_replicate_iff]
  refine ⟨h.len, fun b hb => ?_⟩
  obtain ⟨i, hi, rfl⟩ := List.getElem_of_mem hb
  have := key i (hr i (by omega) (by rw [← h.len]; omega))
  unfold rb at this
  rw [List.getD_eq_getElem?_getD] at this
  simpa [hi] using this
theorem bl_get {bs : List Bool} {j : Int} (h0 : 0 ≤ j) (h1 : j < bs.length) : atI (bs.map D.bl) j = some (.bl (rb bs j)) := by
  rw [atI_ok h0 (by rw [List.length_map]; exact h1), List.getElem?_map]
  unfold rb
  have : j.toNat < bs.length := by omega
  simp [List.getD_eq_getElem?_getD, this]
theorem cnt_set {bs : List Bool} {j : Int} (h0 : 0 ≤ j) (h1 : j < bs.length) (h : rb bs j = false) : (bs.set j.toNat true).count false + 1 = bs.count false := by
  have hl : j.toNat < bs.length := by omega
  have e : bs[j.toNat] = false := by unfold rb at h; rw [List.getD_eq_getElem?_getD] at h; simpa [hl] using h
  rw [List.count_set hl]
  have : 0 < bs.count false := List.count_pos_iff.mpr (e ▸ List.getElem_mem hl)
  simp [e]; omega

theorem arr_get {as : List (Int × Int)} {i : Nat} {x : D} (h : (arrD as)[i]? = some x) : ∃ p, as[i]? = some p ∧ x = .tup [.int p.1, .int p.2] := getElem_map h
theorem arr_len {as : List (Int × Int)} : (arrD as).length = as.length := List.length_map _
theorem dat_reached_places (K : PySem.W.Frag) (g : Str → Addr) : ∀ ds S Q E, F_reached_places K g ds S Q E → rd_reached_places K g (cE E) (endB Q) (startD N_reached_places ds) S := fun ds S Q E h => by
  obtain ⟨n, as, rfl, n1, n2, hl, ha, hr, hq⟩ := h
  have e0 : startD N_reached_places [.int n, arrs as] = [some (.int n), some (arrs as), none, none, none, none, none] := rfl
  rw [e0]
  unfold rd_reached_places
  refine x_seq fun R hR => ?_
  walk_at "dl"
  refine ⟨by omega, by omega, fun i acc S' => acc = ((List.range i).map fun j => decide (j = 0)).map D.bl ∧ S' = S, ⟨rfl, rfl⟩, fun _ _ _ _ _ _ _ => True.intro, ?_, ?_⟩
  · rintro i x acc S' Dd o hi ⟨rfl, rfl⟩ hD
    obtain ⟨hlt, rfl⟩ := rng_get hi
    simp only [if_true]
    have ew : List.set (wipeD [some (D.int n), some (arrs as), none, none, none, none, none] [2]) 2 (some (D.int (0 + (i : Nat)))) = [some (.int n), some (arrs as), some (.int (0 + (i : Nat))), none, none, none, none] := rfl
    rw [ew]
    walk_at "dl"
    refine ⟨?_, updS_same, ?_, delS_upd hD⟩
    · rw [List.length_map, List.length_map, List.length_range, sizeLine_eq]; omega
    · rw [List.range_succ, List.map_append, List.map_append]
      congr 1
      show [D.bl (0 + (i : Int) == 0)] = [D.bl (decide (i = 0))]
      by_cases hz : i = 0
      · subst hz; rfl
      · have : ¬ (0 + (i : Int) = 0) := by omega
        simp [hz]
  rintro _ _ a ⟨rfl, rfl⟩ hSa
  rw [rng_len]
  refine hR _ _ ?_
  refine x_seq fun R hR => ?_
  walk_at "dl"
  refine ⟨by rw [sizeLine_eq]; simp, fun b hb => hR _ _ ?_⟩
  have hba : b ≠ a := fun e => by subst e; rw [updS_same] at hb; cases hb
  rename_i S
  have hSb : S b = none := by rw [updS_ne hba] at hb; exact hb
  refine x_seq fun R hR => ?_
  rw [x_while]
  refine ⟨fun m env S' => ∃ (bs : List Bool) (fs : List Int) (x y z : Option D), env = [some (.int n), some (arrs as), x, some (.raw a), some (.raw b), y, z] ∧ S' a = some (.lst (bs.map D.bl)) ∧ S' b = some (.lst (fs.map D.int)) ∧ Fr S S' ∧
    DInv as n bs fs 0 as ∧ m = 2 * bs.count false + fs.length ∧ m ≤ 33, ⟨_, (List.range n).map fun j => decide (j = 0), [0], none, none, none, rfl, ?_, updS_same, ((Fr.refl S).upd hSa).upd hSb, ?_, rfl, ?_⟩, ?_⟩
  · rw [updS_ne (fun e => hba e.symm), updS_same]; simp
  · refine ⟨by simp, ?_, fun f hf => ?_, fun p hp h1 h2 _ => ?_⟩
    · unfold rb; simp [List.getD_eq_getElem?_getD, show 0 < n by omega]
    · rw [List.mem_singleton] at hf; subst hf
      exact ⟨by omega, by omega, by unfold rb; simp [List.getD_eq_getElem?_getD, show 0 < n by omega]⟩
    · obtain ⟨z1, z2, _, _⟩ := ha p hp
      exfalso
      apply h2
      rw [List.mem_singleton]
      unfold rb at h1
      rw [List.getD_eq_getElem?_getD] at h1
      have : p.1.toNat < n := by omega
      simp [this] at h1
      omega
  · have : ((List.range n).map fun j => decide (j = 0)).count false ≤ ((List.range n).map fun j => decide (j = 0)).length := List.count_le_length
    rw [List.length_map, List.length_range] at this
    rw [List.length_singleton]; omega
  rintro m _ S' ⟨bs, fs, x, y, z, rfl, hA, hB, hF, hI, rfl, hm33⟩
  walk_at "dl"
  simp only [tr_raw hB]
  rcases List.eq_nil_or_concat fs with rfl | ⟨fs', pl, rfl⟩
  · simp only [List.map_nil, List.isEmpty_nil, Bool.not_true, Bool.false_eq_true, if_false]
    refine hR _ _ ?_
    walk_at "dl"
    rw [DInv.all ⟨hI.len, hI.zero, hI.found, hI.clo⟩ hr] at hA
    rw [List.map_replicate] at hA
    refine ⟨.lst (List.replicate n (.bl true)), S, (GhR.freeze hA).trans (GhR.weak ?_), hq⟩
    exact hF.del hSa
  · rw [List.concat_eq_append] at hB hI hm33 ⊢
    rw [List.map_append] at hB ⊢
    have hne : ((fs'.map D.int) ++ [pl].map D.int).isEmpty = false := by simp
    rw [hne]
    simp only [Bool.not_false, if_true]
    refine x_seq fun R2 hR2 => ?_
    walk_at "dl"
    simp only [asl_raw hB, Option.isSome_some, true_and]
    have hB' : S' b = some (.lst (fs'.map D.int ++ [.int pl])) := hB
    rw [x_pop hB']
    obtain ⟨p0, p1, p2⟩ := hI.found pl (by simp)
    refine hR2 _ _ ?_
    walk_at "dl"
    refine ⟨fun i env S2 => ∃ (bs2 : List Bool) (fs2 : List Int) (y z : Option D), env = [some (.int n), some (arrs as), some (.int pl), some (.raw a), some (.raw b), y, z] ∧ S2 a = some (.lst (bs2.map D.bl)) ∧ S2 b = some (.lst (fs2.map D.int)) ∧ Fr S S2 ∧
      DInv as n bs2 fs2 pl (as.take i) ∧ 2 * bs2.count false + fs2.length < 2 * bs.count false + (fs' ++ [pl]).length, ⟨bs, fs', y, z, rfl, ?_, updS_same, hF.upd hSb, ?_, ?_⟩, fun _ _ _ _ => True.intro, ?_, ?_⟩
    · rw [updS_ne (fun e => hba e.symm)]; exact hA
    · refine ⟨hI.len, hI.zero, fun f hf => hI.found f (List.mem_append.mpr (.inl hf)), fun p hp h1 h2 h3 => ?_⟩
      rcases h3 with h3 | h3
      · refine hI.clo p hp h1 (fun hm => ?_) (.inr hp)
        rw [List.mem_append, List.mem_singleton] at hm
        rcases hm with hm | hm
        · exact h2 hm
        · exact h3 hm
      · simp at h3
    · rw [List.length_append, List.length_singleton]; omega
    · rintro i x _ S2 hi ⟨bs2, fs2, y, z, rfl, hA2, hB2, hF2, hI2, hm⟩
      obtain ⟨p, hp, rfl⟩ := arr_get hi
      have hpm : p ∈ as := List.mem_of_getElem? hp
      obtain ⟨a0, a1, a2, a3⟩ := ha p hpm
      have hl2 : p.2 < bs2.length := by rw [hI2.len]; exact a3
      simp only [x_gTup, x_gCons, x_gNil, x_gName, List.set_cons_zero, List.set_cons_succ]
      refine ⟨rfl, ?_⟩
      walk_at "dl"
      have bg := bl_get a2 hl2
      simp only [x_ixQ (as_raw hA2), bg, tr_bl]
      by_cases c1 : p.1 = pl
      · simp only [c1, beq_self_eq_true, if_true]
        cases c2 : rb bs2 p.2 with
        | true =>
          simp only [Bool.not_true, Bool.false_eq_true, if_false]
          exact ⟨bs2, fs2, _, _, rfl, hA2, hB2, hF2, hI2.step hp fun _ => c2, hm⟩
        | false =>
          simp only [Bool.not_false, if_true]
          refine x_seq fun R3 hR3 => ?_
          walk_at "dl"
          have ix : ixN (bs2.map D.bl).length p.2 = some p.2.toNat := by
            unfold ixN
            rw [if_pos a2, if_pos (by rw [List.length_map]; exact hl2)]
          simp only [own_raw hA2, ix]
          refine hR3 _ _ ?_
          walk_at "dl"
          have hB3 : updS S2 a (.lst ((bs2.map D.bl).set p.2.toNat (.bl true))) b = some (.lst (fs2.map D.int)) := by rw [updS_ne hba]; exact hB2
          simp only [asl_raw hB3, Option.isSome_some, true_and, x_append (own_raw hB3)]
          have cs := cnt_set a2 hl2 c2
          refine ⟨?_, bs2.set p.2.toNat true, fs2 ++ [p.2], _, _, rfl, ?_, ?_, (hF2.upd hSa).upd hSb, hI2.push hp a2 a3 ha, ?_⟩
          · rw [List.length_map, sizeLine_eq]; omega
          · rw [updS_ne (fun e => hba e.symm), updS_same, List.map_set]
          · rw [updS_same, List.map_append]; rfl
          · rw [List.length_append, List.length_singleton]; omega
      · have c1' : (p.1 == pl) = false := by simp [c1]
        simp only [c1', Bool.false_eq_true, if_false]
        exact ⟨bs2, fs2, _, _, rfl, hA2, hB2, hF2, hI2.step hp fun z => absurd z c1, hm⟩
    · rintro _ S2 ⟨bs2, fs2, y, z, rfl, hA2, hB2, hF2, hI2, hm⟩
      rw [arr_len, List.take_length] at hI2
      exact ⟨_, hm, bs2, fs2, _, _, _, rfl, hA2, hB2, hF2, ⟨hI2.len, hI2.zero, hI2.found, fun p hp h1 h2 _ => hI2.clo p hp h1 h2 (.inr hp)⟩, rfl, by omega⟩
end DL
end

section
set_option Elab.async false
set_option linter.all false
set_option maxRecDepth 100000
set_option maxHeartbeats 400000
namespace DL
open PySem PySem.Spec PyProof.Rows L2
local macro_rules | `(tactic| walk_at "dl") => `(tactic| simp only [x_C, x_V0, x_V, x_op, x_I, x_I0, x_addI, x_addT, x_B, x_And, x_Or, x_Not, x_Tru, x_AndT, x_OrT, x_NotT, x_If, x_nil, x_cons, x_Tup, x_Lst, x_LstM, x_CB, x_Chain, x_UnI, x_int, x_abs, x_lenT, x_lenL, x_listOfT, x_listOfL, x_tupOfT, x_tupOfL, x_call, x_make, x_BM, x_NoPart, x_Part, x_Sl, x_Fld', x_gName, x_gNil, x_gCons, x_gTup, x_next, x_brk, x_cont, x_drop, x_ret, x_retG, x_ifS, x_asg, x_raise, x_isiT, List.set_cons_zero, List.set_cons_succ, List.append_nil, x_for, x_while, x_iSeq, as_lst, as_tup, x_iRng1, x_iRng2, x_iEnum, x_lc, x_lcM, x_yes, x_Rg1, x_Rg2, x_ixT, x_ixL, x_eqI, x_neI, tr_bl, tr_int, x_gSub])
theorem x_FldS {C : Addr} {f : Str} {to te : DE} {E : DEnds} {env : DEnv} {S : Sto} : dFldS C f to te E env S = te env S fun y S1 => to env S1 fun x S2 => match x with
  | .raw a => (match S2 a with
    | some (.ins C' fs) => C' = C ∧ fs.length < 1000 ∧ E.nx env (updS S2 a (.ins C' (putD f y fs)))
    | _ => False)
  | _ => False := rfl
theorem enum_get {ds : List D} {i : Nat} {x : D} (h : (enumD ds)[i]? = some x) : ∃ d, ds[i]? = some d ∧ x = .tup [.int (i : Nat), d] := by
  unfold enumD at h
  rw [List.getElem?_map, List.getElem?_zipIdx] at h
  cases e : ds[i]? with
  | none => rw [e] at h; cases h
  | some d =>
    rw [e] at h
    simp at h
    exact ⟨d, rfl, h.symm⟩
theorem enum_len {ds : List D} : (enumD ds).length = ds.length := by unfold enumD; simp
theorem if_tt {p q : Prop} : (if true = true then p else q) = p := if_pos rfl
theorem if_ff {p q : Prop} : (if false = true then p else q) = q := if_neg (by decide)
theorem cpow_109 : CPow 10 9 := by unfold CPow; omega
theorem whole_in {lo hi i : Int} (h1 : lo ≤ i) (h2 : i ≤ hi) : wholeD lo hi (.int i) = true := by unfold wholeD; simp [h1, h2]
theorem dat_Chart__init (K : PySem.W.Frag) (g : Str → Addr) : ∀ ds S Q E, F_Chart__init K g ds S Q E → rd_Chart__init K g (cE E) (endB Q) (startD N_Chart__init ds) S := fun ds S Q E h => by
  obtain ⟨x, cs, as, rfl, hx, hG, hq⟩ := h
  have e0 : startD N_Chart__init [.raw x, tupI cs, arrs as] = [some (.raw x), some (tupI cs), some (arrs as), none, none, none, none, none, none] := rfl
  rw [e0]
  have g1 := hG.n0
  have g2 := hG.n1
  have g3 := hG.a1
  have r1 : rowD 1 16 (some (cs.map D.int)) = true := by unfold rowD; simp; omega
  have r2 : rowD 0 32 (some (arrD as)) = true := by unfold rowD; simp [arr_len]; omega
  unfold rd_Chart__init
  refine x_seq fun R hR => ?_
  walk_at "dl"
  refine ⟨_, _, _, rfl, rfl, ?_⟩
  simp only [as_tup, r1, tr_bl, Bool.not_true, if_ff]
  refine hR _ _ ?_
  refine x_seq fun R hR => ?_
  walk_at "dl"
  refine ⟨fun i env S' => ∃ a b, env = [some (.raw x), some (tupI cs), some (arrs as), a, b, none, none, none, none] ∧ S = S', ⟨_, _, rfl, rfl⟩, fun _ _ _ _ => True.intro, ?_, ?_⟩
  · rintro i _ _ _ hi ⟨a, b, rfl, rfl⟩
    obtain ⟨_, hd, rfl⟩ := enum_get hi
    obtain ⟨c, hc, rfl⟩ := getElem_map hd
    obtain ⟨c1, c2⟩ := hG.cost c (List.mem_of_getElem? hc)
    simp only [x_gTup, x_gCons, x_gNil, x_gName, List.set_cons_zero, List.set_cons_succ]
    refine ⟨rfl, ?_⟩
    walk_at "dl"
    refine ⟨cpow_109, _, _, _, rfl, rfl, ?_⟩
    have pw : ((10 : Int) ^ Int.toNat 9) = 1000000000 := rfl
    rw [pw, whole_in c1 c2]
    simp only [tr_bl, Bool.not_true, if_ff]
    exact ⟨_, _, rfl, by first | rfl | trivial⟩
  rintro _ _ ⟨a, b, rfl, rfl⟩
  refine hR _ _ ?_
  refine x_seq fun R hR => ?_
  walk_at "dl"
  refine ⟨_, _, _, rfl, rfl, ?_⟩
  simp only [as_tup, r2, tr_bl, Bool.not_true, if_ff]
  refine hR _ _ ?_
  refine x_seq fun R hR => ?_
  walk_at "dl"
  rw [List.length_map]
  refine hR _ _ ?_
  refine x_seq fun R hR => ?_
  walk_at "dl"
  refine ⟨fun i env S' => ∃ a c, env = [some (.raw x), some (tupI cs), some (arrs as), a, b, some (.int ((cs.length : Int) - 1)), c, none, none] ∧ S = S', ⟨_, _, rfl, rfl⟩, fun _ _ _ _ => True.intro, ?_, ?_⟩
  · rintro i _ _ _ hi ⟨a, b, rfl, rfl⟩
    obtain ⟨_, hd, rfl⟩ := enum_get hi
    obtain ⟨p, hp, rfl⟩ := arr_get hd
    obtain ⟨a0, a1, a2, a3⟩ := hG.at_ p (List.mem_of_getElem? hp)
    simp only [x_gTup, x_gCons, x_gNil, x_gName, List.set_cons_zero, List.set_cons_succ]
    refine ⟨rfl, ?_⟩
    walk_at "dl"
    refine ⟨_, _, _, rfl, rfl, ?_⟩
    have r3 : rowD 2 2 (some [D.int p.1, D.int p.2]) = true := rfl
    simp only [as_tup, r3, tr_bl, Bool.not_true, if_ff]
    have e1 : atI [D.int p.1, D.int p.2] 0 = some (.int p.1) := rfl
    have e2 : atI [D.int p.1, D.int p.2] 1 = some (.int p.2) := rfl
    simp only [e1, e2]
    refine ⟨_, _, _, rfl, rfl, ?_⟩
    rw [whole_in a0 (by omega)]
    simp only [tr_bl, Bool.not_true, if_ff]
    refine ⟨_, _, _, rfl, rfl, ?_⟩
    rw [whole_in a2 (by omega)]
    simp only [tr_bl, Bool.not_true, if_ff]
    exact ⟨_, _, rfl, by first | rfl | trivial⟩
  rintro _ _ ⟨a, c, rfl, rfl⟩
  refine hR _ _ ?_
  refine x_seq fun R hR => ?_
  walk_at "dl"
  rw [List.length_map]
  refine ⟨cs.length, as, rfl, g1, g2, g3, hG.at_, hG.all, ?_⟩
  simp only [as_lst]
  refine ⟨fun i env S' => ∃ a b2 c2 d, env = [some (.raw x), some (tupI cs), some (arrs as), a, b, some (.int ((cs.length : Int) - 1)), d, b2, c2] ∧ S = S', ⟨_, _, _, _, rfl, rfl⟩, fun _ _ _ _ => True.intro, ?_, ?_⟩
  · rintro i _ _ _ hi ⟨a, b, c, d, rfl, rfl⟩
    obtain ⟨y, hd, rfl⟩ := enum_get hi
    have hy : y = .bl true := List.eq_of_mem_replicate (List.mem_of_getElem? hd)
    subst hy
    simp only [x_gTup, x_gCons, x_gNil, x_gName, List.set_cons_zero, List.set_cons_succ]
    refine ⟨rfl, ?_⟩
    walk_at "dl"
    simp only [tr_bl, Bool.not_true, if_ff]
    exact ⟨_, _, _, _, rfl, by first | rfl | trivial⟩
  rintro _ _ ⟨a, b2, c2, d, rfl, rfl⟩
  refine hR _ _ ?_
  refine x_seq fun R hR => ?_
  rw [x_FldS]
  walk_at "dl"
  simp only [hx]
  refine ⟨trivial, by simp, hR _ _ ?_⟩
  rw [x_FldS]
  walk_at "dl"
  refine ⟨fun i acc S' => acc = (arrD as).take i ∧ S' = updS S x (.ins (g "Chart") [("costs", tupI cs)]), ⟨rfl, rfl⟩, fun _ _ _ _ _ _ _ => True.intro, ?_, ?_⟩
  · rintro i y _ _ Dd o hi ⟨rfl, rfl⟩ hD
    obtain ⟨p, hp, rfl⟩ := arr_get hi
    simp only [if_true]
    have hs : ∀ e : DEnv, 6 < e.length → (e.set 6 (some (D.tup [.int p.1, .int p.2])))[6]? = some (some (.tup [.int p.1, .int p.2])) := fun e he => List.getElem?_set_self he
    have ew : List.set (wipeD [some (D.raw x), some (tupI cs), some (arrs as), a, b, some (.int ((cs.length : Int) - 1)), d, b2, c2] [6]) 6 (some (D.tup [.int p.1, .int p.2])) = [some (.raw x), some (tupI cs), some (arrs as), a, b, some (.int ((cs.length : Int) - 1)), some (D.tup [.int p.1, .int p.2]), b2, c2] := rfl
    rw [ew]
    walk_at "dl"
    refine ⟨?_, updS_same, ?_, delS_upd hD⟩
    · rw [List.length_take, arr_len, sizeLine_eq]; omega
    · exact (take_succ' hi).symm
  rintro _ _ ⟨rfl, rfl⟩
  rw [List.take_length]
  simp only [x_tupOfL, updS_same, updS_upd]
  exact ⟨trivial, by simp, hq⟩
end DL
end

section
set_option Elab.async false
set_option linter.all false
set_option maxRecDepth 100000
set_option maxHeartbeats 400000
namespace DL
open PySem PySem.Spec PyProof.Rows L2
local macro_rules | `(tactic| walk_at "dl") => `(tactic| simp only [x_C, x_V0, x_V, x_op, x_I, x_I0, x_addI, x_addT, x_B, x_And, x_Or, x_Not, x_Tru, x_AndT, x_OrT, x_NotT, x_If, x_nil, x_cons, x_Tup, x_Lst, x_LstM, x_CB, x_Chain, x_UnI, x_int, x_abs, x_lenT, x_lenL, x_listOfT, x_listOfL, x_tupOfT, x_tupOfL, x_call, x_make, x_BM, x_NoPart, x_Part, x_Sl, x_gName, x_gNil, x_gCons, x_gTup, x_next, x_brk, x_cont, x_drop, x_ret, x_retG, x_ifS, x_asg, x_raise, x_isiT, List.set_cons_zero, List.set_cons_succ, List.append_nil, x_for, x_while, x_iSeq, as_lst, as_tup, x_iRng1, x_iRng2, x_iEnum, x_lc, x_lcM, x_yes, x_Rg1, x_Rg2, x_ixT, x_ixL, x_eqI, x_neI, tr_bl, tr_int, x_gSub])
theorem x_arrows {g : Str → Addr} {cs : List Int} {as : List (Int × Int)} {r : DEnv} {S : Sto} {Q : DV} : dFld (g "Chart") "arrows" (dVar 0) (some (chartD g cs as) :: r) S Q = Q (arrs as) S := propext ⟨fun h => h.2, fun h => ⟨rfl, h⟩⟩
theorem x_costs {g : Str → Addr} {cs : List Int} {as : List (Int × Int)} {r : DEnv} {S : Sto} {Q : DV} : dFld (g "Chart") "costs" (dVar 0) (some (chartD g cs as) :: r) S Q = Q (tupI cs) S := propext ⟨fun h => h.2, fun h => ⟨rfl, h⟩⟩
theorem whole_of {lo hi : Int} {d : D} (h : wholeD lo hi d = true) : ∃ i, d = .int i ∧ lo ≤ i ∧ i ≤ hi := by
  cases d with
  | int i => unfold wholeD at h; simp at h; exact ⟨i, rfl, h.1, h.2⟩
  | _ => cases h
theorem arr_at {as : List (Int × Int)} {j : Int} (h0 : 0 ≤ j) (h1 : j < as.length) : ∃ p, as[j.toNat]? = some p ∧ atI (arrD as) j = some (.tup [.int p.1, .int p.2]) := by
  have h : j.toNat < as.length := by omega
  refine ⟨as[j.toNat], List.getElem?_eq_getElem h, ?_⟩
  rw [atI_ok h0 (by rw [arr_len]; exact h1)]
  unfold arrD
  rw [List.getElem?_map, List.getElem?_eq_getElem h]
  rfl
theorem drop_cons' {α : Type} {xs : List α} {i : Nat} {x : α} (h : xs[i]? = some x) : xs.drop i = x :: xs.drop (i + 1) := by
  obtain ⟨h1, h2⟩ := List.getElem?_eq_some_iff.mp h
  rw [List.drop_eq_getElem_cons h1, h2]
theorem at2_0 {a b : D} : atI [a, b] 0 = some a := rfl
theorem at2_1 {a b : D} : atI [a, b] 1 = some b := rfl
theorem atI_last {α : Type} {zs : List α} {z : α} : atI (zs ++ [z]) (-1) = some z := by
  unfold atI ixN
  have hl : (zs ++ [z]).length = zs.length + 1 := by simp
  rw [if_neg (by decide), if_pos (by rw [hl]; omega)]
  have : (-1 + ((zs ++ [z]).length : Int)).toNat = zs.length := by rw [hl]; omega
  rw [this]
  simp
theorem fa_take {K : PySem.W.Frag} {g : Str → Addr} {S : Sto} {h : Addr} {n : Int} {Q : DV} {E : DX} (hh : Hand S h) (h0 : 0 < n) (h1 : n < 18446744073709551616) (q : ∀ r, 0 ≤ r → r < n → Q (.int r) S) : F_law_take K g [.raw h, .int n] S Q E := ⟨h, n, rfl, hh, h0, h1, q⟩
theorem hand_upd {S : Sto} {h a : Addr} {o : O} (hh : Hand S h) (ha : S a = none) : Hand (updS S a o) h := by
  unfold Hand at *
  rw [updS_ne (neS hh ha)]
  exact hh
theorem cpow_1012 : CPow 10 12 := by unfold CPow; omega
theorem p1012 : ((10 : Int) ^ Int.toNat 12) = 1000000000000 := rfl
theorem p109 : ((10 : Int) ^ Int.toNat 9) = 1000000000 := rfl
theorem whole_out {lo hi i : Int} (h : i < lo ∨ hi < i) : wholeD lo hi (.int i) = false := by
  show (decide (lo ≤ i) && decide (i ≤ hi)) = false
  rcases h with h | h
  · rw [decide_eq_false (p := lo ≤ i) (by omega), Bool.false_and]
  · rw [decide_eq_false (p := i ≤ hi) (by omega), Bool.and_false]
theorem odd_int (i : Int) : eqD (.int i) (.int i) = true := by simp [eqD]
theorem dat_law_odd (K : PySem.W.Frag) (g : Str → Addr) : ∀ ds S Q E, F_law_odd K g ds S Q E → rd_law_odd K g (cE E) (endB Q) (startD N_law_odd ds) S := fun ds S Q E h => by
  obtain ⟨h, n, rfl, hh, n0, n1, hq⟩ := h
  have e0 : startD N_law_odd [.raw h, .int n] = [some (.raw h), some (.int n), none] := rfl
  rw [e0]
  unfold rd_law_odd
  refine x_seq fun R hR => ?_
  walk_at "dl"
  refine fa_take hh (by decide) (by decide) fun r h0 h1 => hR _ _ ?_
  refine x_seq fun R hR => ?_
  walk_at "dl"
  split
  · refine ⟨cpow_1012, ?_⟩
    rw [p1012]
    refine fa_take hh (by decide) (by decide) fun r h0 h1 => ?_
    simp only [x_addI]
    exact hq _ ⟨whole_out (.inr (by omega)), fun _ => rfl, rfl, odd_int _, fun _ => rfl⟩
  · rename_i z0
    refine hR _ _ ?_
    refine x_seq fun R hR => ?_
    walk_at "dl"
    split
    · refine ⟨cpow_1012, ?_⟩
      rw [p1012]
      refine fa_take hh (by decide) (by decide) fun r h0 h1 => ?_
      simp only [x_I0]
      exact hq _ ⟨whole_out (.inl (by omega)), fun _ => rfl, rfl, odd_int _, fun _ => rfl⟩
    · rename_i z1
      refine hR _ _ ?_
      walk_at "dl"
      refine ⟨by rw [sizeLine_eq]; simp, by rw [sizeLine_eq]; simp, ?_⟩
      have z0 : ¬ r = 0 := by simpa using z0
      have z1 : ¬ r = 1 := by simpa using z1
      have hc : r = 2 ∨ r = 3 ∨ r = 4 ∨ r = 5 ∨ r = 6 ∨ r = 7 ∨ r = 8 := by omega
      rcases hc with rfl | rfl | rfl | rfl | rfl | rfl | rfl
      · exact hq (.bl true) ⟨rfl, fun _ => rfl, by decide +kernel, by decide +kernel, fun _ => rfl⟩
      · exact hq (.bl false) ⟨rfl, fun _ => rfl, by decide +kernel, by decide +kernel, fun _ => rfl⟩
      · exact hq .non ⟨rfl, fun _ => rfl, by decide +kernel, by decide +kernel, fun _ => rfl⟩
      · exact hq (.str "1") ⟨rfl, fun _ => rfl, by decide +kernel, by decide +kernel, fun _ => rfl⟩
      · exact hq (.tup [.int 0]) ⟨rfl, fun _ => rfl, by decide +kernel, by decide +kernel, fun _ => rfl⟩
      · exact hq (.str "00") ⟨rfl, fun _ => rfl, by decide +kernel, by decide +kernel, fun _ => rfl⟩
      · exact hq (.int n) ⟨whole_out (.inr (by omega)), fun _ => rfl, rfl, odd_int _, fun _ => rfl⟩
theorem dat_law_costs (K : PySem.W.Frag) (g : Str → Addr) : ∀ ds S Q E, F_law_costs K g ds S Q E → rd_law_costs K g (cE E) (endB Q) (startD N_law_costs ds) S := fun ds S Q E h => by
  obtain ⟨h, n, rfl, hh, n0, n1, hq⟩ := h
  have e0 : startD N_law_costs [.raw h, .int n] = [some (.raw h), some (.int n), none, none] := rfl
  rw [e0]
  unfold rd_law_costs
  refine x_seq fun R hR => ?_
  have key : ∀ b : Int, 0 < b → b ≤ 1000000001 → R [some (.raw h), some (.int n), some (.int b), none] S := fun b b0 b1 => hR _ _ (by
    walk_at "dl"
    refine ⟨by omega, by omega, fun i acc S' => (∃ cs : List Int, acc = intL cs ∧ cs.length = i ∧ ∀ c ∈ cs, 0 ≤ c ∧ c ≤ 1000000000) ∧ S = S', ⟨⟨[], rfl, rfl, by simp⟩, rfl⟩, fun _ _ _ _ _ _ _ => True.intro, ?_, ?_⟩
    · rintro i x _ _ Dd o hi ⟨⟨cs, rfl, hl, hc⟩, rfl⟩ hD
      obtain ⟨hlt, rfl⟩ := rng_get hi
      have hh2 := hand_upd (o := o) hh hD
      have ew : List.set (wipeD [some (D.raw h), some (.int n), some (.int b), none] [3]) 3 (some (D.int (0 + (i : Nat)))) = [some (D.raw h), some (.int n), some (.int b), some (D.int (0 + (i : Nat)))] := rfl
      simp only [if_true, ew]
      walk_at "dl"
      refine fa_take hh2 (by decide) (by decide) fun r h0 h1 => ?_
      have fin : ∀ c : Int, 0 ≤ c → c ≤ 1000000000 → (intL cs).length < sizeLine ∧ updS S Dd o Dd = some o ∧ (∃ cs' : List Int, intL cs ++ [D.int c] = intL cs' ∧ cs'.length = i + 1 ∧ ∀ c ∈ cs', 0 ≤ c ∧ c ≤ 1000000000) ∧ S = delS (updS S Dd o) Dd := fun c c0 c1 =>
        ⟨by rw [List.length_map, sizeLine_eq]; omega, updS_same, ⟨cs ++ [c], by simp only [intL, List.map_append, List.map_cons, List.map_nil], by rw [List.length_append, hl]; rfl, fun y hy => by
          rcases List.mem_append.mp hy with hy | hy
          · exact hc y hy
          · rw [List.mem_singleton] at hy; subst hy; exact ⟨c0, c1⟩⟩, (delS_upd hD).symm⟩
      simp only [x_eqI]
      split
      · exact fin 0 (by decide) (by decide)
      · exact fa_take hh2 b0 (by omega) fun r h0 h1 => fin r h0 (by omega)
    · rintro _ _ ⟨⟨cs, rfl, hl, hc⟩, rfl⟩
      rw [rng_len] at hl
      exact hq cs (by omega) hc)
  walk_at "dl"
  refine ⟨cpow_109, by rw [sizeLine_eq]; simp, fa_take hh (by decide) (by decide) fun r h0 h1 => ?_⟩
  rw [p109]
  have hc : r = 0 ∨ r = 1 ∨ r = 2 ∨ r = 3 := by omega
  rcases hc with rfl | rfl | rfl | rfl
  · exact key 4 (by decide) (by decide)
  · exact key 7 (by decide) (by decide)
  · exact key 2 (by decide) (by decide)
  · exact key (1000000000 + 1) (by decide) (by decide)
theorem x_addL {i j : List D} {S : Sto} {Q : DV} : rAdd' (.lst i) (.lst j) S Q = (i.length + j.length ≤ sizeLine ∧ Q (.lst (i ++ j)) S) := rfl
theorem dat_law_places (K : PySem.W.Frag) (g : Str → Addr) : ∀ ds S Q E, F_law_places K g ds S Q E → rd_law_places K g (cE E) (endB Q) (startD N_law_places ds) S := fun ds S Q E h => by
  obtain ⟨cs, as, is', rfl, hG, hl, hi, hq⟩ := h
  have e0 : startD N_law_places [arrs as, tupI is'] = [some (arrs as), some (tupI is'), none] := rfl
  rw [e0]
  unfold rd_law_places
  walk_at "dl"
  refine ⟨by rw [sizeLine_eq]; simp, fun i acc S' => acc = intL ((is'.take i).map (hdA as)) ∧ S = S', ⟨rfl, rfl⟩, fun _ _ _ _ _ _ _ => True.intro, ?_, ?_⟩
  · rintro i x acc _ Dd o hx ⟨rfl, rfl⟩ hD
    obtain ⟨j, hj, rfl⟩ := getElem_map hx
    obtain ⟨j0, j1⟩ := hi j (List.mem_of_getElem? hj)
    obtain ⟨p, hp, hat⟩ := arr_at (as := as) j0 j1
    have ew : List.set (wipeD [some (arrs as), some (tupI is'), none] [2]) 2 (some (D.int j)) = [some (arrs as), some (tupI is'), some (.int j)] := rfl
    simp only [if_true, ew]
    walk_at "dl"
    simp only [hat, at2_1]
    refine ⟨?_, updS_same, ?_, (delS_upd hD).symm⟩
    · rw [List.length_map, List.length_map, List.length_take, sizeLine_eq]; omega
    · have : hdA as j = p.2 := by unfold hdA; rw [List.getD_eq_getElem?_getD, hp]; rfl
      rw [take_succ' hj]
      simp only [intL, List.map_append, List.map_cons, List.map_nil, this]
  · rintro acc _ ⟨rfl, rfl⟩
    have el : (intL is').length = is'.length := List.length_map _
    rw [el, List.take_length, x_addL]
    refine ⟨by rw [sizeLine_eq]; simp; omega, ?_⟩
    exact hq
end DL
end

section
set_option Elab.async false
set_option linter.all false
set_option maxRecDepth 100000
set_option maxHeartbeats 400000
namespace DL
open PySem PySem.Spec PyProof.Rows L2
local macro_rules | `(tactic| walk_at "dl") => `(tactic| simp only [x_C, x_V0, x_V, x_op, x_I, x_I0, x_addI, x_addT, x_B, x_And, x_Or, x_Not, x_Tru, x_AndT, x_OrT, x_NotT, x_If, x_nil, x_cons, x_Tup, x_Lst, x_LstM, x_CB, x_Chain, x_UnI, x_int, x_abs, x_lenT, x_lenL, x_listOfT, x_listOfL, x_tupOfT, x_tupOfL, x_call, x_make, x_BM, x_NoPart, x_Part, x_Sl, x_gName, x_gNil, x_gCons, x_gTup, x_next, x_brk, x_cont, x_drop, x_ret, x_retG, x_ifS, x_asg, x_raise, x_isiT, List.set_cons_zero, List.set_cons_succ, List.append_nil, x_for, x_while, x_iSeq, as_lst, as_tup, x_iRng1, x_iRng2, x_iEnum, x_lc, x_lcM, x_yes, x_Rg1, x_Rg2, x_ixT, x_ixL, x_eqI, x_neI, tr_bl, tr_int, x_gSub])
theorem isN_non : isNon .non = true := rfl
theorem x_isN {x : D} {S : Sto} {Q : DV} : rIsN' x .non S Q = Q (.bl (isNon x)) S := rfl
theorem tup_base (K : PySem.W.Frag) (g : Str → Addr) (G : DF) {d : D} {S : Sto} {Q : DV} {E : DX} (h : okD 0 d = true) (hq : Q (.bl true) S) : rd_law_tuples K g G (cE E) (endB Q) [some d, none] S := by
  unfold rd_law_tuples
  refine x_seq fun R hR => ?_
  walk_at "dl"
  cases d with
  | int i =>
    simp only [x_isi (a := .int) (d := .int i) rfl, tr_bl, show subT .int .tuple = false from rfl, if_ff]
    refine ⟨by decide, hR _ _ ?_⟩
    walk_at "dl"
    simp only [x_isN, tr_bl, show isNon (.int i) = false from rfl, if_ff, x_isi (a := .int) (d := .int i) rfl, show subT .int .str = false from rfl, show subT .int .int = true from rfl, if_tt, show subT .int .bool = false from rfl]
    exact ⟨by decide, by decide, by decide, hq⟩
  | non =>
    simp only [x_isi (a := .none) (d := .non) rfl, tr_bl, show subT .none .tuple = false from rfl, if_ff]
    refine ⟨by decide, hR _ _ ?_⟩
    walk_at "dl"
    simp only [x_isN, tr_bl, isN_non, if_tt]
    exact hq
  | str z =>
    simp only [x_isi (a := .str) (d := .str z) rfl, tr_bl, show subT .str .tuple = false from rfl, if_ff]
    refine ⟨by decide, hR _ _ ?_⟩
    walk_at "dl"
    simp only [x_isN, tr_bl, show isNon (.str z) = false from rfl, if_ff, x_isi (a := .str) (d := .str z) rfl, show subT .str .str = true from rfl, if_tt]
    exact ⟨by decide, hq⟩
  | _ => cases h
theorem okD_cases {n : Nat} {d : D} (h : okD n d = true) : okD 0 d = true ∨ ∃ m xs, n = m + 1 ∧ d = .tup xs ∧ xs.all (okD m) = true := by
  cases d with
  | tup xs =>
    cases n with
    | zero => cases h
    | succ m => exact .inr ⟨m, xs, rfl, rfl, h⟩
  | int i => exact .inl rfl
  | non => exact .inl rfl
  | str z => exact .inl rfl
  | _ => cases n <;> cases h
theorem dat_tup0 (K : PySem.W.Frag) (g : Str → Addr) (G : DF) : ∀ ds S Q E, F_tupN 0 ds S Q E → rd_law_tuples K g G (cE E) (endB Q) (startD N_law_tuples ds) S := fun ds S Q E h => by
  obtain ⟨d, rfl, h0, hq⟩ := h
  exact tup_base K g G h0 hq
theorem dat_tupS (K : PySem.W.Frag) (g : Str → Addr) (n : Nat) : ∀ ds S Q E, F_tupN (n + 1) ds S Q E → rd_law_tuples K g (F_tupN n) (cE E) (endB Q) (startD N_law_tuples ds) S := fun ds S Q E h => by
  obtain ⟨d, rfl, h0, hq⟩ := h
  rcases okD_cases h0 with h0 | ⟨m, xs, e, rfl, hx⟩
  · exact tup_base K g _ h0 hq
  · cases e
    have e0 : startD N_law_tuples [.tup xs] = [some (.tup xs), none] := rfl
    rw [e0]
    unfold rd_law_tuples
    refine x_seq fun R hR => ?_
    walk_at "dl"
    simp only [x_isi (a := .tuple) (d := .tup xs) rfl, tr_bl, show subT .tuple .tuple = true from rfl, if_tt]
    refine ⟨by decide, fun i acc S' => acc = [] ∧ S = S', ⟨rfl, rfl⟩, fun _ _ _ _ _ _ _ => True.intro, ?_, ?_⟩
    · rintro i x _ _ Dd o hi ⟨rfl, rfl⟩ hD
      have ew : List.set (wipeD [some (D.tup xs), none] [1]) 1 (some x) = [some (.tup xs), some x] := rfl
      simp only [ew, x_V, x_V0, List.nil_append]
      refine ⟨x, rfl, List.all_eq_true.mp hx x (List.mem_of_getElem? hi), ?_⟩
      simp only [tr_bl, Bool.not_true, if_ff]
      exact ⟨updS_same, by first | rfl | trivial, (delS_upd hD).symm⟩
    · rintro _ _ ⟨rfl, rfl⟩
      exact hq
theorem x_Xf {C : Addr} {f : Str} {te : DCtx → DE} {c : DCtx} {env : DEnv} {S : Sto} {Q : DV} : dXf C f te c env S Q = te c env S fun x S1 => ∃ a fs v, c.ex = some (a, C, fs) ∧ x = .raw a ∧ fs.lookup f = some v ∧ Q v S1 := rfl
end DL
end

section
set_option Elab.async false
set_option linter.all false
set_option maxRecDepth 100000
set_option maxHeartbeats 400000
namespace DL
open PySem PySem.Spec PyProof.Rows L2
local macro_rules | `(tactic| walk_at "dl") => `(tactic| simp only [x_C, x_V0, x_V, x_op, x_I, x_I0, x_addI, x_addT, x_B, x_And, x_Or, x_Not, x_Tru, x_AndT, x_OrT, x_NotT, x_If, x_nil, x_cons, x_Tup, x_Lst, x_LstM, x_CB, x_Chain, x_UnI, x_int, x_abs, x_lenT, x_lenL, x_listOfT, x_listOfL, x_tupOfT, x_tupOfL, x_call, x_make, x_BM, x_NoPart, x_Part, x_Sl, x_gName, x_gNil, x_gCons, x_gTup, x_next, x_brk, x_cont, x_drop, x_ret, x_retG, x_ifS, x_asg, x_raise, x_isiT, List.set_cons_zero, List.set_cons_succ, List.append_nil, x_for, x_while, x_iSeq, as_lst, as_tup, x_iRng1, x_iRng2, x_iEnum, x_lc, x_lcM, x_yes, x_Rg1, x_Rg2, x_ixT, x_ixL, x_eqI, x_neI, tr_bl, tr_int, x_gSub])
theorem erase_map {α β : Type} {f : α → β} : ∀ (xs : List α) (k : Nat), (xs.map f).eraseIdx k = (xs.eraseIdx k).map f
  | [], _ => rfl
  | x :: xs, 0 => rfl
  | x :: xs, k + 1 => congrArg (f x :: ·) (erase_map xs k)
theorem x_popAt {S : Sto} {a : Addr} {es : List D} {i : Int} {y : D} {Q : DV} (h : S a = some (.lst es)) (h0 : 0 ≤ i) (h1 : i < es.length) (h2 : es.length < 16777216) (hy : es[i.toNat]? = some y) : rPopAt' (.raw a) [.int i] S Q = Q y (updS S a (.lst (es.eraseIdx i.toNat))) := by
  unfold rPopAt'
  have ix : ixN es.length i = some i.toNat := by unfold ixN; rw [if_pos h0, if_pos h1]
  simp only [own_raw h, ix, hy]
  exact propext ⟨fun z => z.2.2, fun z => ⟨by omega, by omega, z⟩⟩
theorem x_gh {t : DS} {E : DEnds} {env : DEnv} {S : Sto} : dGh t E env S = ∃ env2 S2, Gh env S env2 S2 ∧ t E env2 S2 := rfl
def ren (nm : List Int) (p : Int × Int) : Int × Int := (nm.getD p.1.toNat 0, nm.getD p.2.toNat 0)
theorem vd_ren {n : Int} {as : List (Int × Int)} {nm : List Int} (hV : Vd n as) (hl : (nm.length : Int) = n) (h0 : nm.getD 0 0 = 0) (hin : ∀ v ∈ nm, 0 ≤ v ∧ v < n) (hs : ∀ v : Int, 0 ≤ v → v < n → v ∈ nm) : Vd n (as.map (ren nm)) := by
  have gin : ∀ i : Int, 0 ≤ i → i < n → 0 ≤ nm.getD i.toNat 0 ∧ nm.getD i.toNat 0 < n := fun i i0 i1 => by
    have hi : i.toNat < nm.length := by omega
    rw [List.getD_eq_getElem?_getD, List.getElem?_eq_getElem hi]
    exact hin _ (List.getElem_mem hi)
  refine ⟨fun p hp => ?_, fun i i0 i1 => ?_⟩
  · obtain ⟨q, hq, rfl⟩ := List.mem_map.mp hp
    obtain ⟨a, b, c, d⟩ := hV.at_ q hq
    have g1 := gin q.1 a b
    have g2 := gin q.2 c d
    exact ⟨g1.1, g1.2, g2.1, g2.2⟩
  · have key : ∀ u, Reach as u → Reach (as.map (ren nm)) (nm.getD u.toNat 0) := fun u r => by
      induction r with
      | zero => rw [show (0 : Int).toNat = 0 from rfl, h0]; exact .zero
      | step r m ih => exact .step ih (List.mem_map.mpr ⟨_, m, rfl⟩)
    obtain ⟨k, hk, e⟩ := List.getElem_of_mem (hs i i0 i1)
    have := key (k : Int) (hV.all k (by omega) (by omega))
    rw [show ((k : Nat) : Int).toNat = k from rfl, List.getD_eq_getElem?_getD, List.getElem?_eq_getElem hk] at this
    rw [← e]
    exact this
theorem rng_int {lo : Int} {n : Nat} : rngD lo n = intL ((List.range n).map fun i => lo + (i : Nat)) := by
  unfold rngD intL
  rw [List.map_map]; rfl
theorem dat_law_renumbered (K : PySem.W.Frag) (g : Str → Addr) : ∀ ds S Q E, F_law_renumbered K g ds S Q E → rd_law_renumbered K g (cE E) (endB Q) (startD N_law_renumbered ds) S := fun ds S Q E h => by
  obtain ⟨h, n, as, rfl, hh, n0, n1, hl, hV, hq⟩ := h
  have e0 : startD N_law_renumbered [.raw h, .int n, .lst (arrD as)] = [some (.raw h), some (.int n), some (.lst (arrD as)), none, none, none, none, none] := rfl
  rw [e0]
  unfold rd_law_renumbered
  refine x_seq fun R hR => ?_
  walk_at "dl"
  refine fa_take hh (by decide) (by decide) fun r _ _ => ?_
  simp only [tr_int]
  split
  · exact ⟨_, S, GhR.refl, hq as rfl hV⟩
  refine hR _ _ ?_
  refine x_seq fun R hR => ?_
  simp only [x_asg, dLstRgM, x_Rg2, x_C, x_V, x_V0]
  refine ⟨by unfold RgOk; omega, fun a ha => hR _ _ ?_⟩
  refine x_seq fun R hR => ?_
  walk_at "dl"
  refine ⟨by rw [sizeLine_eq]; simp, fun b hb => hR _ _ ?_⟩
  have hba : b ≠ a := fun e => by subst e; rw [updS_same] at hb; cases hb
  have hSb : S b = none := by rw [updS_ne hba] at hb; exact hb
  refine x_seq fun R hR => ?_
  walk_at "dl"
  refine ⟨by omega, by omega, fun i env S' => ∃ (nm rs : List Int) (x : Option D), env = [some (.raw h), some (.int n), some (.lst (arrD as)), some (.raw a), some (.raw b), x, none, none] ∧ S' a = some (.lst (intL rs)) ∧ S' b = some (.lst (intL nm)) ∧ Fr S S' ∧
    nm.length = i + 1 ∧ (rs.length : Int) = n - 1 - i ∧ nm.getD 0 0 = 0 ∧ (∀ v : Int, v ∈ nm ∨ v ∈ rs → 0 ≤ v ∧ v < n) ∧ (∀ v : Int, 0 ≤ v → v < n → v ∈ nm ∨ v ∈ rs),
    ⟨[0], (List.range (n - 1).toNat).map fun i => 1 + (i : Nat), none, rfl, ?_, updS_same, ((Fr.refl S).upd ha).upd hSb, rfl, ?_, rfl, ?_, ?_⟩, fun _ _ _ _ => True.intro, ?_, ?_⟩
  · rw [updS_ne (fun e => hba e.symm), updS_same, rng_int]
  · rw [List.length_map, List.length_range]; omega
  · intro v hv
    rcases hv with hv | hv
    · rw [List.mem_singleton] at hv; subst hv; omega
    · obtain ⟨y, hy, rfl⟩ := List.mem_map.mp hv
      rw [List.mem_range] at hy; omega
  · intro v v0 v1
    by_cases e : v = 0
    · exact .inl (by rw [e]; exact List.mem_singleton.mpr rfl)
    · exact .inr (List.mem_map.mpr ⟨(v - 1).toNat, by rw [List.mem_range]; omega, by omega⟩)
  · rintro i x _ S' hi ⟨nm, rs, y, rfl, hA, hB, hF, h1, h2, h3, h4, h5⟩
    obtain ⟨hlt, rfl⟩ := rng_get hi
    simp only [x_gName, List.set_cons_zero, List.set_cons_succ]
    walk_at "dl"
    simp only [asl_raw hA, asl_raw hB, Option.isSome_some, true_and, x_len (as_raw hA), List.length_map]
    refine fa_take (hF h _ hh) (by omega) (by omega) fun r r0 r1 => ?_
    have hr : r.toNat < rs.length := by omega
    have hy : (intL rs)[r.toNat]? = some (.int rs[r.toNat]) := by rw [List.getElem?_map, List.getElem?_eq_getElem hr]; rfl
    rw [x_popAt hA r0 (by rw [List.length_map]; exact r1) (by rw [List.length_map]; omega) hy]
    have hB2 : updS S' a (.lst ((intL rs).eraseIdx r.toNat)) b = some (.lst (intL nm)) := by rw [updS_ne hba]; exact hB
    rw [x_append (own_raw hB2)]
    refine ⟨by rw [List.length_map, sizeLine_eq]; omega, nm ++ [rs[r.toNat]], rs.eraseIdx r.toNat, _, rfl, ?_, ?_, (hF.upd ha).upd hSb, ?_, ?_, ?_, ?_, ?_⟩
    · rw [updS_ne (fun e => hba e.symm), updS_same]
      simp only [intL, erase_map]
    · rw [updS_same]; simp only [intL, List.map_append, List.map_cons, List.map_nil]
    · rw [List.length_append, h1]; rfl
    · rw [List.length_eraseIdx_of_lt hr]; omega
    · rw [List.getD_eq_getElem?_getD] at h3 ⊢
      rw [List.getElem?_append_left (by omega)]
      exact h3
    · intro v hv
      refine h4 v ?_
      rw [List.mem_append, List.mem_singleton] at hv
      rcases hv with (hv | hv) | hv
      · exact .inl hv
      · exact .inr (by rw [hv]; exact List.getElem_mem hr)
      · exact .inr (List.mem_of_mem_eraseIdx hv)
    · intro v v0 v1
      rcases h5 v v0 v1 with hv | hv
      · exact .inl (List.mem_append.mpr (.inl hv))
      · have this : v = rs[r.toNat] ∨ v ∈ rs.eraseIdx r.toNat := by
          obtain ⟨k, hk, e⟩ := List.getElem_of_mem hv
          by_cases hkr : k = r.toNat
          · subst hkr; exact .inl e.symm
          · exact .inr (List.mem_eraseIdx_iff_getElem?.mpr ⟨k, hkr, by rw [List.getElem?_eq_getElem hk, e]⟩)
        rcases this with hv | hv
        · exact .inl (List.mem_append.mpr (.inr (List.mem_singleton.mpr hv)))
        · exact .inr hv
  · rintro _ S' ⟨nm, rs, y, rfl, hA, hB, hF, h1, h2, h3, h4, h5⟩
    rw [rng_len] at h1 h2
    have hrs : rs = [] := List.eq_nil_of_length_eq_zero (by omega)
    subst hrs
    refine hR _ _ ?_
    rw [x_gh]
    refine ⟨[some (.raw h), some (.int n), some (.lst (arrD as)), some (.raw a), some (.lst (intL nm)), y, none, none], S, ?_, ?_⟩
    · exact (Gh.freeze (i := 4) rfl hB).trans (Gh.weak (hF.del hSb))
    have hVr : Vd n (as.map (ren nm)) := vd_ren hV (by omega) h3 (fun v hv => h4 v (.inl hv)) (fun v v0 v1 => (h5 v v0 v1).resolve_right (by simp))
    walk_at "dl"
    refine ⟨fun i acc S' => acc = arrD ((as.take i).map (ren nm)) ∧ S = S', ⟨rfl, rfl⟩, fun _ _ _ _ _ _ _ => True.intro, ?_, ?_⟩
    · rintro i x _ _ Dd o hi ⟨rfl, rfl⟩ hD
      obtain ⟨p, hp, rfl⟩ := arr_get hi
      obtain ⟨a0, a1, a2, a3⟩ := hV.at_ p (List.mem_of_getElem? hp)
      have ew : wipeD [some (D.raw h), some (D.int n), some (D.lst (arrD as)), some (D.raw a), some (D.lst (intL nm)), y, none, none] [6, 7] = [some (.raw h), some (.int n), some (.lst (arrD as)), some (.raw a), some (.lst (intL nm)), y, none, none] := rfl
      simp only [ew, x_gTup, x_gCons, x_gNil, x_gName, List.set_cons_zero, List.set_cons_succ]
      refine ⟨rfl, ?_⟩
      simp only [if_true]
      have ga : ∀ j : Int, 0 ≤ j → j < n → atI (intL nm) j = some (.int (nm.getD j.toNat 0)) := fun j j0 j1 => by
        have hj : j.toNat < nm.length := by omega
        rw [atI_ok j0 (by rw [List.length_map]; omega), List.getElem?_map, List.getD_eq_getElem?_getD, List.getElem?_eq_getElem hj]
        rfl
      walk_at "dl"
      simp only [ga _ a0 a1, ga _ a2 a3]
      refine ⟨by rw [sizeLine_eq]; simp, ?_, updS_same, ?_, (delS_upd hD).symm⟩
      · rw [arr_len, List.length_map, List.length_take, sizeLine_eq]; omega
      · rw [take_succ' hp]
        simp only [arrD, List.map_append, List.map_cons, List.map_nil, ren]
    · rintro _ _ ⟨rfl, rfl⟩
      rw [arr_len, List.take_length]
      exact ⟨_, S, GhR.refl, hq _ (List.length_map _) hVr⟩
end DL
end

section
set_option Elab.async false
set_option linter.all false
set_option maxRecDepth 100000
set_option maxHeartbeats 400000
namespace DL
open PySem PySem.Spec PyProof.Rows L2
local macro_rules | `(tactic| walk_at "dl") => `(tactic| simp only [x_C, x_V0, x_V, x_op, x_I, x_I0, x_addI, x_addT, x_B, x_And, x_Or, x_Not, x_Tru, x_AndT, x_OrT, x_NotT, x_If, x_nil, x_cons, x_Tup, x_Lst, x_LstM, x_CB, x_Chain, x_UnI, x_int, x_abs, x_lenT, x_lenL, x_listOfT, x_listOfL, x_tupOfT, x_tupOfL, x_call, x_make, x_BM, x_NoPart, x_Part, x_Sl, x_gName, x_gNil, x_gCons, x_gTup, x_next, x_brk, x_cont, x_drop, x_ret, x_retG, x_ifS, x_asg, x_raise, x_isiT, List.set_cons_zero, List.set_cons_succ, List.append_nil, x_for, x_while, x_iSeq, as_lst, as_tup, x_iRng1, x_iRng2, x_iEnum, x_lc, x_lcM, x_yes, x_Rg1, x_Rg2, x_ixT, x_ixL, x_eqI, x_neI, tr_bl, tr_int, x_gSub])
theorem asl_lst {S : Sto} {es : List D} : asL S (.lst es) = some es := rfl
theorem cut_from {xs : List D} {t : Int} (h0 : 0 ≤ t) (h1 : t ≤ xs.length) : cutD xs (some t) none = xs.drop t.toNat := by
  unfold cutD
  have e1 : HT.sIx xs.length 0 (some t) = t.toNat := by
    unfold HT.sIx
    simp only
    rw [if_neg (by omega)]
    omega
  rw [e1]
  show (xs.drop t.toNat).take (xs.length - t.toNat) = _
  exact List.take_of_length_le (by rw [List.length_drop]; omega)
theorem cut_to {xs : List D} {t : Int} (h0 : 0 ≤ t) (h1 : t ≤ xs.length) : cutD xs none (some t) = xs.take t.toNat := by
  unfold cutD
  have e1 : HT.sIx xs.length xs.length (some t) = t.toNat := by
    unfold HT.sIx
    simp only
    rw [if_neg (by omega)]
    omega
  rw [e1]
  show (xs.drop 0).take (t.toNat - 0) = _
  rw [List.drop_zero, Nat.sub_zero]
theorem Reach.mono {as bs : List (Int × Int)} (h : ∀ p ∈ as, p ∈ bs) {v : Int} (r : Reach as v) : Reach bs v := by
  induction r with
  | zero => exact .zero
  | step r m ih => exact .step ih (h _ m)
theorem dat_law_chart (K : PySem.W.Frag) (g : Str → Addr) : ∀ ds S Q E, F_law_chart K g ds S Q E → rd_law_chart K g (cE E) (endB Q) (startD N_law_chart ds) S := fun ds S Q E hF => by
  obtain ⟨h, rfl, hh, hq⟩ := hF
  have e0 : startD N_law_chart [.raw h, .int 5, .int 5] = [some (.raw h), some (.int 5), some (.int 5), none, none, none, none, none, none, none] := rfl
  rw [e0]
  unfold rd_law_chart
  refine x_seq fun R hR => ?_
  walk_at "dl"
  refine fa_take hh (by decide) (by decide) fun r r0 r1 => ?_
  simp only [x_addI]
  have n0 : 1 ≤ 1 + r := by omega
  have n1 : 1 + r ≤ 6 := by omega
  generalize 1 + r = n at n0 n1
  refine hR _ _ ?_
  refine x_seq fun R hR => ?_
  walk_at "dl"
  refine ⟨h, n, rfl, hh, n0, n1, fun cs hcl hc => ?_⟩
  refine hR _ _ ?_
  refine x_seq fun R hR => ?_
  walk_at "dl"
  refine ⟨by rw [sizeLine_eq]; simp, fun a ha => hR _ _ ?_⟩
  refine x_seq fun R hR => ?_
  walk_at "dl"
  refine ⟨by omega, fun i env S' => ∃ (as : List (Int × Int)) (x y : Option D), env = [some (.raw h), some (.int 5), some (.int 5), some (.int n), some (.lst (intL cs)), some (.raw a), x, y, none, none] ∧ S' a = some (.lst (arrD as)) ∧ Fr S S' ∧ as.length = i ∧ i < n ∧
    (∀ p ∈ as, 0 ≤ p.1 ∧ p.1 < n ∧ 0 ≤ p.2 ∧ p.2 < n) ∧ ∀ v : Int, 0 ≤ v → v ≤ i → Reach as v, ⟨[], none, none, rfl, updS_same, (Fr.refl S).upd ha, rfl, by omega, by simp, fun v v0 v1 => by
      have : v = 0 := by omega
      subst this; exact .zero⟩, fun _ _ _ _ => True.intro, ?_, ?_⟩
  · rintro i x _ S' hi ⟨as, x6, x7, rfl, hA, hF, hl, hin, hat, hre⟩
    obtain ⟨hlt, rfl⟩ := rng_get hi
    simp only [x_gName, List.set_cons_zero, List.set_cons_succ]
    refine x_seq fun R2 hR2 => ?_
    have key : ∀ t : Int, 0 ≤ t → t ≤ i → R2 [some (.raw h), some (.int 5), some (.int 5), some (.int n), some (.lst (intL cs)), some (.raw a), some (.int (1 + (i : Nat))), some (.int t), none, none] S' := fun t t0 t1 => hR2 _ _ (by
      walk_at "dl"
      simp only [asl_raw hA, Option.isSome_some, true_and, x_append (own_raw hA)]
      refine ⟨by rw [sizeLine_eq]; simp, by rw [arr_len, sizeLine_eq]; omega, as ++ [(t, 1 + (i : Int))], _, _, rfl, ?_, hF.upd ha, by rw [List.length_append, hl]; rfl, by omega, fun p hp => ?_, fun v v0 v1 => ?_⟩
      · rw [updS_same]; simp only [arrD, List.map_append, List.map_cons, List.map_nil]
      · rcases List.mem_append.mp hp with hp | hp
        · exact hat p hp
        · rw [List.mem_singleton] at hp; subst hp
          exact ⟨t0, by omega, by omega, by omega⟩
      · have mono : ∀ p ∈ as, p ∈ as ++ [(t, 1 + (i : Int))] := fun p hp => List.mem_append.mpr (.inl hp)
        by_cases hv : v ≤ i
        · exact (hre v v0 hv).mono mono
        · have : v = 1 + (i : Int) := by omega
          subst this
          exact .step ((hre t t0 t1).mono mono) (List.mem_append.mpr (.inr (List.mem_singleton.mpr rfl))))
    walk_at "dl"
    refine fa_take (hF h _ hh) (by decide) (by decide) fun r r0 r1 => ?_
    simp only [tr_int]
    split
    · exact key _ (by omega) (by omega)
    · exact fa_take (hF h _ hh) (by omega) (by omega) fun t t0 t1 => key t t0 (by omega)
  · rintro _ S' ⟨as, x6, x7, rfl, hA, hF, hl, hin, hat, hre⟩
    rw [rng_len] at hl hin hre
    refine hR _ _ ?_
    refine x_seq fun R hR => ?_
    walk_at "dl"
    refine fa_take (hF h _ hh) (by decide) (by decide) fun r r0 r1 => ?_
    refine ⟨by omega, by omega, fun i env S' => ∃ (as : List (Int × Int)) (x y z : Option D), env = [some (.raw h), some (.int 5), some (.int 5), some (.int n), some (.lst (intL cs)), some (.raw a), x, y, z, none] ∧ S' a = some (.lst (arrD as)) ∧ Fr S S' ∧ as.length ≤ 6 + i ∧ i ≤ 7 ∧ Vd n as,
      ⟨as, _, _, _, rfl, hA, hF, by omega, by omega, hat, fun v v0 v1 => hre v v0 (by omega)⟩, fun _ _ _ _ => True.intro, ?_, ?_⟩
    · rintro i x _ S' hi ⟨as, x6, x7, x8, rfl, hA, hF, hl, hi7, hV⟩
      obtain ⟨hlt, rfl⟩ := rng_get hi
      simp only [x_gName, List.set_cons_zero, List.set_cons_succ]
      walk_at "dl"
      simp only [asl_raw hA, Option.isSome_some, true_and]
      refine fa_take (hF h _ hh) (by omega) (by omega) fun t t0 t1 => fa_take (hF h _ hh) (by omega) (by omega) fun u u0 u1 => ?_
      rw [x_append (own_raw hA)]
      refine ⟨by rw [sizeLine_eq]; simp, by rw [arr_len, sizeLine_eq]; omega, as ++ [(t, u)], _, _, _, rfl, ?_, hF.upd ha, by rw [List.length_append, List.length_singleton]; omega, by omega, fun p hp => ?_, fun v v0 v1 => (hV.all v v0 v1).mono fun p hp => List.mem_append.mpr (.inl hp)⟩
      · rw [updS_same]; simp only [arrD, List.map_append, List.map_cons, List.map_nil]
      · rcases List.mem_append.mp hp with hp | hp
        · exact hV.at_ p hp
        · rw [List.mem_singleton] at hp; subst hp
          exact ⟨t0, t1, u0, u1⟩
    · rintro _ S' ⟨as, x6, x7, x8, rfl, hA, hF, hl, hi7, hV⟩
      rw [rng_len] at hl hi7
      refine hR _ _ ?_
      rw [x_gh]
      refine ⟨_, S, (Gh.freeze (i := 5) rfl hA).trans (Gh.weak (hF.del ha)), ?_⟩
      simp only [List.set_cons_zero, List.set_cons_succ]
      refine x_seq fun R hR => ?_
      have key : ∀ (as' : List (Int × Int)) (y : Option D), as'.length ≤ 16 → Vd n as' → R [some (.raw h), some (.int 5), some (.int 5), some (.int n), some (.lst (intL cs)), some (.lst (arrD as')), x6, x7, x8, y] S := fun as' y hl' hV' => hR _ _ (by
        walk_at "dl"
        refine ⟨h, n, as', rfl, hh, n0, n1, hl', hV', fun bs hbl hbV => ?_⟩
        simp only [x_tupOfL]
        refine ⟨by rw [sizeLine_eq]; simp, _, S, GhR.refl, hq cs bs ⟨by omega, by omega, hc, by omega, fun p hp => ?_, fun i i0 i1 => hbV.all i i0 (by omega)⟩⟩
        obtain ⟨a1, a2, a3, a4⟩ := hbV.at_ p hp
        exact ⟨a1, by omega, a3, by omega⟩)
      walk_at "dl"
      refine fa_take hh (by decide) (by decide) fun r r0 r1 => ?_
      simp only [x_eqI]
      split
      · refine x_seq fun R2 hR2 => ?_
        walk_at "dl"
        rw [arr_len]
        refine fa_take hh (by omega) (by omega) fun t t0 t1 => hR2 _ _ ?_
        walk_at "dl"
        simp only [asl_lst, x_addL, cut_from (xs := arrD as) t0 (by rw [arr_len]; omega), cut_to (xs := arrD as) t0 (by rw [arr_len]; omega)]
        have ea : (arrD as).drop t.toNat ++ (arrD as).take t.toNat = arrD (as.drop t.toNat ++ as.take t.toNat) := by
          unfold arrD
          rw [List.map_append, List.map_drop, List.map_take]
        rw [ea]
        have mem : ∀ p, p ∈ as.drop t.toNat ++ as.take t.toNat ↔ p ∈ as := fun p => by
          rw [List.mem_append, or_comm, ← List.mem_append, List.take_append_drop]
        refine ⟨by rw [List.length_drop, List.length_take, arr_len, sizeLine_eq]; omega, key _ _ (by rw [List.length_append, List.length_drop, List.length_take]; omega) ⟨fun p hp => hV.at_ p ((mem p).mp hp), fun v v0 v1 => (hV.all v v0 v1).mono fun p hp => (mem p).mpr hp⟩⟩
      · exact key as none (by omega) hV
end DL
end

section
set_option Elab.async false
set_option linter.all false
set_option autoImplicit false
set_option maxHeartbeats 400000
namespace DL
variable {as : List (Int × Int)}
theorem outsN_succ {p : Int} {i : Nat} : outsN as p (i + 1) = if tlA as i = p then outsN as p i ++ [(i : Int)] else outsN as p i := by
  unfold outsN
  rw [List.range_succ, List.map_append, List.filter_append]
  by_cases h : tlA as i = p
  · simp [h]
  · simp [h]
theorem mem_outsN {p a : Int} {i : Nat} : a ∈ outsN as p i ↔ 0 ≤ a ∧ a < i ∧ tlA as a = p := by
  unfold outsN
  simp only [List.mem_filter, List.mem_map, List.mem_range, decide_eq_true_eq]
  constructor
  · rintro ⟨⟨j, hj, rfl⟩, h⟩; exact ⟨by omega, by omega, h⟩
  · rintro ⟨h0, h1, h2⟩; exact ⟨⟨a.toNat, by omega, by omega⟩, h2⟩
theorem mem_outs {p a : Int} : a ∈ outs as p ↔ 0 ≤ a ∧ a < as.length ∧ tlA as a = p := mem_outsN
theorem outsN_len {p : Int} {i : Nat} : (outsN as p i).length ≤ i := by
  unfold outsN
  refine Nat.le_trans (List.length_filter_le _ _) ?_
  simp
theorem outs_lt {p : Int} : (outs as p).Pairwise (· < ·) := by
  unfold outs outsN
  refine List.Pairwise.filter _ ?_
  rw [List.pairwise_map]
  exact List.pairwise_lt_range.imp fun h => by omega
theorem outs_hd {p : Int} : ∀ i, i ≤ as.length → (outsN as p i).map (hdA as) = ((as.take i).filter fun q => decide (q.1 = p)).map (·.2)
  | 0, _ => rfl
  | i + 1, h => by
    have ih := outs_hd (p := p) i (by omega)
    have hi : as[i]? = some as[i] := List.getElem?_eq_getElem (by omega)
    have e1 : tlA as (i : Nat) = as[i].1 := by unfold tlA; rw [List.getD_eq_getElem?_getD]; simp [hi]
    have e2 : hdA as (i : Nat) = as[i].2 := by unfold hdA; rw [List.getD_eq_getElem?_getD]; simp [hi]
    rw [outsN_succ, List.take_succ, hi, List.filter_append, List.map_append, ← ih, e1]
    by_cases hp : as[i].1 = p
    · simp [hp, e2]
    · simp [hp]
/-- how many runs of l arrows begin at p -/
def cR (as : List (Int × Int)) : Nat → Int → Nat
  | 0, _ => 1
  | l + 1, p => ((outs as p).map fun a => cR as l (hdA as a)).sum
theorem rf_len : ∀ (l : Nat) (run : List Int) (p : Int), (rf as l run p).length = cR as l p
  | 0, _, _ => rfl
  | l + 1, run, p => by
    unfold rf cR
    rw [List.length_flatMap]
    congr 1
    exact List.map_congr_left fun a _ => rf_len l _ _
theorem sum_add {α : Type} (f g : α → Nat) : ∀ xs : List α, (xs.map fun a => f a + g a).sum = (xs.map f).sum + (xs.map g).sum
  | [] => rfl
  | x :: xs => by simp only [List.map_cons, List.sum_cons, sum_add f g xs]; omega
theorem sum_swap {α β : Type} (f : β → α → Nat) (is : List β) : ∀ xs : List α, (xs.map fun a => (is.map fun i => f i a).sum).sum = (is.map fun i => (xs.map fun a => f i a).sum).sum
  | [] => by
    induction is with
    | nil => rfl
    | cons b l ih => simpa using ih
  | x :: xs => by
    simp only [List.map_cons, List.sum_cons]
    rw [sum_swap f is xs, sum_add]
theorem nodes_eq : ∀ (l : Nat) (p : Int), nodes as l p = ((List.range (l + 1)).map fun i => cR as i p).sum
  | 0, _ => rfl
  | l + 1, p => by
    rw [List.range_succ_eq_map, List.map_cons, List.sum_cons, List.map_map]
    unfold nodes
    have e : ((outs as p).map fun a => nodes as l (hdA as a)) = (outs as p).map fun a => ((List.range (l + 1)).map fun i => cR as i (hdA as a)).sum := List.map_congr_left fun a _ => nodes_eq l _
    rw [e, sum_swap (fun i a => cR as i (hdA as a))]
    rfl
theorem nodes_pos {l : Nat} {p : Int} : 1 ≤ nodes as l p := by cases l <;> simp [nodes]
theorem nodes_bound {l : Nat} {p : Int} {m : Nat} (h : ∀ i, i ≤ l → cR as i p ≤ m) : nodes as l p ≤ (l + 1) * m := by
  rw [nodes_eq]
  have : ∀ n : Nat, n ≤ l + 1 → ((List.range n).map fun i => cR as i p).sum ≤ n * m := by
    intro n
    induction n with
    | zero => intro _; simp
    | succ n ih =>
      intro hn
      rw [List.range_succ, List.map_append, List.sum_append]
      have h1 := ih (by omega)
      have h2 := h n (by omega)
      simp only [List.map_cons, List.map_nil, List.sum_cons, List.sum_nil]
      rw [Nat.succ_mul]
      omega
  exact this _ (Nat.le_refl _)
theorem cR_nodes {l : Nat} {p : Int} : cR as l p ≤ nodes as l p := by
  rw [nodes_eq, List.range_succ, List.map_append, List.sum_append]
  simp
/-- where a run ends -/
def endR (as : List (Int × Int)) (r : List Int) : Int := match r.getLast? with
  | some a => hdA as a
  | none => 0
theorem endR_snoc {r : List Int} {a : Int} : endR as (r ++ [a]) = hdA as a := by unfold endR; simp
theorem Wk.endR {r : List Int} {e : Int} (w : Wk as r e) : endR as r = e := by
  cases w with
  | nil => rfl
  | snoc w h => exact endR_snoc
theorem rf_step : ∀ (l : Nat) (run : List Int) (p : Int), endR as run = p → (rf as l run p).flatMap (fun r => (outs as (endR as r)).map fun a => r ++ [a]) = rf as (l + 1) run p
  | 0, run, p, h => by
    simp only [rf, List.flatMap_cons, List.flatMap_nil, List.append_nil, h]
    rw [List.flatMap_def, List.map_eq_flatMap, List.flatMap_def]
  | l + 1, run, p, h => by
    show ((outs as p).flatMap fun a => rf as l (run ++ [a]) (hdA as a)).flatMap _ = (outs as p).flatMap fun a => rf as (l + 1) (run ++ [a]) (hdA as a)
    rw [List.flatMap_assoc]
    congr 1
    funext a
    exact rf_step l (run ++ [a]) (hdA as a) endR_snoc
theorem rf_wk : ∀ (l : Nat) (run : List Int) (p : Int), Wk as run p → ∀ r ∈ rf as l run p, Wk as r (endR as r) ∧ r.length = run.length + l
  | 0, run, p, w, r, h => by
    simp only [rf, List.mem_singleton] at h
    subst h
    rw [w.endR]
    exact ⟨w, rfl⟩
  | l + 1, run, p, w, r, h => by
    simp only [rf, List.mem_flatMap] at h
    obtain ⟨a, ha, h⟩ := h
    obtain ⟨h1, h2⟩ := rf_wk l _ _ (.snoc w ha) r h
    exact ⟨h1, by rw [h2, List.length_append, List.length_singleton]; omega⟩
/-! ### the ways -/
def dot : List Int → Nat → (Int → Int) → Int
  | [], _, _ => 0
  | x :: w, k, f => x * f k + dot w (k + 1) f
theorem dot_set (f : Int → Int) (x : Int) : ∀ (w : List Int) (k i : Nat), i < w.length → dot (w.set i (w.getD i 0 + x)) k f = dot w k f + x * f ((k + i : Nat) : Int)
  | [], _, _, h => absurd h (by simp)
  | y :: w, k, 0, _ => by
    simp only [List.set_cons_zero, dot, List.getD_cons_zero, Nat.add_zero, Int.add_mul]; omega
  | y :: w, k, i + 1, h => by
    have ih := dot_set f x w (k + 1) i (by simpa using h)
    simp only [List.set_cons_succ, dot, List.getD_cons_succ]
    rw [ih, show k + 1 + i = k + (i + 1) by omega]
    omega
theorem dot_rep (f : Int → Int) : ∀ (n k : Nat), dot (List.replicate n 0) k f = 0
  | 0, _ => rfl
  | n + 1, k => by rw [List.replicate_succ, dot, dot_rep f n]; simp
theorem dot_add (f g : Int → Int) : ∀ (w : List Int) (k : Nat), dot w k (fun t => f t + g t) = dot w k f + dot w k g
  | [], _ => rfl
  | y :: w, k => by simp only [dot, dot_add f g w, Int.mul_add]; omega
theorem dot_congr {f g : Int → Int} (h : ∀ t, f t = g t) (w : List Int) (k : Nat) : dot w k f = dot w k g := by rw [show f = g from funext h]
theorem dot_at (x t : Int) : ∀ (w : List Int) (k : Nat), (k : Int) ≤ t → t < k + w.length → dot w k (fun u => if t = u then x else 0) = w.getD (t.toNat - k) 0 * x
  | [], k, h0, h1 => by simp at h1; omega
  | y :: w, k, h0, h1 => by
    by_cases e : t = k
    · have z : ∀ (w : List Int) (j : Nat), (k : Int) < j → dot w j (fun u => if t = u then x else 0) = 0 := fun w => by
        induction w with
        | nil => intro _ _; rfl
        | cons y w ih => intro j hj; rw [dot, ih (j + 1) (by omega), if_neg (by omega)]; simp
      rw [dot, z w (k + 1) (by omega), if_pos e]
      have : t.toNat - k = 0 := by omega
      rw [this]; simp
    · have ih := dot_at x t w (k + 1) (by omega) (by simp only [List.length_cons] at h1; omega)
      rw [dot, ih, if_neg e]
      have : t.toNat - k = (t.toNat - (k + 1)) + 1 := by omega
      rw [this]; simp
theorem dot_one : ∀ (w : List Int) (k : Nat), dot w k (fun _ => 1) = w.sum
  | [], _ => rfl
  | y :: w, k => by rw [dot, dot_one w, List.sum_cons]; omega
theorem fold_len (w : List Int) : ∀ (bs : List (Int × Int)) (m : List Int), (bs.foldl (fun m p => m.set p.2.toNat (m.getD p.2.toNat 0 + w.getD p.1.toNat 0)) m).length = m.length
  | [], _ => rfl
  | b :: bs, m => by rw [List.foldl_cons, fold_len w bs]; simp
theorem fold_dot (w : List Int) (f : Int → Int) : ∀ (bs : List (Int × Int)) (m : List Int), (∀ p ∈ bs, 0 ≤ p.2 ∧ p.2 < m.length) →
    dot (bs.foldl (fun m p => m.set p.2.toNat (m.getD p.2.toNat 0 + w.getD p.1.toNat 0)) m) 0 f = dot m 0 f + (bs.map fun p => w.getD p.1.toNat 0 * f p.2).sum
  | [], m, _ => by simp
  | b :: bs, m, h => by
    obtain ⟨b0, b1⟩ := h b List.mem_cons_self
    rw [List.foldl_cons, fold_dot w f bs _ (fun p hp => by have := h p (List.mem_cons_of_mem _ hp); simpa using this), dot_set f _ m 0 b.2.toNat (by omega), List.map_cons, List.sum_cons]
    rw [show ((0 + b.2.toNat : Nat) : Int) = b.2 by omega]
    omega
theorem dbl (w : List Int) (g : Int → Int) : ∀ bs : List (Int × Int), (∀ p ∈ bs, 0 ≤ p.1 ∧ p.1 < w.length) →
    (bs.map fun p => w.getD p.1.toNat 0 * g p.2).sum = dot w 0 fun t => ((bs.filter fun q => decide (q.1 = t)).map fun q => g q.2).sum
  | [], _ => by
    have z : ∀ (w : List Int) (k : Nat), dot w k (fun _ => 0) = 0 := fun w => by
      induction w with
      | nil => intro _; rfl
      | cons y w ih => intro k; rw [dot, ih]; simp
    simp [z]
  | b :: bs, h => by
    obtain ⟨b0, b1⟩ := h b List.mem_cons_self
    have e : ∀ t, (((b :: bs).filter fun q => decide (q.1 = t)).map fun q => g q.2).sum = (if b.1 = t then g b.2 else 0) + ((bs.filter fun q => decide (q.1 = t)).map fun q => g q.2).sum := fun t => by
      by_cases hb : b.1 = t
      · simp [List.filter_cons, hb]
      · simp [List.filter_cons, hb]
    rw [dot_congr e, dot_add, dot_at _ _ _ _ (by omega) (by omega), List.map_cons, List.sum_cons, dbl w g bs fun p hp => h p (List.mem_cons_of_mem _ hp)]
    simp
theorem wIter_len {n : Nat} (hn : 1 ≤ n) : ∀ l, (wIter as n l).length = n
  | 0 => by simp only [wIter, List.length_cons, List.length_replicate]; omega
  | l + 1 => by
    show (wStep as (wIter as n l)).length = n
    unfold wStep
    rw [fold_len, List.length_replicate, wIter_len hn l]
theorem sum_cast : ∀ xs : List Nat, ((xs.sum : Nat) : Int) = (xs.map fun x : Nat => (x : Int)).sum
  | [] => rfl
  | x :: xs => by rw [List.sum_cons, List.map_cons, List.sum_cons, ← sum_cast xs]; omega
theorem cR_succ (k : Nat) (t : Int) : ((cR as (k + 1) t : Nat) : Int) = ((as.filter fun q => decide (q.1 = t)).map fun q => ((cR as k q.2 : Nat) : Int)).sum := by
  have h := outs_hd (as := as) (p := t) as.length (Nat.le_refl _)
  rw [List.take_length] at h
  have e : ((outs as t).map fun a => cR as k (hdA as a)) = ((outs as t).map (hdA as)).map (cR as k) := by rw [List.map_map]; rfl
  show ((((outs as t).map fun a => cR as k (hdA as a)).sum : Nat) : Int) = _
  rw [e, show outs as t = outsN as t as.length from rfl, h, sum_cast, List.map_map, List.map_map]
  rfl
theorem ways {n : Nat} (hn : 1 ≤ n) (hat : ∀ p ∈ as, 0 ≤ p.1 ∧ p.1 < n ∧ 0 ≤ p.2 ∧ p.2 < n) : ∀ (l k : Nat), dot (wIter as n l) 0 (fun t => ((cR as k t : Nat) : Int)) = ((cR as (l + k) 0 : Nat) : Int)
  | 0, k => by
    show dot (1 :: List.replicate (n - 1) 0) 0 _ = _
    rw [dot, dot_rep, Nat.zero_add]
    simp
  | l + 1, k => by
    show dot (wStep as (wIter as n l)) 0 _ = _
    unfold wStep
    have hl := wIter_len (as := as) hn l
    rw [fold_dot _ _ _ _ (fun p hp => by rw [List.length_replicate, hl]; exact ⟨(hat p hp).2.2.1, (hat p hp).2.2.2⟩), dot_rep, dbl _ (fun t => ((cR as k t : Nat) : Int)) _ (fun p hp => by rw [hl]; exact ⟨(hat p hp).1, (hat p hp).2.1⟩)]
    rw [dot_congr (fun t => (cR_succ k t).symm), ways hn hat l (k + 1), show l + (k + 1) = l + 1 + k by omega]
    omega
theorem cnt_eq {n : Nat} (hn : 1 ≤ n) (hat : ∀ p ∈ as, 0 ≤ p.1 ∧ p.1 < n ∧ 0 ≤ p.2 ∧ p.2 < n) (l : Nat) : cntW as n l = ((cR as l 0 : Nat) : Int) := by
  have := ways hn hat l 0
  rw [Nat.add_zero] at this
  rw [← this]
  unfold cntW
  rw [← dot_one _ 0]
  rfl
end DL
end

section
set_option Elab.async false
set_option linter.all false
set_option autoImplicit false
set_option maxHeartbeats 400000
namespace DL
variable {as : List (Int × Int)}
/-! the order of runs -/
theorem ltI_trans : ∀ {a b c : List Int}, ltI a b = true → ltI b c = true → ltI a c = true
  | [], [], _, h, _ => by simp [ltI] at h
  | [], _ :: _, [], _, h => by simp [ltI] at h
  | [], _ :: _, _ :: _, _, _ => rfl
  | _ :: _, [], _, h, _ => by simp [ltI] at h
  | _ :: _, _ :: _, [], _, h => by simp [ltI] at h
  | x :: xs, y :: ys, z :: zs, h1, h2 => by
    unfold ltI at h1 h2 ⊢
    by_cases e1 : x = y
    · by_cases e2 : y = z
      · rw [if_pos e1] at h1; rw [if_pos e2] at h2; rw [if_pos (e1.trans e2)]; exact ltI_trans h1 h2
      · rw [if_neg e2] at h2; rw [if_neg (by omega)]; simp at h2 ⊢; omega
    · rw [if_neg e1] at h1
      simp at h1
      by_cases e2 : y = z
      · rw [if_neg (by omega)]; simp; omega
      · rw [if_neg e2] at h2; simp at h2; rw [if_neg (by omega)]; simp; omega
theorem ltI_tri : ∀ a b : List Int, ltI a b = true ∨ a = b ∨ ltI b a = true
  | [], [] => .inr (.inl rfl)
  | [], _ :: _ => .inl rfl
  | _ :: _, [] => .inr (.inr rfl)
  | x :: xs, y :: ys => by
    by_cases e : x = y
    · subst e
      rcases ltI_tri xs ys with h | h | h
      · exact .inl (by simp [ltI, h])
      · exact .inr (.inl (by rw [h]))
      · exact .inr (.inr (by simp [ltI, h]))
    · rcases Int.lt_or_gt_of_ne e with h | h
      · exact .inl (by simp [ltI, e, h])
      · exact .inr (.inr (by rw [ltI, if_neg (by omega)]; simpa using h))
theorem ltI_app : ∀ {a b : List Int} (x y : Int), ltI a b = true → a.length = b.length → ltI (a ++ [x]) (b ++ [y]) = true
  | [], [], _, _, h, _ => by simp [ltI] at h
  | [], _ :: _, _, _, _, h => by simp at h
  | _ :: _, [], _, _, _, h => by simp at h
  | p :: a, q :: b, x, y, h, hl => by
    rw [List.cons_append, List.cons_append]
    unfold ltI at h ⊢
    by_cases e : p = q
    · rw [if_pos e] at h ⊢; exact ltI_app x y h (by simpa using hl)
    · rw [if_neg e] at h ⊢; exact h
theorem ltI_end : ∀ (a : List Int) {x y : Int}, x < y → ltI (a ++ [x]) (a ++ [y]) = true
  | [], x, y, h => by simp [ltI, h]; omega
  | p :: a, x, y, h => by simp [ltI, ltI_end a h]
theorem rlt_iff {r q : List Int} : rlt r q = true ↔ r.length < q.length ∨ (r.length = q.length ∧ ltI r q = true) := by
  unfold rlt ltP
  by_cases e : (r.length : Int) = q.length
  · rw [if_pos e]
    constructor
    · intro h; exact .inr ⟨by omega, h⟩
    · rintro (h | h)
      · omega
      · exact h.2
  · rw [if_neg e]
    simp only [decide_eq_true_eq]
    constructor
    · intro h; exact .inl (by omega)
    · rintro (h | h)
      · omega
      · omega
theorem rlt_trans {a b c : List Int} (h1 : rlt a b = true) (h2 : rlt b c = true) : rlt a c = true := by
  rw [rlt_iff] at *
  rcases h1 with h1 | ⟨h1, k1⟩ <;> rcases h2 with h2 | ⟨h2, k2⟩
  · exact .inl (by omega)
  · exact .inl (by omega)
  · exact .inl (by omega)
  · exact .inr ⟨by omega, ltI_trans k1 k2⟩
theorem rlt_tri (a b : List Int) : rlt a b = true ∨ a = b ∨ rlt b a = true := by
  rw [rlt_iff, rlt_iff]
  rcases Nat.lt_trichotomy a.length b.length with h | h | h
  · exact .inl (.inl h)
  · rcases ltI_tri a b with k | k | k
    · exact .inl (.inr ⟨h, k⟩)
    · exact .inr (.inl k)
    · exact .inr (.inr (.inr ⟨h.symm, k⟩))
  · exact .inr (.inr (.inl h))
theorem rlt_irr (a : List Int) : rlt a a = false := by
  cases h : rlt a a with
  | false => rfl
  | true =>
    rw [rlt_iff] at h
    rcases h with h | ⟨_, h⟩
    · omega
    · rw [ltI_irr] at h; cases h
def rle (a b : List Int) : Prop := b = a ∨ rlt a b = true
theorem rle.refl (a : List Int) : rle a a := .inl rfl
theorem rle.trans {a b c : List Int} (h1 : rle a b) (h2 : rle b c) : rle a c := by
  rcases h1 with rfl | h1
  · exact h2
  · rcases h2 with rfl | h2
    · exact .inr h1
    · exact .inr (rlt_trans h1 h2)
theorem rle.anti {a b : List Int} (h1 : rle a b) (h2 : rle b a) : a = b := by
  rcases h1 with rfl | h1
  · rfl
  · rcases h2 with rfl | h2
    · rfl
    · have := rlt_trans h1 h2
      rw [rlt_irr] at this; cases this
theorem rle_not {a b : List Int} (h : rlt b a = false) : rle a b := by
  rcases rlt_tri a b with k | k | k
  · exact .inr k
  · exact .inl k.symm
  · rw [h] at k; cases k
theorem rlt_app {a b : List Int} (x y : Int) (h : rlt a b = true) : rlt (a ++ [x]) (b ++ [y]) = true := by
  rw [rlt_iff] at *
  simp only [List.length_append, List.length_singleton]
  rcases h with h | ⟨h, k⟩
  · exact .inl (by omega)
  · exact .inr ⟨by omega, ltI_app x y k h⟩
theorem rlt_end (a : List Int) {x y : Int} (h : x < y) : rlt (a ++ [x]) (a ++ [y]) = true := by
  rw [rlt_iff]
  exact .inr ⟨by simp, ltI_end a h⟩
theorem rle_app {a b : List Int} (x : Int) (h : rle a b) : rle (a ++ [x]) (b ++ [x]) := by
  rcases h with rfl | h
  · exact .refl _
  · exact .inr (rlt_app x x h)
theorem rle_len {a b : List Int} (h : rle a b) : a.length ≤ b.length := by
  rcases h with rfl | h
  · exact Nat.le_refl _
  · rw [rlt_iff] at h; omega
theorem Best.uniq {p : Int} {r q : List Int} (h : Best as p r) (k : Best as p q) : r = q := rle.anti (h.min q k.wk) (k.min r h.wk)
theorem Best.of {p : Int} {r : List Int} (w : Wk as r p) (h : ∀ q, Wk as q p → rle r q) : Best as p r := ⟨w, fun q hq => h q hq⟩
/-! ### going out from 0: the places in the order in which they are found, with their runs -/
/-- before arrow number x of the place at `at` -/
structure Bfs (as : List (Int × Int)) (n : Nat) (kr : List (Int × List Int)) (at_ : Nat) (x : Int) : Prop where
  first : kr[0]? = some (0, [])
  nd : (kr.map (·.1)).Nodup
  dom : ∀ p ∈ kr, 0 ≤ p.1 ∧ p.1 < n
  wk : ∀ p ∈ kr, Wk as p.2 p.1
  srt : kr.Pairwise fun p q => rlt p.2 q.2 = true
  len : ∀ (i : Nat) (p : Int × List Int), kr[i]? = some p → p.2.length ≤ i
  fr : ∀ p ∈ kr, p.2 = [] ∨ ∃ (i : Nat) (q : Int × List Int) (a : Int), kr[i]? = some q ∧ p.2 = q.2 ++ [a] ∧ (i < at_ ∨ (i = at_ ∧ a < x))
  cl : ∀ (i : Nat) (q : Int × List Int) (a : Int), kr[i]? = some q → a ∈ outs as q.1 → (i < at_ ∨ (i = at_ ∧ a < x)) → ∃ r, (hdA as a, r) ∈ kr ∧ rle r (q.2 ++ [a])
theorem Bfs.start {n : Nat} (hn : 1 ≤ n) : Bfs as n [(0, [])] 0 (-1) where
  first := rfl
  nd := by simp
  dom := fun p hp => by rw [List.mem_singleton] at hp; subst hp; exact ⟨by decide, by show (0 : Int) < n; omega⟩
  wk := fun p hp => by rw [List.mem_singleton] at hp; subst hp; exact .nil
  srt := List.pairwise_singleton _ _
  len := fun i p h => by
    match i, h with
    | 0, h => cases h; exact Nat.le_refl _
  fr := fun p hp => by rw [List.mem_singleton] at hp; subst hp; exact .inl rfl
  cl := fun i q a h ha hi => by
    rcases hi with hi | ⟨_, hi⟩
    · omega
    · have := (mem_outs.mp ha).1; omega
/-- the run of an entry is below a later one -/
theorem Bfs.le {n : Nat} {kr : List (Int × List Int)} {at_ : Nat} {x : Int} (B : Bfs as n kr at_ x) {i j : Nat} {p q : Int × List Int} (hi : kr[i]? = some p) (hj : kr[j]? = some q) (h : i ≤ j) : rle p.2 q.2 := by
  rcases Nat.eq_or_lt_of_le h with e | e
  · subst e; rw [hi] at hj; cases hj; exact .refl _
  · have hs := B.srt
    rw [List.pairwise_iff_getElem] at hs
    obtain ⟨i1, rfl⟩ := List.getElem?_eq_some_iff.mp hi
    obtain ⟨j1, rfl⟩ := List.getElem?_eq_some_iff.mp hj
    exact .inr (hs i j i1 j1 e)
theorem Bfs.below {n : Nat} {kr : List (Int × List Int)} {at_ : Nat} {x : Int} (B : Bfs as n kr at_ x) {q : Int × List Int} (hq : kr[at_]? = some q) : ∀ p ∈ kr, rlt p.2 (q.2 ++ [x]) = true := fun p hp => by
  rcases B.fr p hp with e | ⟨i, q', a, hi, e, h⟩
  · rw [e, rlt_iff]; exact .inl (by simp)
  · rw [e]
    rcases h with h | ⟨h, h2⟩
    · rcases B.le hi hq (Nat.le_of_lt h) with e2 | e2
      · have hs := B.srt
        rw [List.pairwise_iff_getElem] at hs
        obtain ⟨i1, e3⟩ := List.getElem?_eq_some_iff.mp hi
        obtain ⟨j1, e4⟩ := List.getElem?_eq_some_iff.mp hq
        have := hs i at_ i1 j1 h
        rw [e3, e4, e2, rlt_irr] at this
        cases this
      · exact rlt_app a x e2
    · subst h
      rw [hi] at hq; cases hq
      exact rlt_end _ h2
/-- the place is known already -/
theorem Bfs.known {n : Nat} {kr : List (Int × List Int)} {at_ : Nat} {x y : Int} (B : Bfs as n kr at_ x) {q : Int × List Int} (hq : kr[at_]? = some q) (hx : x ∈ outs as q.1) (hxy : x < y) (hbt : ∀ a ∈ outs as q.1, x < a → y ≤ a)
    (h : hdA as x ∈ kr.map (·.1)) : Bfs as n kr at_ y where
  first := B.first
  nd := B.nd
  dom := B.dom
  wk := B.wk
  srt := B.srt
  len := B.len
  fr := fun p hp => by
    rcases B.fr p hp with e | ⟨i, q', a, hi, e, h⟩
    · exact .inl e
    · exact .inr ⟨i, q', a, hi, e, by omega⟩
  cl := fun i q' a hi ha hh => by
    by_cases hc : i < at_ ∨ (i = at_ ∧ a < x)
    · exact B.cl i q' a hi ha hc
    · have ei : i = at_ := by omega
      subst ei
      rw [hq] at hi; cases hi
      have ea : a = x := by
        rcases Int.lt_trichotomy a x with z | z | z
        · exact absurd (.inr ⟨rfl, z⟩) hc
        · exact z
        · have := hbt a ha z; omega
      subst ea
      obtain ⟨p, hp, e⟩ := List.mem_map.mp h
      exact ⟨p.2, by rw [← e]; exact hp, .inr (B.below hq p hp)⟩
/-- the place is new -/
theorem Bfs.new {n : Nat} {kr : List (Int × List Int)} {at_ : Nat} {x y : Int} (B : Bfs as n kr at_ x) {q : Int × List Int} (hq : kr[at_]? = some q) (hx : x ∈ outs as q.1) (hxy : x < y) (hbt : ∀ a ∈ outs as q.1, x < a → y ≤ a)
    (h : hdA as x ∉ kr.map (·.1)) (hd : 0 ≤ hdA as x ∧ hdA as x < n) : Bfs as n (kr ++ [(hdA as x, q.2 ++ [x])]) at_ y := by
  have hlt : at_ < kr.length := (List.getElem?_eq_some_iff.mp hq).1
  have old : ∀ {i : Nat} {p : Int × List Int}, kr[i]? = some p → (kr ++ [(hdA as x, q.2 ++ [x])])[i]? = some p := fun {i p} e => by rw [List.getElem?_append_left (List.getElem?_eq_some_iff.mp e).1]; exact e
  have get : ∀ {i : Nat} {p : Int × List Int}, (kr ++ [(hdA as x, q.2 ++ [x])])[i]? = some p → kr[i]? = some p ∨ (i = kr.length ∧ p = (hdA as x, q.2 ++ [x])) := fun {i p} e => by
    by_cases hi : i < kr.length
    · rw [List.getElem?_append_left hi] at e; exact .inl e
    · rw [List.getElem?_append_right (by omega)] at e
      obtain ⟨h1, h2⟩ := List.getElem?_eq_some_iff.mp e
      simp at h1
      have : i = kr.length := by omega
      subst this
      simp at h2
      exact .inr ⟨rfl, h2.symm⟩
  have qw : Wk as q.2 q.1 := B.wk q (List.mem_of_getElem? hq)
  refine ⟨old B.first, ?_, fun p hp => ?_, fun p hp => ?_, ?_, fun i p e => ?_, fun p hp => ?_, fun i q' a hi ha hh => ?_⟩
  · rw [List.map_append, List.nodup_append]
    refine ⟨B.nd, by simp, fun a ha b hb => ?_⟩
    simp at hb
    subst hb
    intro e
    exact h (e ▸ ha)
  · rcases List.mem_append.mp hp with hp | hp
    · exact B.dom p hp
    · rw [List.mem_singleton] at hp; subst hp; exact hd
  · rcases List.mem_append.mp hp with hp | hp
    · exact B.wk p hp
    · rw [List.mem_singleton] at hp; subst hp; exact .snoc qw hx
  · rw [List.pairwise_append]
    refine ⟨B.srt, List.pairwise_singleton _ _, fun p hp b hb => ?_⟩
    rw [List.mem_singleton] at hb
    subst hb
    exact B.below hq p hp
  · rcases get e with e | ⟨rfl, rfl⟩
    · exact B.len i p e
    · have := B.len _ _ hq
      simp only [List.length_append, List.length_singleton]; omega
  · rcases List.mem_append.mp hp with hp | hp
    · rcases B.fr p hp with e | ⟨i, q', a, hi, e, h⟩
      · exact .inl e
      · exact .inr ⟨i, q', a, old hi, e, by omega⟩
    · rw [List.mem_singleton] at hp; subst hp
      exact .inr ⟨at_, q, x, old hq, rfl, .inr ⟨rfl, hxy⟩⟩
  · rcases get hi with e | ⟨rfl, _⟩
    · by_cases hc : i < at_ ∨ (i = at_ ∧ a < x)
      · obtain ⟨r, h1, h2⟩ := B.cl i q' a e ha hc
        exact ⟨r, List.mem_append_left _ h1, h2⟩
      · have ei : i = at_ := by omega
        subst ei
        rw [hq] at e; cases e
        have ea : a = x := by
          rcases Int.lt_trichotomy a x with z | z | z
          · exact absurd (.inr ⟨rfl, z⟩) hc
          · exact z
          · have := hbt a ha z; omega
        subst ea
        exact ⟨q.2 ++ [a], List.mem_append_right _ (List.mem_singleton.mpr rfl), .refl _⟩
    · omega
/-- all arrows of the place are through -/
theorem Bfs.next {n : Nat} {kr : List (Int × List Int)} {at_ : Nat} {x : Int} (B : Bfs as n kr at_ x) (hx : ∀ q, kr[at_]? = some q → ∀ a ∈ outs as q.1, a < x) : Bfs as n kr (at_ + 1) (-1) where
  first := B.first
  nd := B.nd
  dom := B.dom
  wk := B.wk
  srt := B.srt
  len := B.len
  fr := fun p hp => by
    rcases B.fr p hp with e | ⟨i, q', a, hi, e, h⟩
    · exact .inl e
    · exact .inr ⟨i, q', a, hi, e, .inl (by omega)⟩
  cl := fun i q' a hi ha hh => by
    have a0 := (mem_outs.mp ha).1
    by_cases hc : i < at_
    · exact B.cl i q' a hi ha (.inl hc)
    · have ei : i = at_ := by omega
      subst ei
      exact B.cl i q' a hi ha (.inr ⟨rfl, hx q' hi a ha⟩)
theorem Bfs.skip {n : Nat} {kr : List (Int × List Int)} {at_ : Nat} {x y : Int} (B : Bfs as n kr at_ x) (hxy : x ≤ y) (h : ∀ q, kr[at_]? = some q → ∀ a ∈ outs as q.1, x ≤ a → y ≤ a) : Bfs as n kr at_ y where
  first := B.first
  nd := B.nd
  dom := B.dom
  wk := B.wk
  srt := B.srt
  len := B.len
  fr := fun p hp => by
    rcases B.fr p hp with e | ⟨i, q', a, hi, e, h⟩
    · exact .inl e
    · exact .inr ⟨i, q', a, hi, e, by omega⟩
  cl := fun i q' a hi ha hh => by
    refine B.cl i q' a hi ha ?_
    rcases hh with hh | ⟨rfl, hh⟩
    · exact .inl hh
    · refine .inr ⟨rfl, ?_⟩
      rcases Int.lt_or_le a x with z | z
      · exact z
      · have := h q' hi a ha z; omega
theorem Bfs.done {n : Nat} {kr : List (Int × List Int)} {at_ : Nat} {x : Int} (B : Bfs as n kr at_ x) (h : kr.length ≤ at_) : (∀ p ∈ kr, Best as p.1 p.2) ∧ ∀ q v, Wk as q v → v ∈ kr.map (·.1) := by
  have main : ∀ q v, Wk as q v → ∃ r, (v, r) ∈ kr ∧ rle r q := fun q v w => by
    induction w with
    | nil => exact ⟨[], List.mem_of_getElem? B.first, .refl _⟩
    | snoc w ha ih =>
      obtain ⟨r, h1, h2⟩ := ih
      obtain ⟨i, hi⟩ := List.mem_iff_getElem?.mp h1
      have hil := (List.getElem?_eq_some_iff.mp hi).1
      obtain ⟨r', h3, h4⟩ := B.cl i _ _ hi ha (.inl (by omega))
      exact ⟨r', h3, h4.trans (rle_app _ h2)⟩
  refine ⟨fun p hp => .of (B.wk p hp) fun q hq => ?_, fun q v w => ?_⟩
  · obtain ⟨r, h1, h2⟩ := main q p.1 hq
    have : p = (p.1, r) := by
      have nd := B.nd
      obtain ⟨i, hi⟩ := List.mem_iff_getElem?.mp hp
      obtain ⟨j, hj⟩ := List.mem_iff_getElem?.mp h1
      have e1 : (kr.map (·.1))[i]? = some p.1 := by rw [List.getElem?_map, hi]; rfl
      have e2 : (kr.map (·.1))[j]? = some p.1 := by rw [List.getElem?_map, hj]; rfl
      have hlen : i < (kr.map (·.1)).length := (List.getElem?_eq_some_iff.mp e1).1
      have : i = j := (List.getElem?_inj hlen nd).mp (e1.trans e2.symm)
      subst this
      rw [hi] at hj; exact Option.some.inj hj
    rw [this]
    exact h2
  · obtain ⟨r, h1, _⟩ := main q v w
    exact List.mem_map.mpr ⟨_, h1, rfl⟩
theorem Reach.run (hat : ∀ p ∈ as, 0 ≤ p.1 ∧ 0 ≤ p.2) {v : Int} (h : Reach as v) : ∃ q, Wk as q v := by
  induction h with
  | zero => exact ⟨[], .nil⟩
  | @step a b _ hm ih =>
    obtain ⟨q, w⟩ := ih
    obtain ⟨i, hi⟩ := List.mem_iff_getElem?.mp hm
    have hl := (List.getElem?_eq_some_iff.mp hi).1
    have e1 : tlA as (i : Nat) = a := by unfold tlA; rw [List.getD_eq_getElem?_getD]; simp [hi]
    have e2 : hdA as (i : Nat) = b := by unfold hdA; rw [List.getD_eq_getElem?_getD]; simp [hi]
    rw [← e2]
    exact ⟨q ++ [(i : Int)], .snoc w (mem_outs.mpr ⟨by omega, by omega, e1⟩)⟩
theorem pig : ∀ (n : Nat) (xs : List Nat), xs.Nodup → (∀ a ∈ xs, a < n) → xs.length ≤ n
  | 0, [], _, _ => Nat.le_refl _
  | 0, x :: _, _, h => absurd (h x List.mem_cons_self) (Nat.not_lt_zero _)
  | n + 1, xs, nd, h => by
    have ih := pig n (xs.erase n) (nd.erase n) fun a ha => by
      have h1 := h a (List.mem_of_mem_erase ha)
      have h2 : a ≠ n := fun e => by subst e; exact (nd.not_mem_erase) ha
      omega
    by_cases hm : n ∈ xs
    · rw [List.length_erase_of_mem hm] at ih; omega
    · rw [List.erase_of_not_mem hm] at ih; omega
theorem Bfs.count {n : Nat} {kr : List (Int × List Int)} {at_ : Nat} {x : Int} (B : Bfs as n kr at_ x) : kr.length ≤ n := by
  have h : (kr.map fun p => p.1.toNat).Nodup := by
    have : (kr.map fun p => p.1.toNat) = (kr.map (·.1)).map Int.toNat := by rw [List.map_map]; rfl
    rw [this, List.nodup_iff_pairwise_ne, List.pairwise_map]
    have nd := B.nd
    rw [List.nodup_iff_pairwise_ne] at nd
    refine nd.imp_of_mem fun {a b} ha hb hne => ?_
    obtain ⟨p, hp, rfl⟩ := List.mem_map.mp ha
    obtain ⟨q, hq, rfl⟩ := List.mem_map.mp hb
    have := B.dom p hp
    have := B.dom q hq
    omega
  have := pig n _ h fun a ha => by
    obtain ⟨p, hp, rfl⟩ := List.mem_map.mp ha
    have := B.dom p hp
    omega
  rw [List.length_map] at this
  exact this
end DL
end

section
set_option Elab.async false
set_option linter.all false
set_option autoImplicit false
set_option maxHeartbeats 400000
namespace DL
variable {as : List (Int × Int)}
/-! the stack of all_runs -/
def stD (q : List Int × Int) : D := .tup [tupI q.1, .int q.2]
def restR (as : List (Int × Int)) (l : Nat) (st : List (List Int × Int)) : List (List Int) := st.reverse.flatMap fun q => rf as (l - q.1.length) q.1 q.2
def mass (as : List (Int × Int)) (l : Nat) (st : List (List Int × Int)) : Nat := (st.map fun q => nodes as (l - q.1.length) q.2).sum
theorem rest_snoc {l : Nat} {st : List (List Int × Int)} {q : List Int × Int} : restR as l (st ++ [q]) = rf as (l - q.1.length) q.1 q.2 ++ restR as l st := by
  unfold restR; rw [List.reverse_append]; simp
theorem mass_snoc {l : Nat} {st : List (List Int × Int)} {q : List Int × Int} : mass as l (st ++ [q]) = mass as l st + nodes as (l - q.1.length) q.2 := by
  unfold mass; simp
theorem mass_app {l : Nat} {st st2 : List (List Int × Int)} : mass as l (st ++ st2) = mass as l st + mass as l st2 := by
  unfold mass; simp
theorem mass_len {l : Nat} : ∀ st : List (List Int × Int), st.length ≤ mass as l st
  | [] => Nat.zero_le _
  | q :: st => by
    have ih := mass_len (l := l) st
    have := nodes_pos (as := as) (l := l - q.1.length) (p := q.2)
    unfold mass at *
    rw [List.map_cons, List.sum_cons, List.length_cons]; omega
def pushed (as : List (Int × Int)) (run : List Int) (bs : List Int) : List (List Int × Int) := bs.map fun b => (run ++ [b], hdA as b)
theorem rest_push {l : Nat} {st : List (List Int × Int)} {run : List Int} {p : Int} (h : run.length < l) : restR as l (st ++ pushed as run (outs as p).reverse) = rf as (l - run.length) run p ++ restR as l st := by
  unfold restR pushed
  rw [List.reverse_append, List.flatMap_append, ← List.map_reverse, List.reverse_reverse, List.flatMap_map]
  congr 1
  have e : l - run.length = (l - (run.length + 1)) + 1 := by omega
  rw [e]
  simp only [rf, List.length_append, List.length_singleton]
theorem sum_rev (xs : List Nat) : xs.reverse.sum = xs.sum := by
  induction xs with
  | nil => rfl
  | cons x xs ih => rw [List.reverse_cons, List.sum_append, ih]; simp; omega
theorem mass_push {l : Nat} {run : List Int} {p : Int} (h : run.length < l) : mass as l (pushed as run (outs as p).reverse) + 1 = nodes as (l - run.length) p := by
  unfold mass pushed
  rw [List.map_map, List.map_reverse, sum_rev]
  have e : l - run.length = (l - (run.length + 1)) + 1 := by omega
  rw [e]
  simp only [nodes, Function.comp_def, List.length_append, List.length_singleton]
  omega
theorem rf_nodes {l : Nat} : (rf as l [] 0).length ≤ nodes as l 0 := by rw [rf_len]; exact cR_nodes
end DL
end

section
set_option Elab.async false
set_option linter.all false
set_option maxRecDepth 100000
set_option maxHeartbeats 400000
namespace DL
open PySem PySem.Spec PyProof.Rows L2
local macro_rules | `(tactic| walk_at "dl") => `(tactic| simp only [x_C, x_V0, x_V, x_op, x_I, x_I0, x_addI, x_addT, x_B, x_And, x_Or, x_Not, x_Tru, x_AndT, x_OrT, x_NotT, x_If, x_nil, x_cons, x_Tup, x_Lst, x_LstM, x_CB, x_Chain, x_UnI, x_int, x_abs, x_lenT, x_lenL, x_listOfT, x_listOfL, x_tupOfT, x_tupOfL, x_call, x_make, x_BM, x_NoPart, x_Part, x_Sl, x_gName, x_gNil, x_gCons, x_gTup, x_next, x_brk, x_cont, x_drop, x_ret, x_retG, x_ifS, x_asg, x_raise, x_isiT, List.set_cons_zero, List.set_cons_succ, List.append_nil, x_for, x_while, x_iSeq, as_lst, as_tup, x_iRng1, x_iRng2, x_iEnum, x_lc, x_lcM, x_yes, x_Rg1, x_Rg2, x_ixT, x_ixL, x_eqI, x_neI, tr_bl, tr_int, x_gSub])
theorem e_bl {b : Bool} {p q : Prop} : (if (b = true) then p else q) = if b = true then p else q := rfl
theorem dat_check_place (K : PySem.W.Frag) (g : Str → Addr) : ∀ ds S Q E, F_check_place K g ds S Q E → rd_check_place K g (cE E) (endB Q) (startD N_check_place ds) S := fun ds S Q E h => by
  obtain ⟨cs, as, d, rfl, hG, hty, hq⟩ := h
  have e0 : startD N_check_place [chartD g cs as, d] = [some (chartD g cs as), some d] := rfl
  rw [e0]
  unfold rd_check_place
  refine x_seq fun R hR => ?_
  walk_at "dl"
  simp only [x_costs, x_lenT, x_I0, x_nil, x_call, List.append_nil, List.length_map]
  refine ⟨_, _, _, rfl, hty, ?_⟩
  by_cases hw : wholeD 0 ((cs.length : Int) - 1) d = true
  · rw [if_pos hw] at hq
    simp only [hw, tr_bl, Bool.not_true, if_ff]
    refine hR _ _ ?_
    walk_at "dl"
    exact hq
  · rw [if_neg hw] at hq
    have hw' : wholeD 0 ((cs.length : Int) - 1) d = false := by simpa using hw
    simp only [hw', tr_bl, Bool.not_false, if_tt]
    exact ⟨rfl, hq⟩
theorem dat_Chart_outs (K : PySem.W.Frag) (g : Str → Addr) : ∀ ds S Q E, F_Chart_outs K g ds S Q E → rd_Chart_outs K g (cE E) (endB Q) (startD N_Chart_outs ds) S := fun ds S Q E h => by
  obtain ⟨cs, as, p, rfl, hG, p0, p1, hq⟩ := h
  have e0 : startD N_Chart_outs [chartD g cs as, .int p] = [some (chartD g cs as), some (.int p), none, none] := rfl
  rw [e0]
  unfold rd_Chart_outs
  refine x_seq fun R hR => ?_
  walk_at "dl"
  refine ⟨cs, as, _, rfl, hG, rfl, ?_⟩
  rw [if_pos (whole_in p0 (by omega))]
  refine hR _ _ ?_
  walk_at "dl"
  simp only [x_arrows, x_nil, as_tup]
  refine ⟨fun i acc S' => acc = intL (outsN as p i) ∧ i ≤ as.length ∧ S = S', ⟨rfl, Nat.zero_le _, rfl⟩, fun _ _ _ _ _ _ _ => True.intro, ?_, ?_⟩
  · rintro i x acc _ Dd o hx ⟨rfl, hi, rfl⟩ hD
    obtain ⟨_, hd, rfl⟩ := enum_get hx
    obtain ⟨q, hqi, rfl⟩ := arr_get hd
    have hlt := (List.getElem?_eq_some_iff.mp hqi).1
    have e1 : tlA as (i : Nat) = q.1 := by unfold tlA; rw [List.getD_eq_getElem?_getD]; simp [hqi]
    have ew : wipeD [some (chartD g cs as), some (.int p), none, none] [2, 3] = [some (chartD g cs as), some (.int p), none, none] := rfl
    simp only [ew, x_gTup, x_gCons, x_gNil, x_gName, List.set_cons_zero, List.set_cons_succ]
    refine ⟨rfl, ?_⟩
    walk_at "dl"
    simp only [at2_0, x_eqI, ieq]
    rw [outsN_succ, e1]
    have hl : (intL (outsN as p i)).length < sizeLine := by
      rw [List.length_map, sizeLine_eq]
      have := outsN_len (as := as) (p := p) (i := i)
      have := hG.a1
      omega
    by_cases hp : q.1 = p
    · simp only [hp, decide_true, if_true]
      exact ⟨hl, updS_same, by simp only [intL, List.map_append, List.map_cons, List.map_nil], hlt, (delS_upd hD).symm⟩
    · simp only [hp, decide_false, if_false, if_ff]
      exact ⟨updS_same, trivial, hlt, (delS_upd hD).symm⟩
  · rintro acc _ ⟨rfl, _, rfl⟩
    rw [enum_len, arr_len]
    exact hq
end DL
end

section
set_option Elab.async false
set_option linter.all false
set_option maxRecDepth 100000
set_option maxHeartbeats 400000
namespace DL
open PySem PySem.Spec PyProof.Rows L2
local macro_rules | `(tactic| walk_at "dl") => `(tactic| simp only [x_C, x_V0, x_V, x_op, x_I, x_I0, x_addI, x_addT, x_B, x_And, x_Or, x_Not, x_Tru, x_AndT, x_OrT, x_NotT, x_If, x_nil, x_cons, x_Tup, x_Lst, x_LstM, x_CB, x_Chain, x_UnI, x_int, x_abs, x_lenT, x_lenL, x_listOfT, x_listOfL, x_tupOfT, x_tupOfL, x_call, x_make, x_BM, x_NoPart, x_Part, x_Sl, x_gName, x_gNil, x_gCons, x_gTup, x_next, x_brk, x_cont, x_drop, x_ret, x_retG, x_ifS, x_asg, x_raise, x_isiT, List.set_cons_zero, List.set_cons_succ, List.append_nil, x_for, x_while, x_iSeq, as_lst, as_tup, x_iRng1, x_iRng2, x_iEnum, x_lc, x_lcM, x_yes, x_Rg1, x_Rg2, x_ixT, x_ixL, x_eqI, x_neI, tr_bl, tr_int, x_gSub])
theorem upd_upd {S : Sto} {a : Addr} {o o' : O} : updS (updS S a o) a o' = updS S a o' := by
  funext b; unfold updS; split <;> rfl
theorem sub_upd {S : Sto} {a : Addr} {o : O} (ha : S a = none) : ∀ b u, S b = some u → updS S a o b = some u := fun b u e => by
  have : b ≠ a := fun z => by subst z; rw [ha] at e; cases e
  rw [updS_ne this]; exact e
theorem hd_of {as : List (Int × Int)} {b : Int} {q : Int × Int} (h : as[b.toNat]? = some q) : hdA as b = q.2 := by unfold hdA; rw [List.getD_eq_getElem?_getD, h]; rfl
theorem hd_dom {cs : List Int} {as : List (Int × Int)} (hG : Good cs as) {b p : Int} (h : b ∈ outs as p) : 0 ≤ hdA as b ∧ hdA as b < cs.length := by
  obtain ⟨b0, b1, _⟩ := mem_outs.mp h
  have hb : as[b.toNat]? = some as[b.toNat] := List.getElem?_eq_getElem (by omega)
  rw [hd_of hb]
  have := hG.at_ _ (List.mem_of_getElem? hb)
  omega
theorem fa_outs {K : PySem.W.Frag} {g : Str → Addr} {cs : List Int} {as : List (Int × Int)} {p : Int} {S : Sto} {Q : DV} {E : DX} (hG : Good cs as) (p0 : 0 ≤ p) (p1 : p < cs.length) (hq : Q (tupI (outs as p)) S) : F_Chart_outs K g [chartD g cs as, .int p] S Q E := ⟨cs, as, p, rfl, hG, p0, p1, hq⟩
theorem dat_all_runs (K : PySem.W.Frag) (g : Str → Addr) : ∀ ds S Q E, F_all_runs K g ds S Q E → rd_all_runs K g (cE E) (endG Q) [] (startD N_all_runs ds) S := fun ds S Q E h => by
  obtain ⟨cs, as, d, rfl, hG, hty, hq⟩ := h
  have e0 : startD N_all_runs [chartD g cs as, d] = [some (chartD g cs as), some d, none, none, none, none] := rfl
  rw [e0]
  unfold rd_all_runs
  refine x_gThen fun R hR => ?_
  rw [x_gPlain]
  walk_at "dl"
  refine ⟨_, _, _, rfl, hty, ?_⟩
  by_cases hw : wholeD 0 12 d = true
  case neg =>
    rw [if_neg hw] at hq
    have hw' : wholeD 0 12 d = false := by simpa using hw
    simp only [hw', tr_bl, Bool.not_false, if_tt]
    exact ⟨rfl, hq⟩
  rw [if_pos hw] at hq
  obtain ⟨l, rfl, hn, hq⟩ := hq
  obtain ⟨_, e12, _, l12⟩ := whole_of hw
  cases e12
  simp only [hw, tr_bl, Bool.not_true, if_ff]
  refine hR _ _ _ ?_
  refine x_gThen fun R hR => ?_
  rw [x_gPlain]
  walk_at "dl"
  refine ⟨by rw [sizeLine_eq]; simp, by rw [sizeLine_eq]; simp, by rw [sizeLine_eq]; simp, fun a ha => ?_⟩
  refine hR _ _ _ ?_
  refine x_gThen fun R hR => ?_
  rw [x_gWhile]
  refine ⟨fun m ys env S' => ∃ (st : List (List Int × Int)) (yr : List (List Int)) (x3 x4 x5 : Option D), env = [some (chartD g cs as), some (.int l), some (.raw a), x3, x4, x5] ∧ S' = updS S a (.lst (st.map stD)) ∧ ys = yr.map tupI ∧ m = mass as l st ∧
    (∀ q ∈ st, q.1.length ≤ l ∧ 0 ≤ q.2 ∧ q.2 < cs.length) ∧ yr ++ restR as l st = rf as l [] 0 ∧ mass as l st ≤ nodes as l 0, ⟨_, [([], 0)], [], none, none, none, rfl, rfl, rfl, rfl, ?_, ?_, ?_⟩, ?_⟩
  · intro q hq; rw [List.mem_singleton] at hq; subst hq
    have := hG.n0
    exact ⟨Nat.zero_le _, by decide, by show (0 : Int) < _; omega⟩
  · simp [restR]
  · simp [mass]
  rintro m ys env S' ⟨st, yr, x3, x4, x5, rfl, rfl, rfl, rfl, hst, hre, hm⟩
  walk_at "dl"
  rw [tr_raw updS_same]
  rcases List.eq_nil_or_concat st with rfl | ⟨st0, q, rfl⟩
  · simp only [List.map_nil, List.isEmpty_nil, Bool.not_true, if_ff]
    refine hR _ _ _ ?_
    rw [x_g0]
    refine ⟨S, sub_upd ha, ?_⟩
    have : yr = rf as l [] 0 := by rw [← hre]; simp [restR]
    rw [this]
    exact hq
  rw [List.concat_eq_append] at *
  have hne : (!((st0 ++ [q]).map stD).isEmpty) = true := by simp
  rw [hne]
  dsimp only
  rw [if_tt]
  obtain ⟨q1, q2, q3⟩ := hst q (List.mem_append_right _ (List.mem_singleton.mpr rfl))
  obtain ⟨run, p⟩ := q
  simp only at q1 q2 q3
  rw [rest_snoc] at hre
  rw [mass_snoc] at hm
  simp only at hre hm
  have hstl := mass_len (as := as) (l := l) st0
  refine x_gThen fun R2 hR2 => ?_
  rw [x_gPlain]
  walk_at "dl"
  rw [x_pop (es := st0.map stD) (y := stD (run, p)) (by rw [updS_same, List.map_append]; rfl), upd_upd]
  simp only [asl_raw updS_same, Option.isSome_some, true_and, show stD (run, p) = .tup [tupI run, .int p] from rfl]
  simp only [x_gTup, x_gCons, x_gNil, x_gName, List.set_cons_zero, List.set_cons_succ]
  refine ⟨rfl, ?_⟩
  refine hR2 _ _ _ ?_
  refine x_gThen fun R3 hR3 => ?_
  rw [x_gIfS]
  walk_at "dl"
  simp only [x_lenT, x_eqI, ieq, List.length_map]
  by_cases hl : run.length = l
  · rw [if_pos (by simp [hl])]
    refine x_gThen fun R4 hR4 => ?_
    rw [x_gYield]
    walk_at "dl"
    have e1 : rf as (l - run.length) run p = [run] := by rw [hl, Nat.sub_self]; rfl
    have e2 : nodes as (l - run.length) p = 1 := by rw [hl, Nat.sub_self]; rfl
    rw [e1] at hre
    rw [e2] at hm
    refine ⟨?_, ?_⟩
    · have h1 := congrArg List.length hre
      have h2 := rf_nodes (as := as) (l := l)
      simp only [List.length_append, List.length_map, List.length_singleton] at h1 ⊢
      rw [sizeLine_eq]; omega
    refine hR4 _ _ _ ?_
    rw [x_g0]
    refine hR3 _ _ _ ?_
    rw [x_g0]
    refine ⟨mass as l st0, by rw [mass_snoc, e2]; omega, st0, yr ++ [run], _, _, _, rfl, rfl, ?_, rfl, fun q hq => hst q (List.mem_append_left _ hq), ?_, by omega⟩
    · simp only [List.map_append, List.map_cons, List.map_nil]
    · rw [List.append_assoc]; exact hre
  · rw [if_neg (by simp only [decide_eq_true_eq]; omega)]
    have hl' : run.length < l := by omega
    have mp := mass_push (as := as) (run := run) (p := p) hl'
    refine x_gThen fun R4 hR4 => ?_
    rw [x_gPlain]
    walk_at "dl"
    simp only [x_iRev, x_meth, x_V, x_V0, x_nil, x_cons]
    refine ⟨_, rfl, rfl, fa_outs hG q2 q3 ?_⟩
    simp only [as_tup]
    have len2 : ∀ i, i ≤ (outs as p).reverse.length → (st0 ++ pushed as run ((outs as p).reverse.take i)).length < 16777216 := fun i hi => by
      have h1 := mass_len (as := as) (l := l) (pushed as run (outs as p).reverse)
      have mp2 := mp
      unfold pushed at h1 mp2 ⊢
      rw [List.length_map] at h1
      rw [List.length_append, List.length_map, List.length_take]
      omega
    refine ⟨fun i env S' => ∃ x5, env = [some (chartD g cs as), some (.int l), some (.raw a), some (tupI run), some (.int p), x5] ∧ S' = updS S a (.lst ((st0 ++ pushed as run ((outs as p).reverse.take i)).map stD)) ∧ i ≤ (outs as p).reverse.length,
      ⟨_, rfl, by simp [pushed], Nat.zero_le _⟩, fun _ _ _ _ => True.intro, ?_, ?_⟩
    · rintro i x _ _ hx ⟨x5, rfl, rfl, hi⟩
      rw [← List.map_reverse] at hx
      obtain ⟨b, hb, rfl⟩ := getElem_map hx
      have hlt := (List.getElem?_eq_some_iff.mp hb).1
      obtain ⟨b0, b1, _⟩ := mem_outs.mp (List.mem_reverse.mp (List.mem_of_getElem? hb))
      obtain ⟨q, hq1, hat⟩ := arr_at (as := as) b0 b1
      simp only [x_gName, List.set_cons_zero, List.set_cons_succ]
      walk_at "dl"
      simp only [asl_raw updS_same, Option.isSome_some, true_and, x_arrows, x_op, x_ixT, hat, at2_1, x_addT, x_append (own_raw updS_same), upd_upd]
      have h3 := len2 i (Nat.le_of_lt hlt)
      refine ⟨by rw [sizeLine_eq]; simp, by rw [sizeLine_eq, List.length_map, List.length_singleton]; omega, by rw [sizeLine_eq]; simp, by rw [List.length_map, sizeLine_eq]; exact h3, _, rfl, ?_, hlt⟩
      congr 2
      have e3 : pushed as run ((outs as p).reverse.take (i + 1)) = pushed as run ((outs as p).reverse.take i) ++ [(run ++ [b], hdA as b)] := by
        unfold pushed
        rw [take_succ' hb, List.map_append]
        rfl
      rw [e3, ← List.append_assoc, List.map_append (l₂ := [(run ++ [b], hdA as b)]), hd_of hq1]
      simp only [List.map_cons, List.map_nil, stD, List.map_append, tupI]
    · rintro _ _ ⟨x5, rfl, rfl, hi⟩
      refine hR4 _ _ _ ?_
      rw [x_g0]
      refine hR3 _ _ _ ?_
      rw [x_g0]
      have et : (outs as p).reverse.take ((outs as p).map D.int).reverse.length = (outs as p).reverse := by rw [List.length_reverse, List.length_map, ← List.length_reverse (as := outs as p), List.take_length]
      rw [et]
      have mn : mass as l (st0 ++ pushed as run (outs as p).reverse) + 1 = mass as l st0 + nodes as (l - run.length) p := by rw [mass_app]; omega
      refine ⟨mass as l (st0 ++ pushed as run (outs as p).reverse), by rw [mass_snoc]; simp only; omega, st0 ++ pushed as run (outs as p).reverse, yr, _, _, _, rfl, rfl, rfl, rfl, fun q hq => ?_, ?_, by omega⟩
      · rcases List.mem_append.mp hq with hq | hq
        · exact hst q (List.mem_append_left _ hq)
        · unfold pushed at hq
          obtain ⟨b, hb, rfl⟩ := List.mem_map.mp hq
          have := hd_dom hG (List.mem_reverse.mp hb)
          refine ⟨?_, this⟩
          simp only [List.length_append, List.length_singleton]; omega
      · rw [rest_push hl']; exact hre
end DL
end

section
set_option Elab.async false
set_option linter.all false
set_option maxRecDepth 100000
set_option maxHeartbeats 400000
namespace DL
open PySem PySem.Spec PyProof.Rows L2
local macro_rules | `(tactic| walk_at "dl") => `(tactic| simp only [x_C, x_V0, x_V, x_op, x_I, x_I0, x_addI, x_addT, x_B, x_And, x_Or, x_Not, x_Tru, x_AndT, x_OrT, x_NotT, x_If, x_nil, x_cons, x_Tup, x_Lst, x_LstM, x_CB, x_Chain, x_UnI, x_int, x_abs, x_lenT, x_lenL, x_listOfT, x_listOfL, x_tupOfT, x_tupOfL, x_call, x_make, x_BM, x_NoPart, x_Part, x_Sl, x_gName, x_gNil, x_gCons, x_gTup, x_next, x_brk, x_cont, x_drop, x_ret, x_retG, x_ifS, x_asg, x_raise, x_isiT, List.set_cons_zero, List.set_cons_succ, List.append_nil, x_for, x_while, x_iSeq, as_lst, as_tup, x_iRng1, x_iRng2, x_iEnum, x_lc, x_lcM, x_yes, x_Rg1, x_Rg2, x_ixT, x_ixL, x_eqI, x_neI, tr_bl, tr_int, x_gSub])
theorem x_sumI {S : Sto} {Q : DV} {is : List Int} : rSum' [.lst (intL is)] S Q = Q (.int is.sum) S := by
  unfold rSum'
  simp only [asl_lst, Option.bind_some, intL, intsOf_ints]
theorem set_ints {xs : List Int} {i : Nat} {a : Int} : (intL xs).set i (.int a) = intL (xs.set i a) := by simp only [intL, List.map_set]
theorem num_at {w : List Int} {i : Int} (h0 : 0 ≤ i) (h1 : i < w.length) : atI (intL w) i = some (.int (w.getD i.toNat 0)) := by
  have h : i.toNat < w.length := by omega
  rw [atI_ok h0 (by rw [List.length_map]; exact h1), List.getElem?_map, List.getElem?_eq_getElem h, List.getD_eq_getElem?_getD, List.getElem?_eq_getElem h]
  rfl
theorem ix_in {w : List D} {i : Int} (h0 : 0 ≤ i) (h1 : i < w.length) : ixN w.length i = some i.toNat := by unfold ixN; rw [if_pos h0, if_pos h1]
def wFold (w : List Int) (bs : List (Int × Int)) : List Int := bs.foldl (fun m p => m.set p.2.toNat (m.getD p.2.toNat 0 + w.getD p.1.toNat 0)) (List.replicate w.length 0)
theorem wFold_step {w : List Int} {as : List (Int × Int)} {j : Nat} {q : Int × Int} (h : as[j]? = some q) : wFold w (as.take (j + 1)) = (wFold w (as.take j)).set q.2.toNat ((wFold w (as.take j)).getD q.2.toNat 0 + w.getD q.1.toNat 0) := by
  unfold wFold
  rw [take_succ' h, List.foldl_append]
  rfl
theorem wFold_len {w : List Int} {bs : List (Int × Int)} : (wFold w bs).length = w.length := by unfold wFold; rw [fold_len, List.length_replicate]
theorem rep_z (n : Nat) : (List.replicate n [D.int 0]).flatten = intL (List.replicate n 0) := by
  induction n with
  | zero => rfl
  | succ n ih => rw [List.replicate_succ, List.flatten_cons, ih]; rfl
theorem dat_count_runs (K : PySem.W.Frag) (g : Str → Addr) : ∀ ds S Q E, F_count_runs K g ds S Q E → rd_count_runs K g (cE E) (endB Q) (startD N_count_runs ds) S := fun ds S Q E h => by
  obtain ⟨cs, as, d, rfl, hG, hty, hq⟩ := h
  have e0 : startD N_count_runs [chartD g cs as, d] = [some (chartD g cs as), some d, none, none, none, none, none] := rfl
  rw [e0]
  have n0 := hG.n0
  have n1 := hG.n1
  unfold rd_count_runs
  refine x_seq fun R hR => ?_
  walk_at "dl"
  refine ⟨_, _, _, rfl, hty, ?_⟩
  by_cases hw : wholeD 0 100 d = true
  case neg =>
    rw [if_neg hw] at hq
    have hw' : wholeD 0 100 d = false := by simpa using hw
    simp only [hw', tr_bl, Bool.not_false, if_tt]
    exact ⟨rfl, hq⟩
  rw [if_pos hw] at hq
  obtain ⟨l, rfl, hq⟩ := hq
  obtain ⟨_, e12, _, l12⟩ := whole_of hw
  cases e12
  simp only [hw, tr_bl, Bool.not_true, if_ff]
  refine hR _ _ ?_
  refine x_seq fun R hR => ?_
  walk_at "dl"
  simp only [x_costs, x_lenT, x_I0, rRepL', asl_lst, List.length_map, x_addL, rep_z, show ((cs.length : Int) - 1).toNat = cs.length - 1 by omega]
  refine ⟨by rw [sizeLine_eq]; simp, by rw [sizeLine_eq]; simp, by omega, by omega, by rw [sizeLine_eq]; simp; omega, by rw [sizeLine_eq]; simp; omega, hR _ _ ?_⟩
  refine x_seq fun R hR => ?_
  walk_at "dl"
  have ew0 : [D.int 1] ++ intL (List.replicate (cs.length - 1) 0) = intL (wIter as cs.length 0) := rfl
  rw [ew0]
  refine ⟨by omega, by omega, fun i env S' => ∃ x3 x4 x5 x6, env = [some (chartD g cs as), some (.int l), some (.lst (intL (wIter as cs.length i))), x3, x4, x5, x6] ∧ S = S', ⟨_, _, _, _, rfl, rfl⟩, fun _ _ _ _ => True.intro, ?_, ?_⟩
  · rintro i x _ _ hi ⟨x3, x4, x5, x6, rfl, rfl⟩
    obtain ⟨hlt, rfl⟩ := rng_get hi
    have wl := wIter_len (as := as) n0 i
    simp only [x_gName, List.set_cons_zero, List.set_cons_succ]
    refine x_seq fun R2 hR2 => ?_
    walk_at "dl"
    simp only [x_lenL, rRepLM', asl_lst, List.length_map, rep_z, Int.toNat_natCast, wl]
    refine ⟨by rw [sizeLine_eq]; simp, by omega, by omega, by rw [sizeLine_eq]; simp; omega, fun a ha => hR2 _ _ ?_⟩
    refine x_seq fun R2 hR2 => ?_
    walk_at "dl"
    simp only [x_arrows, as_tup]
    refine ⟨fun j env S' => ∃ x5 x6, env = [some (chartD g cs as), some (.int l), some (.lst (intL (wIter as cs.length i))), some (.int (0 + (i : Nat))), some (.raw a), x5, x6] ∧ S' = updS S a (.lst (intL (wFold (wIter as cs.length i) (as.take j)))), ⟨_, _, rfl, ?_⟩, fun _ _ _ _ => True.intro, ?_, ?_⟩
    · unfold wFold; rw [wl]; rfl
    · rintro j x _ _ hx ⟨x5, x6, rfl, rfl⟩
      obtain ⟨q, hq1, rfl⟩ := arr_get hx
      obtain ⟨a0, a1, a2, a3⟩ := hG.at_ q (List.mem_of_getElem? hq1)
      have fl := wFold_len (w := wIter as cs.length i) (bs := as.take j)
      simp only [x_gTup, x_gCons, x_gNil, x_gName, List.set_cons_zero, List.set_cons_succ]
      refine ⟨rfl, ?_⟩
      walk_at "dl"
      have g1 : asQ (updS S a (.lst (intL (wFold (wIter as cs.length i) (as.take j))))) (.raw a) = some (intL (wFold (wIter as cs.length i) (as.take j))) := as_raw updS_same
      simp only [rIx', g1, as_lst, num_at a2 (show q.2 < (wFold (wIter as cs.length i) (as.take j)).length by omega), num_at a0 (show q.1 < (wIter as cs.length i).length by omega), x_addI, own_raw updS_same, ix_in a2 (show q.2 < (intL (wFold (wIter as cs.length i) (as.take j))).length by rw [List.length_map]; omega), upd_upd, set_ints]
      exact ⟨_, _, rfl, by rw [wFold_step hq1]⟩
    · rintro _ _ ⟨x5, x6, rfl, rfl⟩
      rw [arr_len, List.take_length]
      refine hR2 _ _ ?_
      rw [x_gh]
      refine ⟨_, S, (Gh.freeze (i := 4) rfl updS_same).trans (Gh.weak fun b u e => by rw [delS_upd ha]; exact e), ?_⟩
      simp only [List.set_cons_zero, List.set_cons_succ]
      walk_at "dl"
      exact ⟨_, _, _, _, rfl, by first | rfl | trivial⟩
  · rintro _ _ ⟨x3, x4, x5, x6, rfl, rfl⟩
    rw [rng_len]
    refine hR _ _ ?_
    walk_at "dl"
    simp only [x_sumI]
    rw [Int.toNat_natCast]
    exact hq
end DL
end

section
set_option Elab.async false
set_option linter.all false
set_option maxRecDepth 100000
set_option maxHeartbeats 400000
namespace DL
open PySem PySem.Spec PyProof.Rows L2
local macro_rules | `(tactic| walk_at "dl") => `(tactic| simp only [x_C, x_V0, x_V, x_op, x_I, x_I0, x_addI, x_addT, x_B, x_And, x_Or, x_Not, x_Tru, x_AndT, x_OrT, x_NotT, x_If, x_nil, x_cons, x_Tup, x_Lst, x_LstM, x_CB, x_Chain, x_UnI, x_int, x_abs, x_lenT, x_lenL, x_listOfT, x_listOfL, x_tupOfT, x_tupOfL, x_call, x_make, x_BM, x_NoPart, x_Part, x_Sl, x_gName, x_gNil, x_gCons, x_gTup, x_next, x_brk, x_cont, x_drop, x_ret, x_retG, x_ifS, x_asg, x_raise, x_isiT, List.set_cons_zero, List.set_cons_succ, List.append_nil, x_for, x_while, x_iSeq, as_lst, as_tup, x_iRng1, x_iRng2, x_iEnum, x_lc, x_lcM, x_yes, x_Rg1, x_Rg2, x_ixT, x_ixL, x_eqI, x_neI, tr_bl, tr_int, x_gSub])
theorem dat_law_counts (K : PySem.W.Frag) (g : Str → Addr) : ∀ ds S Q E, F_law_counts K g ds S Q E → rd_law_counts K g (cE E) (endB Q) (startD N_law_counts ds) S := fun ds S Q E h => by
  obtain ⟨cs, as, l, rfl, hG, l0, hq⟩ := h
  have e0 : startD N_law_counts [arrs as, .int (cs.length : Int), .int (l : Int)] = [some (arrs as), some (.int (cs.length : Int)), some (.int (l : Int)), none, none, none, none, none, none] := rfl
  rw [e0]
  have n0 := hG.n0
  have n1 := hG.n1
  unfold rd_law_counts
  refine x_seq fun R hR => ?_
  walk_at "dl"
  simp only [x_I0, rRepL', asl_lst, x_addL, rep_z, show ((cs.length : Int) - 1).toNat = cs.length - 1 by omega]
  refine ⟨by rw [sizeLine_eq]; simp, by rw [sizeLine_eq]; simp, by omega, by omega, by rw [sizeLine_eq]; simp; omega, by rw [sizeLine_eq]; simp; omega, hR _ _ ?_⟩
  refine x_seq fun R hR => ?_
  walk_at "dl"
  have ew0 : [D.int 1] ++ intL (List.replicate (cs.length - 1) 0) = intL (wIter as cs.length 0) := rfl
  rw [ew0]
  refine ⟨by rw [sizeLine_eq]; simp, fun b hb => hR _ _ ?_⟩
  refine x_seq fun R hR => ?_
  walk_at "dl"
  have sum0 : ∀ n : Nat, (List.replicate n (0 : Int)).sum = 0 := fun n => by
    induction n with
    | zero => rfl
    | succ n ih => rw [List.replicate_succ, List.sum_cons, ih]; rfl
  refine ⟨by omega, by omega, fun i env S' => ∃ x5 x6 x7 x8, env = [some (arrs as), some (.int (cs.length : Int)), some (.int (l : Int)), some (.lst (intL (wIter as cs.length i))), some (.raw b), x5, x6, x7, x8] ∧ S' = updS S b (.lst (intL ((List.range (i + 1)).map (cntW as cs.length)))), ⟨_, _, _, _, rfl, ?_⟩, fun _ _ _ _ => True.intro, ?_, ?_⟩
  · have : cntW as cs.length 0 = 1 := by
      unfold cntW wIter
      rw [List.sum_cons, sum0]; rfl
    rw [show (List.range (0 + 1)).map (cntW as cs.length) = [cntW as cs.length 0] from rfl, this]
    rfl
  · rintro i x _ _ hi ⟨x5, x6, x7, x8, rfl, rfl⟩
    obtain ⟨hlt, rfl⟩ := rng_get hi
    have wl := wIter_len (as := as) n0 i
    generalize hcl : (List.range (i + 1)).map (cntW as cs.length) = cl
    have hclen : cl.length = i + 1 := by rw [← hcl]; simp
    simp only [x_gName, List.set_cons_zero, List.set_cons_succ]
    refine x_seq fun R2 hR2 => ?_
    walk_at "dl"
    simp only [rRepLM', asl_lst, rep_z, Int.toNat_natCast]
    refine ⟨by rw [sizeLine_eq]; simp, by omega, by omega, by rw [sizeLine_eq]; simp; omega, fun a ha => hR2 _ _ ?_⟩
    have hab : a ≠ b := fun z => by subst z; rw [updS_same] at ha; cases ha
    refine x_seq fun R2 hR2 => ?_
    walk_at "dl"
    try simp only [as_tup]
    refine ⟨fun j env S' => ∃ x7 x8, env = [some (arrs as), some (.int (cs.length : Int)), some (.int (l : Int)), some (.lst (intL (wIter as cs.length i))), some (.raw b), some (.int (0 + (i : Nat))), some (.raw a), x7, x8] ∧ S' = updS (updS S b (.lst (intL cl))) a (.lst (intL (wFold (wIter as cs.length i) (as.take j)))), ⟨_, _, rfl, ?_⟩, fun _ _ _ _ => True.intro, ?_, ?_⟩
    · unfold wFold; rw [wl]; rfl
    · rintro j x _ _ hx ⟨x5, x6, rfl, rfl⟩
      obtain ⟨q, hq1, rfl⟩ := arr_get hx
      obtain ⟨a0, a1, a2, a3⟩ := hG.at_ q (List.mem_of_getElem? hq1)
      have fl := wFold_len (w := wIter as cs.length i) (bs := as.take j)
      simp only [x_gTup, x_gCons, x_gNil, x_gName, List.set_cons_zero, List.set_cons_succ]
      refine ⟨rfl, ?_⟩
      walk_at "dl"
      have g1 : asQ (updS (updS S b (.lst (intL cl))) a (.lst (intL (wFold (wIter as cs.length i) (as.take j))))) (.raw a) = some (intL (wFold (wIter as cs.length i) (as.take j))) := as_raw updS_same
      simp only [rIx', g1, as_lst, num_at a2 (show q.2 < (wFold (wIter as cs.length i) (as.take j)).length by omega), num_at a0 (show q.1 < (wIter as cs.length i).length by omega), x_addI, own_raw updS_same, ix_in a2 (show q.2 < (intL (wFold (wIter as cs.length i) (as.take j))).length by rw [List.length_map]; omega), upd_upd, set_ints]
      exact ⟨_, _, rfl, by rw [wFold_step hq1]⟩
    · rintro _ _ ⟨x5, x6, rfl, rfl⟩
      rw [arr_len, List.take_length]
      refine hR2 _ _ ?_
      rw [x_gh]
      refine ⟨_, updS S b (.lst (intL cl)), (Gh.freeze (i := 6) rfl updS_same).trans (Gh.weak fun c u e => by rw [delS_upd ha]; exact e), ?_⟩
      simp only [List.set_cons_zero, List.set_cons_succ]
      refine x_seq fun R3 hR3 => ?_
      walk_at "dl"
      refine hR3 _ _ ?_
      walk_at "dl"
      have ew1 : wFold (wIter as cs.length i) as = wIter as cs.length (i + 1) := rfl
      simp only [asl_raw updS_same, Option.isSome_some, true_and, x_sumI, x_append (own_raw updS_same), upd_upd, ew1]
      refine ⟨by rw [List.length_map, sizeLine_eq]; omega, _, _, _, _, rfl, ?_⟩
      rw [← hcl, List.range_succ (n := i + 1), List.map_append]
      simp only [intL, List.map_append, List.map_cons, List.map_nil, cntW]
  · rintro _ _ ⟨x5, x6, x7, x8, rfl, rfl⟩
    rw [rng_len]
    refine hR _ _ ?_
    walk_at "dl"
    refine ⟨.lst (intL ((List.range (l + 1)).map (cntW as cs.length))), S, (GhR.freeze updS_same).trans (GhR.weak fun c u e => by rw [delS_upd hb]; exact e), hq⟩
end DL
end

section
set_option Elab.async false
set_option linter.all false
set_option maxRecDepth 100000
set_option maxHeartbeats 400000
namespace DL
open PySem PySem.Spec PyProof.Rows L2
local macro_rules | `(tactic| walk_at "dl") => `(tactic| simp only [x_C, x_V0, x_V, x_op, x_I, x_I0, x_addI, x_addT, x_B, x_And, x_Or, x_Not, x_Tru, x_AndT, x_OrT, x_NotT, x_If, x_nil, x_cons, x_Tup, x_Lst, x_LstM, x_CB, x_Chain, x_UnI, x_int, x_abs, x_lenT, x_lenL, x_listOfT, x_listOfL, x_tupOfT, x_tupOfL, x_call, x_make, x_BM, x_NoPart, x_Part, x_Sl, x_gName, x_gNil, x_gCons, x_gTup, x_next, x_brk, x_cont, x_drop, x_ret, x_retG, x_ifS, x_asg, x_raise, x_isiT, List.set_cons_zero, List.set_cons_succ, List.append_nil, x_for, x_while, x_iSeq, as_lst, as_tup, x_iRng1, x_iRng2, x_iEnum, x_lc, x_lcM, x_yes, x_Rg1, x_Rg2, x_ixT, x_ixL, x_eqI, x_neI, tr_bl, tr_int, x_gSub, x_dget, x_din, x_dput, x_disp1])
def kvD (kr : List (Int × List Int)) : List (Key × D) := kr.map fun p => ((Sum.inl p.1 : Key), tupI p.2)
def ordD (kr : List (Int × List Int)) : List D := intL (kr.map (·.1))
def st2 (S : Sto) (a b : Addr) (kr : List (Int × List Int)) : Sto := updS (updS S a (.dk (kvD kr))) b (.lst (ordD kr))
theorem val_none {kr : List (Int × List Int)} {v : Int} (h : v ∉ kr.map (·.1)) : valK (kvD kr) (.inl v) = none := by
  unfold valK kvD
  rw [Option.map_eq_none_iff, List.find?_eq_none]
  rintro x hx
  obtain ⟨p, hp, rfl⟩ := List.mem_map.mp hx
  simp only [decide_eq_true_eq]
  intro e
  exact h (List.mem_map.mpr ⟨p, hp, by simpa using e⟩)
theorem val_some : ∀ {kr : List (Int × List Int)} {v : Int} {r : List Int}, (kr.map (·.1)).Nodup → (v, r) ∈ kr → valK (kvD kr) (.inl v) = some (tupI r)
  | [], _, _, _, h => by cases h
  | p :: kr, v, r, nd, h => by
    rw [List.map_cons, List.nodup_cons] at nd
    rcases List.mem_cons.mp h with e | h
    · subst e; simp [valK, kvD]
    · have hne : p.1 ≠ v := fun e => nd.1 (List.mem_map.mpr ⟨(v, r), h, e.symm⟩)
      have ih := val_some nd.2 h
      unfold valK kvD at *
      rw [List.map_cons, List.find?_cons]
      have : decide ((Sum.inl p.1 : Key) = .inl v) = false := by simp [hne]
      simp only [this]
      exact ih
theorem put_new {kr : List (Int × List Int)} {v : Int} {r : List Int} (h : v ∉ kr.map (·.1)) : putKD (kvD kr) (.inl v) (tupI r) = kvD (kr ++ [(v, r)]) := by
  unfold putKD
  rw [if_neg]
  · unfold kvD; rw [List.map_append]; rfl
  · unfold kvD
    rw [List.any_map, List.any_eq_true]
    rintro ⟨p, hp, e⟩
    simp only [Function.comp_apply, decide_eq_true_eq] at e
    exact h (List.mem_map.mpr ⟨p, hp, by simpa using e⟩)
theorem st2_a {S : Sto} {a b : Addr} {kr : List (Int × List Int)} (h : a ≠ b) : st2 S a b kr a = some (.dk (kvD kr)) := by unfold st2; rw [updS_ne h, updS_same]
theorem st2_b {S : Sto} {a b : Addr} {kr : List (Int × List Int)} : st2 S a b kr b = some (.lst (ordD kr)) := updS_same
theorem st2_put {S : Sto} {a b : Addr} {kr kr' : List (Int × List Int)} (h : a ≠ b) : updS (updS (st2 S a b kr) a (.dk (kvD kr'))) b (.lst (ordD kr')) = st2 S a b kr' := by
  unfold st2
  funext c
  unfold updS
  by_cases h1 : c = b
  · simp [h1]
  · by_cases h2 : c = a
    · simp [h1, h2]
    · simp [h1, h2]
theorem st2_sub {S : Sto} {a b : Addr} {kr : List (Int × List Int)} {o : O} (ha : S a = none) (hb : updS S a o b = none) : ∀ c u, S c = some u → st2 S a b kr c = some u := fun c u e => by
  have h1 : c ≠ a := fun z => by subst z; rw [ha] at e; cases e
  have h2 : c ≠ b := fun z => by subst z; rw [updS_ne h1] at hb; rw [hb] at e; cases e
  unfold st2
  rw [updS_ne h2, updS_ne h1]; exact e
/-- the number of the arrow that comes next -/
def bnd (as : List (Int × Int)) (t : Int) (j : Nat) : Int := ((outs as t)[j]?).getD as.length
theorem bnd_zero {as : List (Int × Int)} {t : Int} : -1 ≤ bnd as t 0 ∧ ∀ a ∈ outs as t, -1 ≤ a → bnd as t 0 ≤ a := by
  unfold bnd
  have hs := outs_lt (as := as) (p := t)
  cases e : outs as t with
  | nil => exact ⟨by simp, by simp⟩
  | cons x l =>
    rw [e] at hs
    have hx := (mem_outs (as := as) (p := t) (a := x)).mp (by rw [e]; exact List.mem_cons_self)
    refine ⟨by simp; omega, fun a ha _ => ?_⟩
    simp only [List.getElem?_cons_zero, Option.getD_some]
    rcases List.mem_cons.mp ha with rfl | ha
    · omega
    · have := List.rel_of_pairwise_cons hs ha; omega
theorem bnd_step {as : List (Int × Int)} {t x : Int} {j : Nat} (h : (outs as t)[j]? = some x) : bnd as t j = x ∧ x < bnd as t (j + 1) ∧ ∀ a ∈ outs as t, x < a → bnd as t (j + 1) ≤ a := by
  have hs := outs_lt (as := as) (p := t)
  rw [List.pairwise_iff_getElem] at hs
  obtain ⟨hj, rfl⟩ := List.getElem?_eq_some_iff.mp h
  have hx := mem_outs.mp (List.mem_of_getElem? h)
  refine ⟨by unfold bnd; rw [h]; rfl, ?_, fun a ha hlt => ?_⟩
  · unfold bnd
    by_cases h1 : j + 1 < (outs as t).length
    · rw [List.getElem?_eq_getElem h1]; exact hs j (j + 1) hj h1 (by omega)
    · rw [List.getElem?_eq_none (by omega)]; exact hx.2.1
  · obtain ⟨i, hi⟩ := List.mem_iff_getElem?.mp ha
    obtain ⟨hil, rfl⟩ := List.getElem?_eq_some_iff.mp hi
    have hij : j < i := by
      rcases Nat.lt_trichotomy i j with z | z | z
      · have := hs i j hil hj z; omega
      · subst z; omega
      · exact z
    unfold bnd
    rw [List.getElem?_eq_getElem (by omega)]
    simp only [Option.getD_some]
    rcases Nat.lt_or_ge (j + 1) i with z | z
    · have := hs (j + 1) i (by omega) hil z; omega
    · have : j + 1 = i := by omega
      subst this
      exact Int.le_refl _
theorem bnd_end {as : List (Int × Int)} {t : Int} {j : Nat} (h : (outs as t).length ≤ j) : bnd as t j = as.length := by unfold bnd; rw [List.getElem?_eq_none h]; rfl
theorem dat_run_to (K : PySem.W.Frag) (g : Str → Addr) : ∀ ds S Q E, F_run_to K g ds S Q E → rd_run_to K g (cE E) (endB Q) (startD N_run_to ds) S := fun ds S Q E h => by
  obtain ⟨cs, as, d, rfl, hG, hty, hq⟩ := h
  have e0 : startD N_run_to [chartD g cs as, d] = [some (chartD g cs as), some d, none, none, none, none, none, none] := rfl
  rw [e0]
  have n0 := hG.n0
  have n1 := hG.n1
  unfold rd_run_to
  refine x_seq fun R hR => ?_
  walk_at "dl"
  refine ⟨cs, as, d, rfl, hG, hty, ?_⟩
  by_cases hw : wholeD 0 ((cs.length : Int) - 1) d = true
  case neg =>
    rw [if_neg hw] at hq ⊢
    exact hq
  rw [if_pos hw] at hq ⊢
  obtain ⟨p, rfl, hq⟩ := hq
  obtain ⟨_, e12, p0, p1⟩ := whole_of hw
  cases e12
  refine hR _ _ ?_
  refine x_seq fun R hR => ?_
  walk_at "dl"
  intro a ha
  refine ⟨by rw [sizeLine_eq]; simp, updS_same, _, rfl, ?_⟩
  rw [upd_upd]
  refine hR _ _ ?_
  refine x_seq fun R hR => ?_
  walk_at "dl"
  refine ⟨by rw [sizeLine_eq]; simp, fun b hb => hR _ _ ?_⟩
  have hab : a ≠ b := fun z => by subst z; rw [updS_same] at hb; cases hb
  refine x_seq fun R hR => ?_
  walk_at "dl"
  refine hR _ _ ?_
  refine x_seq fun R hR => ?_
  rw [x_while]
  have run0 : ∀ i : Int, 0 ≤ i → i < cs.length → ∃ q, Wk as q i := fun i h0 h1 => (hG.all i h0 h1).run fun p hp => ⟨(hG.at_ p hp).1, (hG.at_ p hp).2.2.1⟩
  refine ⟨fun m env S' => ∃ (kr : List (Int × List Int)) (at_ : Nat) (x5 x6 x7 : Option D), env = [some (chartD g cs as), some (.int p), some (.raw a), some (.raw b), some (.int (at_ : Nat)), x5, x6, x7] ∧ S' = st2 S a b kr ∧ Bfs as cs.length kr at_ (-1) ∧ m = cs.length - at_,
    ⟨_, [(0, [])], 0, none, none, none, rfl, rfl, .start n0, rfl⟩, ?_⟩
  rintro m env S' ⟨kr, at_, x5, x6, x7, rfl, rfl, B, rfl⟩
  have hcnt := B.count
  have olen : (ordD kr).length = kr.length := by unfold ordD; simp
  walk_at "dl"
  simp only [x_len (as_raw st2_b), olen, x_I0]
  by_cases hlt : at_ < kr.length
  · rw [if_pos (by simpa using hlt)]
    obtain ⟨⟨t, r0⟩, hat⟩ : ∃ q, kr[at_]? = some q := ⟨_, List.getElem?_eq_getElem hlt⟩
    obtain ⟨t0, t1⟩ := B.dom _ (List.mem_of_getElem? hat)
    have r0l := B.len _ _ hat
    simp only at t0 t1 r0l
    have ho : atI (ordD kr) (at_ : Int) = some (.int t) := by
      rw [atI_ok (by omega) (by rw [olen]; omega), Int.toNat_natCast]
      unfold ordD intL
      rw [List.getElem?_map, List.getElem?_map, hat]
      rfl
    refine x_seq fun R2 hR2 => ?_
    walk_at "dl"
    simp only [rIx', as_raw st2_b, ho]
    refine hR2 _ _ ?_
    refine x_seq fun R2 hR2 => ?_
    walk_at "dl"
    simp only [x_meth, x_V, x_V0, x_nil, x_cons]
    refine ⟨_, rfl, rfl, fa_outs hG t0 t1 ?_⟩
    try simp only [as_tup]
    refine ⟨fun j env S' => ∃ (kr' : List (Int × List Int)) (x6 x7 : Option D), env = [some (chartD g cs as), some (.int p), some (.raw a), some (.raw b), some (.int (at_ : Nat)), some (.int t), x6, x7] ∧ S' = st2 S a b kr' ∧ Bfs as cs.length kr' at_ (bnd as t j) ∧ kr'[at_]? = some (t, r0),
      ⟨kr, _, _, rfl, rfl, ?_, hat⟩, fun _ _ _ _ => True.intro, ?_, ?_⟩
    · obtain ⟨b1, b2⟩ := bnd_zero (as := as) (t := t)
      exact B.skip b1 fun q hq => by rw [hat] at hq; cases hq; exact b2
    · rintro j x _ _ hx ⟨kr', x6, x7, rfl, rfl, B', hat'⟩
      obtain ⟨y, hy, rfl⟩ := getElem_map hx
      obtain ⟨c1, c2, c3⟩ := bnd_step hy
      rw [c1] at B'
      have ym := List.mem_of_getElem? hy
      obtain ⟨y0, y1, _⟩ := mem_outs.mp ym
      obtain ⟨q, hq1, hqat⟩ := arr_at (as := as) y0 y1
      have hcnt' := B'.count
      have olen' : (ordD kr').length = kr'.length := by unfold ordD; simp
      simp only [x_gName, List.set_cons_zero, List.set_cons_succ]
      refine x_seq fun R3 hR3 => ?_
      walk_at "dl"
      simp only [x_arrows, x_ixT, hqat, at2_1]
      refine hR3 _ _ ?_
      rw [← hd_of hq1]
      walk_at "dl"
      refine ⟨_, _, (by simp only [dkOf, st2_a hab] : dkOf _ _ = some (kvD kr')), rfl, ?_⟩
      by_cases hk : hdA as y ∈ kr'.map (·.1)
      · obtain ⟨⟨v, r⟩, hm, e⟩ := List.mem_map.mp hk
        simp only at e
        have hv := val_some B'.nd hm
        rw [e] at hv
        simp only [hv, Option.isSome_some, bne_self_eq_false, if_ff]
        exact ⟨kr', _, _, rfl, rfl, B'.known hat' ym c2 c3 hk, hat'⟩
      · simp only [val_none hk, Option.isSome_none, bne, beq_iff_eq, Bool.true_eq_false, Bool.not_false, if_true, show (true == false) = false from rfl]
        refine x_seq fun R3 hR3 => ?_
        walk_at "dl"
        refine ⟨_, _, _, (by simp only [dkOf, st2_a hab] : dkOf _ _ = some (kvD kr')), rfl, val_some B'.nd (List.mem_of_getElem? hat'), ?_⟩
        simp only [x_addT]
        refine ⟨by rw [sizeLine_eq]; simp, by rw [sizeLine_eq, List.length_map, List.length_singleton]; omega, a, kvD kr', _, rfl, st2_a hab, rfl, by rw [sizeLine_eq]; unfold kvD; rw [List.length_map]; omega, ?_⟩
        have ep : putKD (kvD kr') (.inl (hdA as y)) (.tup (r0.map D.int ++ [D.int y])) = kvD (kr' ++ [(hdA as y, r0 ++ [y])]) := by
          rw [← put_new hk]; simp only [tupI, List.map_append, List.map_cons, List.map_nil]
        rw [ep]
        refine hR3 _ _ ?_
        walk_at "dl"
        have eb : updS (st2 S a b kr') a (.dk (kvD (kr' ++ [(hdA as y, r0 ++ [y])]))) b = some (.lst (ordD kr')) := by rw [updS_ne (Ne.symm hab)]; exact st2_b
        simp only [asl_raw eb, Option.isSome_some, true_and, x_append (own_raw eb)]
        have eo : ordD kr' ++ [D.int (hdA as y)] = ordD (kr' ++ [(hdA as y, r0 ++ [y])]) := by unfold ordD; simp only [intL, List.map_append, List.map_cons, List.map_nil]
        rw [eo, st2_put hab]
        refine ⟨by rw [sizeLine_eq, olen']; omega, kr' ++ [(hdA as y, r0 ++ [y])], _, _, rfl, rfl, B'.new hat' ym c2 c3 hk (hd_dom hG ym), ?_⟩
        rw [List.getElem?_append_left (List.getElem?_eq_some_iff.mp hat').1]
        exact hat'
    · rintro _ _ ⟨kr', x6, x7, rfl, rfl, B', hat'⟩
      rw [bnd_end (by rw [List.length_map]; exact Nat.le_refl _)] at B'
      refine hR2 _ _ ?_
      rw [x_augI (a := at_) rfl]
      walk_at "dl"
      have hc := B'.count
      refine ⟨cs.length - (at_ + 1), by omega, kr', at_ + 1, _, _, _, rfl, rfl, B'.next fun q hq y hy => ?_, rfl⟩
      rw [hat'] at hq; cases hq
      exact (mem_outs.mp hy).2.1
  · rw [if_neg (by simpa using hlt)]
    refine hR _ _ ?_
    obtain ⟨d1, d2⟩ := B.done (by omega)
    obtain ⟨q, wq⟩ := run0 p p0 (by omega)
    obtain ⟨⟨v, r⟩, hm, e⟩ := List.mem_map.mp (d2 q p wq)
    simp only at e
    subst e
    walk_at "dl"
    refine ⟨_, _, _, (by simp only [dkOf, st2_a hab] : dkOf _ _ = some (kvD kr)), rfl, val_some B.nd hm, _, S, GhR.weak (st2_sub ha hb), hq r (d1 _ hm)⟩
end DL
end

section
set_option Elab.async false
set_option linter.all false
set_option maxRecDepth 100000
set_option maxHeartbeats 400000
namespace DL
open PySem PySem.Spec PyProof.Rows L2
local macro_rules | `(tactic| walk_at "dl") => `(tactic| simp only [x_C, x_V0, x_V, x_op, x_I, x_I0, x_addI, x_addT, x_B, x_And, x_Or, x_Not, x_Tru, x_AndT, x_OrT, x_NotT, x_If, x_nil, x_cons, x_Tup, x_Lst, x_LstM, x_CB, x_Chain, x_UnI, x_int, x_abs, x_lenT, x_lenL, x_listOfT, x_listOfL, x_tupOfT, x_tupOfL, x_call, x_make, x_BM, x_NoPart, x_Part, x_Sl, x_gName, x_gNil, x_gCons, x_gTup, x_next, x_brk, x_cont, x_drop, x_ret, x_retG, x_ifS, x_asg, x_raise, x_isiT, List.set_cons_zero, List.set_cons_succ, List.append_nil, x_for, x_while, x_iSeq, as_lst, as_tup, x_iRng1, x_iRng2, x_iEnum, x_lc, x_lcM, x_yes, x_Rg1, x_Rg2, x_ixT, x_ixL, x_eqI, x_neI, tr_bl, tr_int, x_gSub])
/-! going out from 0 comes to an end -/
theorem bfs_row {cs : List Int} {as : List (Int × Int)} (hG : Good cs as) {kr : List (Int × List Int)} {at_ : Nat} {t : Int} {r0 : List Int} (B : Bfs as cs.length kr at_ (-1)) (hat : kr[at_]? = some (t, r0)) : ∀ j, j ≤ (outs as t).length → ∃ kr', Bfs as cs.length kr' at_ (bnd as t j) ∧ kr'[at_]? = some (t, r0)
  | 0, _ => by
    obtain ⟨b1, b2⟩ := bnd_zero (as := as) (t := t)
    exact ⟨kr, B.skip b1 (fun q hq => by rw [hat] at hq; cases hq; exact b2), hat⟩
  | j + 1, hj => by
    obtain ⟨kr', B', hat'⟩ := bfs_row hG B hat j (by omega)
    have hy : (outs as t)[j]? = some (outs as t)[j] := List.getElem?_eq_getElem (by omega)
    obtain ⟨c1, c2, c3⟩ := bnd_step hy
    rw [c1] at B'
    have ym := List.mem_of_getElem? hy
    by_cases hk : hdA as (outs as t)[j] ∈ kr'.map (·.1)
    · exact ⟨kr', B'.known hat' ym c2 c3 hk, hat'⟩
    · refine ⟨_, B'.new hat' ym c2 c3 hk (hd_dom hG ym), ?_⟩
      rw [List.getElem?_append_left (List.getElem?_eq_some_iff.mp hat').1]
      exact hat'
theorem bfs_ex {cs : List Int} {as : List (Int × Int)} (hG : Good cs as) : ∀ (m : Nat) (kr : List (Int × List Int)) (at_ : Nat), Bfs as cs.length kr at_ (-1) → m = cs.length - at_ → ∃ kr' at', Bfs as cs.length kr' at' (-1) ∧ kr'.length ≤ at' := fun m => by
  induction m using Nat.strongRecOn with
  | ind m ih =>
    intro kr at_ B e
    by_cases h : kr.length ≤ at_
    · exact ⟨kr, at_, B, h⟩
    · have hc := B.count
      obtain ⟨⟨t, r0⟩, hat⟩ : ∃ q, kr[at_]? = some q := ⟨_, List.getElem?_eq_getElem (by omega)⟩
      obtain ⟨kr', B', hat'⟩ := bfs_row hG B hat _ (Nat.le_refl _)
      rw [bnd_end (Nat.le_refl _)] at B'
      exact ih (cs.length - (at_ + 1)) (by omega) kr' (at_ + 1) (B'.next fun q hq y hy => by
        rw [hat'] at hq; cases hq
        exact (mem_outs.mp hy).2.1) rfl
theorem best_ex {cs : List Int} {as : List (Int × Int)} (hG : Good cs as) {v : Int} (h0 : 0 ≤ v) (h1 : v < cs.length) : ∃ r, Best as v r ∧ r.length ≤ cs.length := by
  obtain ⟨kr, at_, B, hle⟩ := bfs_ex hG _ _ _ (.start hG.n0) rfl
  obtain ⟨d1, d2⟩ := B.done hle
  obtain ⟨q, wq⟩ := (hG.all v h0 h1).run fun p hp => ⟨(hG.at_ p hp).1, (hG.at_ p hp).2.2.1⟩
  obtain ⟨⟨u, r⟩, hm, e⟩ := List.mem_map.mp (d2 q v wq)
  simp only at e
  subst e
  obtain ⟨i, hi⟩ := List.mem_iff_getElem?.mp hm
  have h3 := (List.getElem?_eq_some_iff.mp hi).1
  have h4 := B.len _ _ hi
  have h5 := B.count
  exact ⟨r, d1 _ hm, by simp only at h4; omega⟩
/-! the law's rounds -/
def LeB (bs : List (Option (List Int))) (v : Int) (q : List Int) : Prop := ∃ r, bs[v.toNat]? = some (some r) ∧ rle r q
structure BFv (as : List (Int × Int)) (n : Nat) (bs : List (Option (List Int))) (k : Nat) (j : Int) : Prop where
  len : bs.length = n
  wk : ∀ (v : Nat) (r : List Int), bs[v]? = some (some r) → Wk as r v
  lo : ∀ q v, Wk as q v → q.length ≤ k → LeB bs v q
  hi : ∀ q t a, Wk as q t → a ∈ outs as t → q.length ≤ k → a < j → LeB bs (hdA as a) (q ++ [a])
  rl : ∀ (v : Nat) (r : List Int), bs[v]? = some (some r) → (r.length : Int) ≤ 33 * k + j
theorem Wk.dom {cs : List Int} {as : List (Int × Int)} (hG : Good cs as) {r : List Int} {e : Int} (w : Wk as r e) : 0 ≤ e ∧ e < cs.length := by
  cases w with
  | nil => have := hG.n0; omega
  | snoc w h => exact hd_dom hG h
theorem LeB.set {bs : List (Option (List Int))} {h v : Int} {o q : List Int} (hv : 0 ≤ v) (hh : 0 ≤ h) (hb : h < bs.length) (l : LeB bs v q) (hlt : ∀ r, bs[h.toNat]? = some (some r) → rle o r) : LeB (bs.set h.toNat (some o)) v q := by
  obtain ⟨r, h1, h2⟩ := l
  by_cases e : v = h
  · subst e
    refine ⟨o, ?_, (hlt r h1).trans h2⟩
    rw [List.getElem?_set_self (by omega)]
  · refine ⟨r, ?_, h2⟩
    rw [List.getElem?_set_ne (by omega)]; exact h1
theorem BFv.start {cs : List Int} {as : List (Int × Int)} (hG : Good cs as) : BFv as cs.length ((List.replicate cs.length none).set 0 (some [])) 0 0 where
  len := by simp
  wk := fun v r h => by
    by_cases e : v = 0
    · subst e
      have n0 := hG.n0
      rw [List.getElem?_set_self (by simp; omega)] at h
      cases h; exact .nil
    · rw [List.getElem?_set_ne (by omega)] at h
      have := List.eq_of_mem_replicate (List.mem_of_getElem? h)
      cases this
  lo := fun q v w h => by
    cases w with
    | nil => exact ⟨[], by have n0 := hG.n0; rw [show (0 : Int).toNat = 0 from rfl, List.getElem?_set_self (by simp; omega)], .refl _⟩
    | snoc w h2 => rw [List.length_append, List.length_singleton] at h; omega
  hi := fun q t a _ ha _ hlt => by have := (mem_outs.mp ha).1; omega
  rl := fun v r h => by
    by_cases e : v = 0
    · subst e
      have n0 := hG.n0
      rw [List.getElem?_set_self (by simp; omega)] at h
      cases h; simp
    · rw [List.getElem?_set_ne (by omega)] at h
      have := List.eq_of_mem_replicate (List.mem_of_getElem? h)
      cases this
/-- the arrow changes nothing -/
theorem BFv.keep {cs : List Int} {as : List (Int × Int)} {bs : List (Option (List Int))} {k : Nat} {j : Int} (hG : Good cs as) (B : BFv as cs.length bs k j) (h : ∀ rt, j ∈ outs as (tlA as j) → bs[(tlA as j).toNat]? = some (some rt) → ∃ r, bs[(hdA as j).toNat]? = some (some r) ∧ rle r (rt ++ [j])) : BFv as cs.length bs k (j + 1) where
  len := B.len
  wk := B.wk
  lo := B.lo
  rl := fun v r e => by have := B.rl v r e; omega
  hi := fun q t a w ha hk hj => by
    rcases Int.lt_or_le a j with z | z
    · exact B.hi q t a w ha hk z
    · have : a = j := by omega
      subst this
      have ht := (mem_outs.mp ha).2.2
      obtain ⟨rt, h1, h2⟩ := B.lo q t w hk
      rw [ht] at h
      obtain ⟨r, h3, h4⟩ := h rt ha h1
      exact ⟨r, h3, h4.trans (rle_app _ h2)⟩
/-- the arrow gives a better run -/
theorem BFv.put {cs : List Int} {as : List (Int × Int)} {bs : List (Option (List Int))} {k : Nat} {j : Int} {rt : List Int} (hG : Good cs as) (B : BFv as cs.length bs k j) (hj : j ∈ outs as (tlA as j)) (ht : bs[(tlA as j).toNat]? = some (some rt))
    (h : ∀ r, bs[(hdA as j).toNat]? = some (some r) → rle (rt ++ [j]) r) : BFv as cs.length (bs.set (hdA as j).toNat (some (rt ++ [j]))) k (j + 1) := by
  have wt : Wk as rt (tlA as j) := by
    have := B.wk _ _ ht
    have hm := mem_outs.mp hj
    have d : 0 ≤ tlA as j := by
      have hb : as[j.toNat]? = some as[j.toNat] := List.getElem?_eq_getElem (by omega)
      have := hG.at_ _ (List.mem_of_getElem? hb)
      unfold tlA; rw [List.getD_eq_getElem?_getD, hb]; exact this.1
    rw [Int.toNat_of_nonneg d] at this
    exact this
  have dh := hd_dom hG hj
  have bl := B.len
  refine ⟨by rw [List.length_set]; exact B.len, fun v r e => ?_, fun q v w hk => (B.lo q v w hk).set (w.dom hG).1 dh.1 (by omega) h, fun q t a w ha hk ha2 => ?_, fun v r e => ?_⟩
  · by_cases ev : v = (hdA as j).toNat
    · subst ev
      rw [List.getElem?_set_self (by omega)] at e
      cases e
      rw [Int.toNat_of_nonneg dh.1]
      exact .snoc wt hj
    · rw [List.getElem?_set_ne (by omega)] at e
      exact B.wk v r e
  · rcases Int.lt_or_le a j with z | z
    · exact (B.hi q t a w ha hk z).set (hd_dom hG ha).1 dh.1 (by omega) h
    · have : a = j := by omega
      subst this
      have ht2 := (mem_outs.mp ha).2.2
      obtain ⟨rt2, h1, h2⟩ := B.lo q t w hk
      rw [ht2, h1] at ht
      cases ht
      exact ⟨_, by rw [List.getElem?_set_self (by omega)], rle_app _ h2⟩
  · by_cases ev : v = (hdA as j).toNat
    · subst ev
      rw [List.getElem?_set_self (by omega)] at e
      cases e
      have := B.rl _ _ ht
      rw [List.length_append, List.length_singleton]; omega
    · rw [List.getElem?_set_ne (by omega)] at e
      have := B.rl v r e
      omega
/-- a round is through -/
theorem BFv.round {cs : List Int} {as : List (Int × Int)} {bs : List (Option (List Int))} {k : Nat} (hG : Good cs as) (B : BFv as cs.length bs k as.length) : BFv as cs.length bs (k + 1) 0 where
  len := B.len
  wk := B.wk
  rl := fun v r e => by have := B.rl v r e; have := hG.a1; omega
  lo := fun q v w hk => by
    cases w with
    | nil => exact B.lo [] 0 .nil (Nat.zero_le _)
    | @snoc r t a w ha => exact B.hi r t a w ha (by rw [List.length_append, List.length_singleton] at hk; omega) (mem_outs.mp ha).2.1
  hi := fun q t a _ ha _ hlt => by have := (mem_outs.mp ha).1; omega
theorem BFv.fin {cs : List Int} {as : List (Int × Int)} {bs : List (Option (List Int))} (hG : Good cs as) (B : BFv as cs.length bs cs.length 0) : ∃ rs : List (List Int), bs = rs.map some ∧ rs.length = cs.length ∧ ∀ (i : Nat) (r : List Int), rs[i]? = some r → Best as i r := by
  have key : ∀ v : Nat, v < cs.length → ∃ r, bs[v]? = some (some r) ∧ Best as v r := fun v hv => by
    obtain ⟨r, hb, hl⟩ := best_ex hG (v := (v : Int)) (by omega) (by omega)
    obtain ⟨r', h1, h2⟩ := B.lo r v hb.wk hl
    rw [Int.toNat_natCast] at h1
    have h3 := hb.min r' (B.wk v r' h1)
    have : r' = r := rle.anti h2 h3
    subst this
    exact ⟨r', h1, hb⟩
  have bl := B.len
  refine ⟨bs.map fun o => o.getD [], ?_, by rw [List.length_map]; exact bl, fun i r e => ?_⟩
  · rw [List.map_map]
    refine List.ext_getElem? fun i => ?_
    rw [List.getElem?_map]
    by_cases hi : i < bs.length
    · obtain ⟨r, h1, _⟩ := key i (by omega)
      rw [h1]; rfl
    · rw [List.getElem?_eq_none (by omega)]; rfl
  · rw [List.getElem?_map] at e
    obtain ⟨o, h1, h2⟩ := Option.map_eq_some_iff.mp e
    have hi := (List.getElem?_eq_some_iff.mp h1).1
    obtain ⟨r', h3, h4⟩ := key i (by omega)
    rw [h3] at h1
    cases h1
    cases h2
    exact h4
end DL
end

section
set_option Elab.async false
set_option linter.all false
set_option maxRecDepth 100000
set_option maxHeartbeats 400000
namespace DL
open PySem PySem.Spec PyProof.Rows L2
local macro_rules | `(tactic| walk_at "dl") => `(tactic| simp only [x_C, x_V0, x_V, x_op, x_I, x_I0, x_addI, x_addT, x_B, x_And, x_Or, x_Not, x_Tru, x_AndT, x_OrT, x_NotT, x_If, x_nil, x_cons, x_Tup, x_Lst, x_LstM, x_CB, x_Chain, x_UnI, x_int, x_abs, x_lenT, x_lenL, x_listOfT, x_listOfL, x_tupOfT, x_tupOfL, x_call, x_make, x_BM, x_NoPart, x_Part, x_Sl, x_gName, x_gNil, x_gCons, x_gTup, x_next, x_brk, x_cont, x_drop, x_ret, x_retG, x_ifS, x_asg, x_raise, x_isiT, List.set_cons_zero, List.set_cons_succ, List.append_nil, x_for, x_while, x_iSeq, as_lst, as_tup, x_iRng1, x_iRng2, x_iEnum, x_lc, x_lcM, x_yes, x_Rg1, x_Rg2, x_ixT, x_ixL, x_eqI, x_neI, tr_bl, tr_int, x_gSub])
def optR : Option (List Int) → D
  | none => .non
  | some r => tupI r
theorem isN_opt (o : Option (List Int)) : isNon (optR o) = o.isNone := by cases o <;> rfl
theorem x_notN {x : D} {S : Sto} {Q : DV} : rNotN' x .non S Q = Q (.bl (!isNon x)) S := rfl
theorem opt_at {bs : List (Option (List Int))} {i : Int} {o : Option (List Int)} (h0 : 0 ≤ i) (h : bs[i.toNat]? = some o) : atI (bs.map optR) i = some (optR o) := by
  have h1 := (List.getElem?_eq_some_iff.mp h).1
  rw [atI_ok h0 (by rw [List.length_map]; omega), List.getElem?_map, h]
  rfl
theorem rep_non (n : Nat) : (List.replicate n [D.non]).flatten = (List.replicate n (none : Option (List Int))).map optR := by
  induction n with
  | zero => rfl
  | succ n ih => rw [List.replicate_succ, List.flatten_cons, ih]; rfl
theorem x_ltP {n m : Int} {ns ms : List Int} {S : Sto} {Q : DV} (h : Q (.bl (ltP n ns m ms)) S) : rLtP' (.tup [.int n, tupI ns]) (.tup [.int m, tupI ms]) S Q := ⟨n, m, ns, ms, rfl, rfl, h⟩
theorem dat_law_best_runs (K : PySem.W.Frag) (g : Str → Addr) : ∀ ds S Q E, F_law_best_runs K g ds S Q E → rd_law_best_runs K g (cE E) (endB Q) (startD N_law_best_runs ds) S := fun ds S Q E h => by
  obtain ⟨cs, as, rfl, hG, hq⟩ := h
  have e0 : startD N_law_best_runs [arrs as, .int (cs.length : Int)] = [some (arrs as), some (.int (cs.length : Int)), none, none, none, none, none, none] := rfl
  rw [e0]
  have n0 := hG.n0
  have n1 := hG.n1
  have a1 := hG.a1
  unfold rd_law_best_runs
  refine x_seq fun R hR => ?_
  walk_at "dl"
  simp only [rRepLM', asl_lst, rep_non, Int.toNat_natCast]
  refine ⟨by rw [sizeLine_eq]; simp, by omega, by omega, by rw [sizeLine_eq]; simp; omega, fun a ha => hR _ _ ?_⟩
  refine x_seq fun R hR => ?_
  walk_at "dl"
  simp only [own_raw updS_same, ix_in (show (0 : Int) ≤ 0 by decide) (show (0 : Int) < ((List.replicate cs.length (none : Option (List Int))).map optR).length by simp; omega), upd_upd]
  refine ⟨by rw [sizeLine_eq]; simp, hR _ _ ?_⟩
  have es : ((List.replicate cs.length (none : Option (List Int))).map optR).set (0 : Int).toNat (.tup []) = ((List.replicate cs.length none).set 0 (some [])).map optR := by rw [List.map_set]; rfl
  rw [es]
  refine x_seq fun R hR => ?_
  walk_at "dl"
  refine ⟨by omega, by omega, fun k env S' => ∃ (bs : List (Option (List Int))) (x3 x4 x5 x6 x7 : Option D), env = [some (arrs as), some (.int (cs.length : Int)), some (.raw a), x3, x4, x5, x6, x7] ∧ S' = updS S a (.lst (bs.map optR)) ∧ BFv as cs.length bs k 0, ⟨_, _, _, _, _, _, rfl, rfl, .start hG⟩, fun _ _ _ _ => True.intro, ?_, ?_⟩
  · rintro k x _ _ hi ⟨bs, x3, x4, x5, x6, x7, rfl, rfl, B⟩
    obtain ⟨hlt, rfl⟩ := rng_get hi
    simp only [x_gName, List.set_cons_zero, List.set_cons_succ]
    walk_at "dl"
    simp only [x_lenT, arr_len]
    refine ⟨by omega, by omega, fun j env S' => ∃ (bs : List (Option (List Int))) (x4 x5 x6 x7 : Option D), env = [some (arrs as), some (.int (cs.length : Int)), some (.raw a), some (.int (0 + (k : Nat))), x4, x5, x6, x7] ∧ S' = updS S a (.lst (bs.map optR)) ∧ BFv as cs.length bs k (j : Nat), ⟨bs, _, _, _, _, rfl, rfl, B⟩, fun _ _ _ _ => True.intro, ?_, ?_⟩
    · rintro j x _ _ hi ⟨bs, x4, x5, x6, x7, rfl, rfl, B⟩
      obtain ⟨hlj, rfl⟩ := rng_get hi
      have hl2 : j < as.length := by omega
      simp only [Int.zero_add]
      obtain ⟨q, hq1, hqat⟩ := arr_at (as := as) (j := (j : Int)) (by omega) (by omega)
      rw [Int.toNat_natCast] at hq1
      obtain ⟨q0, q1, q2, q3⟩ := hG.at_ q (List.mem_of_getElem? hq1)
      have bl := B.len
      have et : tlA as (j : Nat) = q.1 := by unfold tlA; rw [List.getD_eq_getElem?_getD, Int.toNat_natCast, hq1]; rfl
      have eh : hdA as (j : Nat) = q.2 := by unfold hdA; rw [List.getD_eq_getElem?_getD, Int.toNat_natCast, hq1]; rfl
      have jm : (j : Int) ∈ outs as q.1 := mem_outs.mpr ⟨by omega, by omega, et⟩
      have keep : (∀ rt, bs[q.1.toNat]? = some (some rt) → ∃ r, bs[q.2.toNat]? = some (some r) ∧ rle r (rt ++ [(j : Int)])) → BFv as cs.length bs k ((j + 1 : Nat) : Int) := fun h => B.keep hG fun rt hm e => by rw [et] at e; rw [eh]; exact h rt e
      obtain ⟨ot, hot⟩ : ∃ o, bs[q.1.toNat]? = some o := ⟨_, List.getElem?_eq_getElem (by omega)⟩
      obtain ⟨oh, hoh⟩ : ∃ o, bs[q.2.toNat]? = some o := ⟨_, List.getElem?_eq_getElem (by omega)⟩
      simp only [x_gName, List.set_cons_zero, List.set_cons_succ]
      refine x_seq fun R2 hR2 => ?_
      walk_at "dl"
      try simp only [hqat, x_gTup, x_gCons, x_gNil, x_gName, List.set_cons_zero, List.set_cons_succ]
      refine ⟨rfl, hR2 _ _ ?_⟩
      walk_at "dl"
      simp only [rIx', as_raw updS_same, opt_at q0 hot, x_notN, isN_opt]
      cases ot with
      | none =>
        simp only [Option.isNone_none, Bool.not_true, if_ff]
        exact ⟨bs, _, _, _, _, rfl, rfl, keep fun rt e => by rw [hot] at e; cases e⟩
      | some rt =>
        simp only [Option.isNone_some, Bool.not_false, if_true]
        refine x_seq fun R3 hR3 => ?_
        walk_at "dl"
        simp only [rIx', as_raw updS_same, opt_at q0 hot, optR, x_addT]
        have rtl := B.rl _ _ hot
        refine ⟨by rw [sizeLine_eq]; simp, by rw [sizeLine_eq, List.length_map, List.length_singleton]; omega, hR3 _ _ ?_⟩
        have er : rt.map D.int ++ [D.int (j : Int)] = (rt ++ [(j : Int)]).map D.int := by simp only [List.map_append, List.map_cons, List.map_nil]
        rw [er]
        have put : (∀ r, bs[q.2.toNat]? = some (some r) → rle (rt ++ [(j : Int)]) r) → BFv as cs.length (bs.set q.2.toNat (some (rt ++ [(j : Int)]))) k ((j + 1 : Nat) : Int) := fun h => by
          have := B.put hG (by rw [et]; exact jm) (by rw [et]; exact hot) (by rw [eh]; exact h)
          rw [eh] at this
          exact this
        have est : (bs.map optR).set q.2.toNat (tupI (rt ++ [(j : Int)])) = (bs.set q.2.toNat (some (rt ++ [(j : Int)]))).map optR := by rw [List.map_set]; rfl
        have ix : ixN (bs.map optR).length q.2 = some q.2.toNat := ix_in q2 (by rw [List.length_map]; omega)
        walk_at "dl"
        simp only [rIx', as_raw updS_same, opt_at q2 hoh, x_isN, isN_opt]
        cases oh with
        | none =>
          simp only [Option.isNone_none, if_true]
          try walk_at "dl"
          simp only [own_raw updS_same, ix, upd_upd, est]
          exact ⟨_, _, _, _, _, rfl, rfl, put fun r e => by rw [hoh] at e; cases e⟩
        | some rh =>
          simp only [Option.isNone_some, if_ff]
          simp only [optR, x_lenT, List.length_map, as_raw updS_same, opt_at q2 hoh]
          refine ⟨by rw [sizeLine_eq]; simp, by rw [sizeLine_eq]; simp, x_ltP ?_⟩
          cases hlt : rlt (rt ++ [(j : Int)]) rh with
          | true =>
            have : ltP ((rt ++ [(j : Int)]).length : Nat) (rt ++ [(j : Int)]) (rh.length : Nat) rh = true := hlt
            simp only [this, if_true]
            try walk_at "dl"
            simp only [own_raw updS_same, ix, upd_upd, est]
            exact ⟨_, _, _, _, _, rfl, rfl, put fun r e => by rw [hoh] at e; cases e; exact .inr hlt⟩
          | false =>
            have : ltP ((rt ++ [(j : Int)]).length : Nat) (rt ++ [(j : Int)]) (rh.length : Nat) rh = false := hlt
            simp only [this, if_ff]
            exact ⟨bs, _, _, _, _, rfl, rfl, keep fun rt2 e => by rw [hot] at e; cases e; exact ⟨rh, hoh, rle_not hlt⟩⟩
    · rintro _ _ ⟨bs, x4, x5, x6, x7, rfl, rfl, B⟩
      rw [rng_len] at B
      rw [Int.toNat_natCast] at B
      exact ⟨bs, _, _, _, _, _, rfl, rfl, B.round hG⟩
  · rintro _ _ ⟨bs, x3, x4, x5, x6, x7, rfl, rfl, B⟩
    rw [rng_len] at B
    rw [Int.toNat_natCast] at B
    obtain ⟨rs, rfl, h1, h2⟩ := B.fin hG
    refine hR _ _ ?_
    walk_at "dl"
    refine ⟨.lst (rs.map tupI), S, ?_, hq rs h1 h2⟩
    have : (rs.map some).map optR = rs.map tupI := by rw [List.map_map]; rfl
    rw [this]
    exact (GhR.freeze updS_same).trans (GhR.weak fun c u e => by rw [delS_upd ha]; exact e)
end DL
end

section
set_option Elab.async false
set_option linter.all false
set_option maxRecDepth 100000
set_option maxHeartbeats 400000
namespace DL
open PySem PySem.Spec PyProof.Rows L2
local macro_rules | `(tactic| walk_at "dl") => `(tactic| simp only [x_C, x_V0, x_V, x_op, x_I, x_I0, x_addI, x_addT, x_B, x_And, x_Or, x_Not, x_Tru, x_AndT, x_OrT, x_NotT, x_If, x_nil, x_cons, x_Tup, x_Lst, x_LstM, x_CB, x_Chain, x_UnI, x_int, x_abs, x_lenT, x_lenL, x_listOfT, x_listOfL, x_tupOfT, x_tupOfL, x_call, x_make, x_BM, x_NoPart, x_Part, x_Sl, x_gName, x_gNil, x_gCons, x_gTup, x_next, x_brk, x_cont, x_drop, x_ret, x_retG, x_ifS, x_asg, x_raise, x_isiT, List.set_cons_zero, List.set_cons_succ, List.append_nil, x_for, x_while, x_iSeq, as_lst, as_tup, x_iRng1, x_iRng2, x_iEnum, x_lc, x_lcM, x_yes, x_Rg1, x_Rg2, x_ixT, x_ixL, x_eqI, x_neI, tr_bl, tr_int, x_gSub])
theorem dat_law_length_word (K : PySem.W.Frag) (g : Str → Addr) (hx : PySem.W.exmOne K (.ref (g "BadLength")) (.ref (g "BadLength")) = some true) : ∀ ds S Q E, F_law_length_word K g ds S Q E → rd_law_length_word K g (cE E) (endB Q) (startD N_law_length_word ds) S := fun ds S Q E h => by
  obtain ⟨cs, as, d, w, rfl, hG, hty, h1, h2, hq⟩ := h
  have e0 : startD N_law_length_word [chartD g cs as, d, .int w] = [some (chartD g cs as), some d, some (.int w), none] := rfl
  rw [e0]
  unfold rd_law_length_word
  unfold dTryAs
  have key : xAs K (g "BadLength") 3 (fun c => (dRet (dLst (dCons (dXf (g "BadLength") "length" (fun c => (dVar 3)) c) dNil)))) (cE E).w (endB Q) (g "BadLength") [("length", d)] [some (chartD g cs as), some d, some (.int w), none] S := by
    refine .inl ⟨hx, fun a => ?_⟩
    have ew : List.set [some (chartD g cs as), some d, some (.int w), none] 3 (some (.raw a)) = [some (chartD g cs as), some d, some (.int w), some (.raw a)] := rfl
    rw [ew]
    walk_at "dl"
    simp only [x_Xf, x_V, x_V0]
    exact ⟨a, _, _, rfl, rfl, rfl, by rw [sizeLine_eq]; simp, hq⟩
  refine x_seq fun R hR => ?_
  walk_at "dl"
  split
  · rename_i hw
    have hw0 : w ≠ 0 := by simpa using hw
    simp only [x_liG, x_V, x_V0, x_nil, x_cons, List.append_nil]
    refine ⟨cs, as, d, rfl, hG, hty, ?_⟩
    rw [if_neg (by rw [h2 hw0]; decide)]
    exact ⟨rfl, key⟩
  · rename_i hw
    have hw0 : w = 0 := by simpa using hw
    refine hR _ _ ?_
    walk_at "dl"
    refine ⟨cs, as, d, rfl, hG, hty, ?_⟩
    rw [if_neg (by rw [h1 hw0]; decide)]
    exact key
theorem dat_law_place_word (K : PySem.W.Frag) (g : Str → Addr) (hx : PySem.W.exmOne K (.ref (g "BadPlace")) (.ref (g "BadPlace")) = some true) : ∀ ds S Q E, F_law_place_word K g ds S Q E → rd_law_place_word K g (cE E) (endB Q) (startD N_law_place_word ds) S := fun ds S Q E h => by
  obtain ⟨cs, as, d, rfl, hG, hty, h1, hq⟩ := h
  have e0 : startD N_law_place_word [chartD g cs as, d] = [some (chartD g cs as), some d, none] := rfl
  rw [e0]
  unfold rd_law_place_word
  refine x_seq fun R hR => ?_
  unfold dTryAs
  walk_at "dl"
  refine ⟨cs, as, d, rfl, hG, hty, ?_⟩
  rw [if_neg (by rw [h1]; decide)]
  refine .inl ⟨hx, fun a => ?_⟩
  have ew : List.set [some (chartD g cs as), some d, none] 2 (some (.raw a)) = [some (chartD g cs as), some d, some (.raw a)] := rfl
  rw [ew]
  walk_at "dl"
  simp only [x_Xf, x_V, x_V0]
  exact ⟨a, _, _, rfl, rfl, rfl, by rw [sizeLine_eq]; simp, hq⟩
end DL
end

section
set_option Elab.async false
set_option linter.all false
set_option maxRecDepth 100000
set_option maxHeartbeats 400000
namespace DL
open PySem PySem.Spec PyProof.Rows L2
local macro_rules | `(tactic| walk_at "dl") => `(tactic| simp only [x_C, x_V0, x_V, x_op, x_I, x_I0, x_addI, x_addT, x_B, x_And, x_Or, x_Not, x_Tru, x_AndT, x_OrT, x_NotT, x_If, x_nil, x_cons, x_Tup, x_Lst, x_LstM, x_CB, x_Chain, x_UnI, x_int, x_abs, x_lenT, x_lenL, x_listOfT, x_listOfL, x_tupOfT, x_tupOfL, x_call, x_make, x_BM, x_NoPart, x_Part, x_Sl, x_gName, x_gNil, x_gCons, x_gTup, x_next, x_brk, x_cont, x_drop, x_ret, x_retG, x_ifS, x_asg, x_raise, x_isiT, List.set_cons_zero, List.set_cons_succ, List.append_nil, x_for, x_while, x_iSeq, as_lst, as_tup, x_iRng1, x_iRng2, x_iEnum, x_lc, x_lcM, x_yes, x_Rg1, x_Rg2, x_ixT, x_ixL, x_eqI, x_neI, tr_bl, tr_int, x_gSub])

theorem x_neD {x y d : D} {S : Sto} {Q : DV} (hx : frz S x = d) (hy : frz S y = d) (h1 : shp 60 d = true) (h2 : eqD d d = true) (q : Q (.bl false) S) : rNe' x y S Q := by
  refine ⟨by rw [hx]; exact h1, by rw [hy]; exact h1, ?_⟩
  rw [hx, hy, h2]; exact q
theorem x_eqDd {x y d : D} {S : Sto} {Q : DV} (hx : frz S x = d) (hy : frz S y = d) (h1 : shp 60 d = true) (h2 : eqD d d = true) (q : Q (.bl true) S) : rEq' x y S Q := by
  refine ⟨by rw [hx]; exact h1, by rw [hy]; exact h1, ?_⟩
  rw [hx, hy, h2]; exact q
theorem hand_new {S : Sto} {h : Addr} : Hand (updS S h (.abs handP)) h := updS_same
theorem eq_ints : ∀ xs : List Int, eqDs (intL xs) (intL xs) = true
  | [] => by simp [intL, eqDs]
  | x :: xs => by
    show eqDs (.int x :: intL xs) (.int x :: intL xs) = true
    simp [eqDs, eqD, eq_ints xs]
theorem eq_runs : ∀ xs : List (List Int), eqDs (xs.map tupI) (xs.map tupI) = true
  | [] => by simp [eqDs]
  | x :: xs => by
    show eqDs (tupI x :: xs.map tupI) (tupI x :: xs.map tupI) = true
    simp [eqDs, eqD, eq_runs xs, eq_ints x]
theorem shp_int {n : Nat} {i : Int} : shp n (.int i) = true := by cases n <;> simp [shp]
theorem shp_ints {n : Nat} (xs : List Int) : shps n (intL xs) = true := shps_all.mpr fun d hd => by
  obtain ⟨i, _, rfl⟩ := List.mem_map.mp hd
  exact shp_int
theorem shp_runs (xs : List (List Int)) : shp 60 (.lst (xs.map tupI)) = true := by
  show shps 59 (xs.map tupI) = true
  refine shps_all.mpr fun d hd => ?_
  obtain ⟨i, _, rfl⟩ := List.mem_map.mp hd
  exact shp_ints i
theorem ok_ints {n : Nat} (xs : List Int) : okD (n + 1) (tupI xs) = true := by
  show (intL xs).all (okD n) = true
  rw [List.all_eq_true]
  intro d hd
  obtain ⟨i, _, rfl⟩ := List.mem_map.mp hd
  cases n <;> rfl
theorem ok_runs (xs : List (List Int)) : okD 2 (.tup (xs.map tupI)) = true := by
  show (xs.map tupI).all (okD 1) = true
  rw [List.all_eq_true]
  intro d hd
  obtain ⟨i, _, rfl⟩ := List.mem_map.mp hd
  exact ok_ints i
abbrev cnD (as : List (Int × Int)) (n : Nat) : D := .lst (intL ((List.range (100 + 1)).map (cntW as n)))
theorem cn_at {as : List (Int × Int)} {n i : Nat} (h : i ≤ 100) : atI (intL ((List.range (100 + 1)).map (cntW as n))) (i : Int) = some (.int (cntW as n i)) := by
  rw [num_at (by omega) (by simp; omega), Int.toNat_natCast, List.getD_eq_getElem?_getD, List.getElem?_map, List.getElem?_range (by omega)]
  rfl
theorem end_at {as : List (Int × Int)} (run : List Int) : atI (intL (0 :: run.map (hdA as))) (-1) = some (.int (endR as run)) := by
  rcases List.eq_nil_or_concat run with rfl | ⟨r, a, rfl⟩
  · rfl
  · rw [List.concat_eq_append, endR_snoc, List.map_append, List.map_cons, List.map_nil, ← List.cons_append]
    have : intL ((0 :: r.map (hdA as)) ++ [hdA as a]) = intL (0 :: r.map (hdA as)) ++ [D.int (hdA as a)] := by simp only [intL, List.map_append, List.map_cons, List.map_nil]
    rw [this]
    exact atI_last
theorem Wk.arr {as : List (Int × Int)} {r : List Int} {e : Int} (w : Wk as r e) : ∀ j ∈ r, 0 ≤ j ∧ j < as.length := by
  induction w with
  | nil => simp
  | snoc w h ih =>
    intro j hj
    rcases List.mem_append.mp hj with hj | hj
    · exact ih j hj
    · rw [List.mem_singleton] at hj; subst hj
      obtain ⟨h0, h1, _⟩ := mem_outs.mp h
      exact ⟨h0, h1⟩
/-- a run of the level, one arrow on -/
def extR (as : List (Int × Int)) (r : List Int) : List (List Int) := (outs as (endR as r)).map fun a => r ++ [a]
theorem len_take {as : List (Int × Int)} (xs : List (List Int)) (j : Nat) : ((xs.take j).flatMap (extR as)).length ≤ (xs.flatMap (extR as)).length := by
  conv => rhs; rw [← List.take_append_drop j xs, List.flatMap_append, List.length_append]
  omega
theorem dat_law (K : PySem.W.Frag) (g : Str → Addr) : ∀ ds S Q E, F_law K g ds S Q E → rd_law K g (cE E) (endB Q) (startD N_law ds) S := fun ds S Q E hF => by
  obtain ⟨sc, cells, rfl, hsc, hcl, hq⟩ := hF
  have e0 : startD N_law [.raw sc] = [some (.raw sc), none, none, none, none, none, none, none, none, none, none, none, none, none, none, none, none, none, none] := rfl
  rw [e0]
  unfold rd_law
  refine x_seq fun R hR => ?_
  walk_at "dl"
  refine ⟨sc, cells, rfl, hsc, hcl, fun h hS => ?_⟩
  have hh : Hand (updS S h (.abs handP)) h := hand_new
  generalize updS S h (.abs handP) = S at hh
  refine hR _ _ ?_
  refine x_seq fun R hR => ?_
  walk_at "dl"
  refine ⟨h, rfl, hh, fun cs as hG => ?_⟩
  simp only [x_gTup, x_gCons, x_gNil, x_gName, List.set_cons_zero, List.set_cons_succ]
  refine ⟨rfl, hR _ _ ?_⟩
  have ga := hG.a1
  have n0 := hG.n0
  have n1 := hG.n1
  refine x_seq fun R hR => ?_
  walk_at "dl"
  simp only [List.length_map]
  refine hR _ _ ?_
  refine x_seq fun R hR => ?_
  walk_at "dl"
  intro x hx
  refine ⟨x, cs, as, rfl, updS_same, hG, rfl, _, updS_same, ?_⟩
  rw [updS_upd, delS_upd hx]
  refine hR _ _ ?_
  refine x_seq fun R hR => ?_
  walk_at "dl"
  refine ⟨cs, as, 100, rfl, hG, Nat.le_refl _, hR _ _ ?_⟩
  refine x_seq fun R hR => ?_
  walk_at "dl"
  refine fa_take hh (by decide) (by decide) fun wn w0 w1 => hR _ _ ?_
  refine x_seq fun R hR => ?_
  walk_at "dl"
  refine hR _ _ ?_
  have cnt := fun l => cnt_eq (as := as) n0 hG.at_ l
  refine x_seq fun R hR => ?_
  rw [x_while]
  refine ⟨fun m env S' => ∃ l : Nat, env = [some (.raw sc), some (.raw h), some (tupI cs), some (arrs as), some (.int (cs.length : Int)), some (chartD g cs as), some (cnD as cs.length), some (.int wn), some (.int (l : Int)), none, none, none, none, none, none, none, none, none, none] ∧ S = S' ∧ l ≤ 12 ∧ (∀ i, i ≤ l → cR as i 0 ≤ 300) ∧ m = 12 - l, ⟨_, 0, rfl, rfl, Nat.zero_le _, fun i hi => by
    have : i = 0 := by omega
    subst this; show 1 ≤ 300; omega, rfl⟩, ?_⟩
  rintro m _ _ ⟨l, rfl, rfl, hl, hc, rfl⟩
  have endW : R [some (.raw sc), some (.raw h), some (tupI cs), some (arrs as), some (.int (cs.length : Int)), some (chartD g cs as), some (cnD as cs.length), some (.int wn), some (.int (l : Int)), none, none, none, none, none, none, none, none, none, none] S := hR _ _ (by
    clear hR
    refine x_seq fun R hR => ?_
    walk_at "dl"
    refine ⟨by rw [sizeLine_eq]; simp, by rw [sizeLine_eq]; simp, hR _ _ ?_⟩
    have hlen : ∀ i, i ≤ l → (rf as i [] 0).length ≤ 300 := fun i hi => by rw [rf_len]; exact hc i hi
    have hwk : ∀ i, ∀ r ∈ rf as i [] 0, Wk as r (endR as r) ∧ r.length = i := fun i r hr => by
      obtain ⟨h1, h2⟩ := rf_wk i [] 0 .nil r hr
      exact ⟨h1, by rw [h2]; simp⟩
    have hstep : ∀ i, (rf as i [] 0).flatMap (extR as) = rf as (i + 1) [] 0 := fun i => rf_step i [] 0 rfl
    refine x_seq fun R hR => ?_
    walk_at "dl"
    refine ⟨by omega, by omega, fun i env S' => i ≤ l ∧ ∃ x10 x11 x12 x13 : Option D, env = [some (.raw sc), some (.raw h), some (tupI cs), some (arrs as), some (.int (cs.length : Int)), some (chartD g cs as), some (cnD as cs.length), some (.int wn), some (.int (l : Int)), some (.lst ((rf as i [] 0).map tupI)), x10, x11, x12, x13, none, none, none, none, none] ∧ S = S', ⟨Nat.zero_le _, _, _, _, _, rfl, rfl⟩, fun _ _ _ _ => True.intro, ?_, ?_⟩
    · rintro i x _ _ hi ⟨_, x10, x11, x12, x13, rfl, rfl⟩
      obtain ⟨hlt, rfl⟩ := rng_get hi
      simp only [x_gName, List.set_cons_zero, List.set_cons_succ]
      refine x_seq fun R2 hR2 => ?_
      walk_at "dl"
      refine ⟨by rw [sizeLine_eq]; simp, hR2 _ _ ?_⟩
      refine x_seq fun R2 hR2 => ?_
      walk_at "dl"
      refine ⟨fun j env S' => ∃ x12 x13 : Option D, env = [some (.raw sc), some (.raw h), some (tupI cs), some (arrs as), some (.int (cs.length : Int)), some (chartD g cs as), some (cnD as cs.length), some (.int wn), some (.int (l : Int)), some (.lst ((rf as i [] 0).map tupI)), some (.int (0 + (i : Nat))), some (.lst ((((rf as i [] 0).take j).flatMap (extR as)).map tupI)), x12, x13, none, none, none, none, none] ∧ S = S', ⟨_, _, rfl, by first | rfl | trivial⟩, fun _ _ _ _ => True.intro, ?_, ?_⟩
      · rintro j x _ _ hx ⟨x12, x13, rfl, rfl⟩
        obtain ⟨run, hrun, rfl⟩ := getElem_map hx
        obtain ⟨wr, rl⟩ := hwk i run (List.mem_of_getElem? hrun)
        have tk : ((rf as i [] 0).take (j + 1)).flatMap (extR as) = ((rf as i [] 0).take j).flatMap (extR as) ++ extR as run := by
          rw [take_succ' hrun, List.flatMap_append]; simp
        have tl := len_take (as := as) (rf as i [] 0) (j + 1)
        rw [hstep i, tk, List.length_append] at tl
        have l300 := hlen (i + 1) (by omega)
        simp only [x_gName, List.set_cons_zero, List.set_cons_succ]
        refine x_seq fun R3 hR3 => ?_
        walk_at "dl"
        refine ⟨cs, as, run, rfl, hG, by omega, wr.arr, ?_⟩
        simp only [x_UnI, x_C, x_ixL, end_at]
        refine hR3 _ _ ?_
        generalize he : endR as run = e at *
        walk_at "dl"
        simp only [x_lenT, arr_len]
        refine ⟨by omega, by omega, fun k acc S' => acc = (outsN as e k).map (fun a => tupI (run ++ [a])) ∧ k ≤ as.length ∧ S = S', ⟨rfl, Nat.zero_le _, by first | rfl | trivial⟩, fun _ _ _ _ _ _ _ => True.intro, ?_, ?_⟩
        · rintro k y acc _ Dd o hy ⟨rfl, hk, rfl⟩ hD
          obtain ⟨hkl, rfl⟩ := rng_get hy
          have hk2 : k < as.length := by omega
          obtain ⟨q, hq1, hqat⟩ := arr_at (as := as) (j := (k : Int)) (by omega) (by omega)
          rw [Int.toNat_natCast] at hq1
          have et : tlA as (k : Nat) = q.1 := by unfold tlA; rw [List.getD_eq_getElem?_getD, Int.toNat_natCast, hq1]; rfl
          have ew : List.set (wipeD [some (.raw sc), some (.raw h), some (tupI cs), some (arrs as), some (.int (cs.length : Int)), some (chartD g cs as), some (cnD as cs.length), some (.int wn), some (.int (l : Int)), some (.lst ((rf as i [] 0).map tupI)), some (.int (i : Nat)), some (.lst ((((rf as i [] 0).take j).flatMap (extR as)).map tupI)), some (tupI run), some (.int e), none, none, none, none, none] [18]) 18 (some (D.int (k : Nat))) = [some (.raw sc), some (.raw h), some (tupI cs), some (arrs as), some (.int (cs.length : Int)), some (chartD g cs as), some (cnD as cs.length), some (.int wn), some (.int (l : Int)), some (.lst ((rf as i [] 0).map tupI)), some (.int (i : Nat)), some (.lst ((((rf as i [] 0).take j).flatMap (extR as)).map tupI)), some (tupI run), some (.int e), none, none, none, none, some (.int (k : Nat))] := rfl
          simp only [Int.zero_add]
          simp only [ew]
          walk_at "dl"
          simp only [hqat, x_ixT, at2_0, x_eqI, ieq]
          rw [outsN_succ, et]
          have hl : ((outsN as e k).map fun a => tupI (run ++ [a])).length < sizeLine := by
            rw [List.length_map, sizeLine_eq]
            have := outsN_len (as := as) (p := e) (i := k)
            omega
          by_cases hp : q.1 = e
          · simp only [hp, decide_true, if_true, x_addT]
            exact ⟨by rw [sizeLine_eq]; simp, by rw [sizeLine_eq, List.length_map, List.length_singleton]; omega, hl, updS_same, by simp only [tupI, List.map_append, List.map_cons, List.map_nil], by omega, (delS_upd hD).symm⟩
          · simp only [hp, decide_false, if_false, if_ff]
            exact ⟨updS_same, by first | rfl | trivial, by omega, (delS_upd hD).symm⟩
        · rintro acc _ ⟨rfl, _, rfl⟩
          rw [rng_len, Int.toNat_natCast, x_addL]
          have eo : (outsN as e as.length).map (fun a => tupI (run ++ [a])) = (extR as run).map tupI := by unfold extR; rw [he, List.map_map]; rfl
          rw [eo, ← List.map_append, ← tk]
          refine ⟨by rw [sizeLine_eq, List.length_map, List.length_map]; omega, _, _, rfl, by first | rfl | trivial⟩
      · rintro _ _ ⟨x12, x13, rfl, rfl⟩
        refine hR2 _ _ ?_
        rw [List.length_map, List.take_length, hstep i]
        walk_at "dl"
        exact ⟨by omega, _, _, _, _, rfl, by first | rfl | trivial⟩
    · rintro _ _ ⟨_, x10, x11, x12, x13, rfl, rfl⟩
      rw [rng_len, Int.toNat_natCast]
      refine hR _ _ ?_
      clear hR
      generalize hlv : rf as l [] 0 = lv
      have lvl : (lv.length : Int) = cntW as cs.length l := by rw [cnt, ← hlv, rf_len]
      have lv3 : lv.length ≤ 300 := by rw [← hlv]; exact hlen l (Nat.le_refl _)
      have hnod : nodes as l 0 < 16777216 := by
        have h1 := nodes_bound hc
        have h2 : (l + 1) * 300 ≤ 13 * 300 := Nat.mul_le_mul_right _ (by omega)
        omega
      have hw12 : wholeD 0 12 (.int (l : Int)) = true := whole_in (by omega) (by omega)
      have hw100 : ∀ f : Int, 0 ≤ f → f ≤ 100 → wholeD 0 100 (.int f) = true := fun f f0 f1 => whole_in f0 f1
      refine x_seq fun R hR => ?_
      simp only [x_asg, x_liGM, x_gName, List.set_cons_zero, List.set_cons_succ]
      walk_at "dl"
      refine ⟨cs, as, _, rfl, hG, rfl, ?_⟩
      rw [if_pos hw12]
      refine ⟨l, rfl, hnod, ?_⟩
      rw [hlv]
      refine fun a ha => hR _ _ ?_
      refine x_seq fun R hR => ?_
      walk_at "dl"
      have fr1 : frz (updS S a (.lst (lv.map tupI))) (.raw a) = .lst (lv.map tupI) := by unfold frz; rw [asl_raw updS_same]
      refine x_neD fr1 rfl (shp_runs lv) (by show eqDs _ _ = true; exact eq_runs lv) ?_
      simp only [if_ff]
      simp only [rTupOf', as_raw updS_same]
      refine ⟨_, rfl, ok_runs lv, ?_⟩
      simp only [tr_bl, Bool.not_true, if_ff]
      refine ⟨cs, as, _, rfl, hG, rfl, ?_⟩
      rw [if_pos (hw100 _ (by omega) (by omega))]
      refine ⟨l, rfl, ?_⟩
      simp only [x_lenL, x_neI, List.length_map, lvl, beq_self_eq_true, Bool.not_true, if_ff]
      refine hR _ _ ?_
      refine x_seq fun R hR => ?_
      walk_at "dl"
      simp only [asl_raw updS_same, Option.isSome_some, true_and, x_append (own_raw updS_same)]
      refine ⟨by rw [sizeLine_eq]; simp, by rw [sizeLine_eq, List.length_map]; omega, hR _ _ ?_⟩
      rw [x_gh]
      refine ⟨_, S, Gh.weak fun c u e => ?_, ?_⟩
      · rw [upd_upd]; exact sub_upd ha c u e
      refine x_seq fun R hR => ?_
      simp only [x_ifS, x_B, x_op, x_liG]
      walk_at "dl"
      refine ⟨cs, as, _, rfl, hG, rfl, ?_⟩
      rw [if_pos hw12]
      refine ⟨l, rfl, hnod, ?_⟩
      rw [hlv]
      refine x_neD rfl rfl (shp_runs lv) (by show eqDs _ _ = true; exact eq_runs lv) ?_
      simp only [if_ff]
      refine hR _ _ ?_
      refine x_seq fun R hR => ?_
      have key : ∀ f : Nat, f ≤ 100 → R [some (.raw sc), some (.raw h), some (tupI cs), some (arrs as), some (.int (cs.length : Int)), some (chartD g cs as), some (cnD as cs.length), some (.int wn), some (.int (l : Int)), some (.lst (lv.map tupI)), x10, x11, x12, x13, some (.raw a), some (.int (f : Int)), none, none, none] S := fun f f1 => hR _ _ (by
        refine x_seq fun R hR => ?_
        walk_at "dl"
        refine ⟨cs, as, _, rfl, hG, rfl, ?_⟩
        rw [if_pos (hw100 _ (by omega) (by omega))]
        refine ⟨f, rfl, ?_⟩
        simp only [cn_at f1, x_neI, beq_self_eq_true, Bool.not_true, if_ff]
        refine hR _ _ ?_
        refine x_seq fun R hR => ?_
        walk_at "dl"
        refine ⟨cs, as, rfl, hG, fun bs b1 b2 => hR _ _ ?_⟩
        refine x_seq fun R hR => ?_
        walk_at "dl"
        refine ⟨by omega, by omega, fun i env S' => ∃ y13 : Option D, env = [some (.raw sc), some (.raw h), some (tupI cs), some (arrs as), some (.int (cs.length : Int)), some (chartD g cs as), some (cnD as cs.length), some (.int wn), some (.int (l : Int)), some (.lst (lv.map tupI)), x10, x11, x12, y13, some (.raw a), some (.int (f : Int)), some (.lst (bs.map tupI)), none, none] ∧ S = S', ⟨_, rfl, by first | rfl | trivial⟩, fun _ _ _ _ => True.intro, ?_, ?_⟩
        · rintro i x _ _ hi ⟨y13, rfl, rfl⟩
          obtain ⟨hlt, rfl⟩ := rng_get hi
          have hi2 : i < bs.length := by omega
          have hbi : bs[i]? = some bs[i] := List.getElem?_eq_getElem hi2
          have hat : atI (bs.map tupI) (i : Int) = some (tupI bs[i]) := by
            rw [atI_ok (by omega) (by rw [List.length_map]; omega), Int.toNat_natCast, List.getElem?_map, hbi]
            rfl
          have hwp : wholeD 0 ((cs.length : Int) - 1) (.int (i : Int)) = true := whole_in (by omega) (by omega)
          simp only [x_gName, List.set_cons_zero, List.set_cons_succ, Int.zero_add]
          walk_at "dl"
          refine ⟨cs, as, _, rfl, hG, rfl, ?_⟩
          rw [if_pos hwp]
          refine ⟨i, rfl, fun r hr => ?_⟩
          have : r = bs[i] := hr.uniq (b2 i _ hbi)
          subst this
          simp only [x_ixL, hat]
          refine x_neD rfl rfl (shp_ints _) (by show eqDs _ _ = true; exact eq_ints _) ?_
          simp only [if_ff]
          refine ⟨cs, as, _, rfl, hG, rfl, ?_⟩
          rw [if_pos hwp]
          refine ⟨i, rfl, fun r hr => ⟨_, rfl, ok_ints r, ?_⟩⟩
          simp only [tr_bl, Bool.not_true, if_ff]
          exact ⟨_, rfl, by first | rfl | trivial⟩
        · rintro _ _ ⟨y13, rfl, rfl⟩
          refine hR _ _ ?_
          refine x_seq fun R hR => ?_
          walk_at "dl"
          refine ⟨by decide, by decide, fun i env S' => ∃ y10 y17 : Option D, env = [some (.raw sc), some (.raw h), some (tupI cs), some (arrs as), some (.int (cs.length : Int)), some (chartD g cs as), some (cnD as cs.length), some (.int wn), some (.int (l : Int)), some (.lst (lv.map tupI)), y10, x11, x12, y13, some (.raw a), some (.int (f : Int)), some (.lst (bs.map tupI)), y17, none] ∧ S = S', ⟨_, _, rfl, by first | rfl | trivial⟩, fun _ _ _ _ => True.intro, ?_, ?_⟩
          · rintro i x _ _ hi ⟨y10, y17, rfl, rfl⟩
            obtain ⟨hlt, rfl⟩ := rng_get hi
            simp only [x_gName, List.set_cons_zero, List.set_cons_succ, Int.zero_add]
            refine x_seq fun R2 hR2 => ?_
            have odd : ∀ n : Int, 0 ≤ n → n ≤ 128 → (((i : Nat) : Int) = 0 → n = 101) → (((i : Nat) : Int) ≠ 0 → n = 13) → F_law_odd K g [.raw h, .int n] S (fun d S1 => R2 [some (.raw sc), some (.raw h), some (tupI cs), some (arrs as), some (.int (cs.length : Int)), some (chartD g cs as), some (cnD as cs.length), some (.int wn), some (.int (l : Int)), some (.lst (lv.map tupI)), some (.int (i : Nat)), x11, x12, y13, some (.raw a), some (.int (f : Int)), some (.lst (bs.map tupI)), some d, none] S1) (fun C fs S' => E C fs S') := fun n m0 m1 k1 k2 => ⟨h, n, rfl, hh, m0, m1, fun d od => hR2 _ _ (by
              walk_at "dl"
              refine ⟨cs, as, d, _, rfl, hG, od.ty S, fun z => by have := od.w; rw [k1 z] at this; exact this, fun z => by have := od.w; rw [k2 z] at this; exact this, ?_⟩
              have hs : shp 60 (.lst [d]) = true := by show shps 59 [d] = true; simp [shps, od.sh]
              have he : eqD (.lst [d]) (.lst [d]) = true := by show eqDs [d] [d] = true; simp [eqDs, od.eq]
              refine ⟨by rw [sizeLine_eq]; simp, x_neD rfl rfl hs he ?_⟩
              simp only [if_ff]
              exact ⟨_, _, rfl, by first | rfl | trivial⟩)⟩
            walk_at "dl"
            have hi01 : i = 0 ∨ i = 1 := by omega
            rcases hi01 with rfl | rfl
            · exact odd 101 (by decide) (by decide) (fun _ => rfl) (fun z => absurd rfl z)
            · exact odd 13 (by decide) (by decide) (fun z => by cases z) (fun _ => rfl)
          · rintro _ _ ⟨y10, y17, rfl, rfl⟩
            refine hR _ _ ?_
            refine x_seq fun R hR => ?_
            walk_at "dl"
            refine ⟨h, _, rfl, hh, by omega, by omega, fun d od => hR _ _ ?_⟩
            walk_at "dl"
            refine ⟨cs, as, d, rfl, hG, od.ty S, od.w, ?_⟩
            have hs : shp 60 (.lst [d]) = true := by show shps 59 [d] = true; simp [shps, od.sh]
            have he : eqD (.lst [d]) (.lst [d]) = true := by show eqDs [d] [d] = true; simp [eqDs, od.eq]
            exact ⟨by rw [sizeLine_eq]; simp, x_eqDd rfl rfl hs he (hq _)⟩)
      walk_at "dl"
      refine fa_take hh (by decide) (by decide) fun r1 r10 r11 => ?_
      refine ⟨by rw [sizeLine_eq]; simp, fa_take hh (by decide) (by decide) fun r2 r20 r21 => ?_⟩
      have hc3 : r2 = 0 ∨ r2 = 1 ∨ r2 = 2 := by omega
      rcases hc3 with rfl | rfl | rfl
      · exact key 100 (by decide)
      · have := key r1.toNat (by omega)
        rw [Int.toNat_of_nonneg r10] at this
        exact this
      · exact key (l + 1) (by omega))
  walk_at "dl"
  split
  · split
    · rename_i hl12
      have hl12 : (l : Int) < 12 := by simpa using hl12
      have e1 : (l : Int) + 1 = ((l + 1 : Nat) : Int) := by omega
      simp only [e1, cn_at (as := as) (n := cs.length) (show l + 1 ≤ 100 by omega), x_I0]
      split
      · rename_i h300
        have h300 : cntW as cs.length (l + 1) ≤ 300 := by simpa using h300
        rw [cnt] at h300
        refine ⟨12 - (l + 1), by omega, l + 1, rfl, by first | rfl | trivial, by omega, fun i hi => ?_, rfl⟩
        rcases Nat.lt_or_ge i (l + 1) with z | z
        · exact hc i (by omega)
        · have : i = l + 1 := by omega
          subst this; omega
      · exact endW
    · rw [if_ff]; exact endW
  · rw [if_ff]; exact endW
end DL
end

section
set_option Elab.async false
set_option linter.all false
set_option maxRecDepth 100000
set_option maxHeartbeats 4000000
namespace DL
open PySem PySem.Spec PyProof.Rows L2
theorem ok_is_whole {P : Program} {w : World} {K : PySem.W.Frag} {mg : Str → Option Value} {base : Heap} {g : Str → Addr} {f : Addr} {fd : FuncData} (fx : Fx P w K mg base g) (F0 : FunD K "is_whole" "is_whole" (defArgs st_is_whole) (defBody st_is_whole) (defScope st_is_whole) [] [] f fd) : FnOk P w K mg base (L2.CX P w) 1 f fd ps_is_whole (spD K (F_is_whole K g)) :=
  fn_ok F0 sc_is_whole (fun ds S Q E h => by unfold F_is_whole at h; (try unfold RunF at h); (try unfold F_tupN at h); (repeat (obtain ⟨_, h⟩ := h)); (try subst_vars); rfl) (der_is_whole fx) (dat_is_whole K g)
theorem ok_is_row {P : Program} {w : World} {K : PySem.W.Frag} {mg : Str → Option Value} {base : Heap} {g : Str → Addr} {f : Addr} {fd : FuncData} (fx : Fx P w K mg base g) (F0 : FunD K "is_row" "is_row" (defArgs st_is_row) (defBody st_is_row) (defScope st_is_row) [] [] f fd) : FnOk P w K mg base (L2.CX P w) 1 f fd ps_is_row (spD K (F_is_row K g)) :=
  fn_ok F0 sc_is_row (fun ds S Q E h => by unfold F_is_row at h; (try unfold RunF at h); (try unfold F_tupN at h); (repeat (obtain ⟨_, h⟩ := h)); (try subst_vars); rfl) (der_is_row fx) (dat_is_row K g)
theorem ok_check_place {P : Program} {w : World} {K : PySem.W.Frag} {mg : Str → Option Value} {base : Heap} {g : Str → Addr} {f : Addr} {fd : FuncData} (fx : Fx P w K mg base g) (h_is_whole : FnD P w K mg base 1 "is_whole" (F_is_whole K g) []) (F0 : FunD K "check_place" "check_place" (defArgs st_check_place) (defBody st_check_place) (defScope st_check_place) [] [] f fd) : FnOk P w K mg base (L2.CX P w) 3 f fd ps_check_place (spD K (F_check_place K g)) :=
  fn_ok F0 sc_check_place (fun ds S Q E h => by unfold F_check_place at h; (try unfold RunF at h); (try unfold F_tupN at h); (repeat (obtain ⟨_, h⟩ := h)); (try subst_vars); rfl) (der_check_place fx h_is_whole) (dat_check_place K g)
theorem ok_reached_places {P : Program} {w : World} {K : PySem.W.Frag} {mg : Str → Option Value} {base : Heap} {g : Str → Addr} {f : Addr} {fd : FuncData} (fx : Fx P w K mg base g) (F0 : FunD K "reached_places" "reached_places" (defArgs st_reached_places) (defBody st_reached_places) (defScope st_reached_places) [] [] f fd) : FnOk P w K mg base (L2.CX P w) 1 f fd ps_reached_places (spD K (F_reached_places K g)) :=
  fn_ok F0 sc_reached_places (fun ds S Q E h => by unfold F_reached_places at h; (try unfold RunF at h); (try unfold F_tupN at h); (repeat (obtain ⟨_, h⟩ := h)); (try subst_vars); rfl) (der_reached_places fx) (dat_reached_places K g)
theorem ok_Chart__init {P : Program} {w : World} {K : PySem.W.Frag} {mg : Str → Option Value} {base : Heap} {g : Str → Addr} {f : Addr} {fd : FuncData} (fx : Fx P w K mg base g) (h_is_row : FnD P w K mg base 1 "is_row" (F_is_row K g) []) (h_is_whole : FnD P w K mg base 1 "is_whole" (F_is_whole K g) []) (h_reached_places : FnD P w K mg base 1 "reached_places" (F_reached_places K g) []) (F0 : FunD K "__init__" "Chart.__init__" (defArgs st_Chart__init) (defBody st_Chart__init) (defScope st_Chart__init) [] [] f fd) : FnOk P w K mg base (L2.CX P w) 3 f fd ps_Chart__init (spD K (F_Chart__init K g)) :=
  fn_ok F0 sc_Chart__init (fun ds S Q E h => by unfold F_Chart__init at h; (try unfold RunF at h); (try unfold F_tupN at h); (repeat (obtain ⟨_, h⟩ := h)); (try subst_vars); rfl) (der_Chart__init fx h_is_row h_is_whole h_reached_places) (dat_Chart__init K g)
theorem ok_Chart_outs {P : Program} {w : World} {K : PySem.W.Frag} {mg : Str → Option Value} {base : Heap} {g : Str → Addr} {f : Addr} {fd : FuncData} (fx : Fx P w K mg base g) (h_check_place : FnD P w K mg base 3 "check_place" (F_check_place K g) []) (F0 : FunD K "outs" "Chart.outs" (defArgs st_Chart_outs) (defBody st_Chart_outs) (defScope st_Chart_outs) [] [] f fd) : FnOk P w K mg base (L2.CX P w) 4 f fd ps_Chart_outs (spD K (F_Chart_outs K g)) :=
  fn_ok F0 sc_Chart_outs (fun ds S Q E h => by unfold F_Chart_outs at h; (try unfold RunF at h); (try unfold F_tupN at h); (repeat (obtain ⟨_, h⟩ := h)); (try subst_vars); rfl) (der_Chart_outs fx h_check_place) (dat_Chart_outs K g)
theorem ok_all_runs {P : Program} {w : World} {K : PySem.W.Frag} {mg : Str → Option Value} {base : Heap} {g : Str → Addr} {f : Addr} {fd : FuncData} (fx : Fx P w K mg base g) (h_Chart_outs : MtD P w K mg base 4 (g "Chart") "outs" (F_Chart_outs K g) []) (h_is_whole : FnD P w K mg base 1 "is_whole" (F_is_whole K g) []) (F0 : FunD K "all_runs" "all_runs" (defArgs st_all_runs) (defBody st_all_runs) (defScope st_all_runs) [] [] f fd) : GFn P w K mg base 5 f fd ps_all_runs (spDG K (F_all_runs K g)) :=
  gn_ok F0 sc_all_runs (fun ds S Q E h => by unfold F_all_runs at h; (try unfold RunF at h); (try unfold F_tupN at h); (repeat (obtain ⟨_, h⟩ := h)); (try subst_vars); rfl) (der_all_runs fx h_Chart_outs h_is_whole) (dat_all_runs K g)
theorem ok_count_runs {P : Program} {w : World} {K : PySem.W.Frag} {mg : Str → Option Value} {base : Heap} {g : Str → Addr} {f : Addr} {fd : FuncData} (fx : Fx P w K mg base g) (h_is_whole : FnD P w K mg base 1 "is_whole" (F_is_whole K g) []) (F0 : FunD K "count_runs" "count_runs" (defArgs st_count_runs) (defBody st_count_runs) (defScope st_count_runs) [] [] f fd) : FnOk P w K mg base (L2.CX P w) 3 f fd ps_count_runs (spD K (F_count_runs K g)) :=
  fn_ok F0 sc_count_runs (fun ds S Q E h => by unfold F_count_runs at h; (try unfold RunF at h); (try unfold F_tupN at h); (repeat (obtain ⟨_, h⟩ := h)); (try subst_vars); rfl) (der_count_runs fx h_is_whole) (dat_count_runs K g)
theorem ok_run_to {P : Program} {w : World} {K : PySem.W.Frag} {mg : Str → Option Value} {base : Heap} {g : Str → Addr} {f : Addr} {fd : FuncData} (fx : Fx P w K mg base g) (h_Chart_outs : MtD P w K mg base 4 (g "Chart") "outs" (F_Chart_outs K g) []) (h_check_place : FnD P w K mg base 3 "check_place" (F_check_place K g) []) (F0 : FunD K "run_to" "run_to" (defArgs st_run_to) (defBody st_run_to) (defScope st_run_to) [] [] f fd) : FnOk P w K mg base (L2.CX P w) 5 f fd ps_run_to (spD K (F_run_to K g)) :=
  fn_ok F0 sc_run_to (fun ds S Q E h => by unfold F_run_to at h; (try unfold RunF at h); (try unfold F_tupN at h); (repeat (obtain ⟨_, h⟩ := h)); (try subst_vars); rfl) (der_run_to fx h_Chart_outs h_check_place) (dat_run_to K g)
theorem ok_law_hand {P : Program} {w : World} {K : PySem.W.Frag} {mg : Str → Option Value} {base : Heap} {g : Str → Addr} {f : Addr} {fd : FuncData} (fx : Fx P w K mg base g) (F0 : FunD K "_law_hand" "_law_hand" (defArgs st_law_hand) (defBody st_law_hand) (defScope st_law_hand) [] [] f fd) : FnOk P w K mg base (L2.CX P w) 1 f fd ps_law_hand (spD K (F_law_hand K g)) :=
  fn_ok F0 sc_law_hand (fun ds S Q E h => by unfold F_law_hand at h; (try unfold RunF at h); (try unfold F_tupN at h); (repeat (obtain ⟨_, h⟩ := h)); (try subst_vars); rfl) (der_law_hand fx) (dat_law_hand K g)
theorem ok_law_mixed {P : Program} {w : World} {K : PySem.W.Frag} {mg : Str → Option Value} {base : Heap} {g : Str → Addr} {f : Addr} {fd : FuncData} (fx : Fx P w K mg base g) (F0 : FunD K "_law_mixed" "_law_mixed" (defArgs st_law_mixed) (defBody st_law_mixed) (defScope st_law_mixed) [] [] f fd) : FnOk P w K mg base (L2.CX P w) 1 f fd ps_law_mixed (spD K (F_law_mixed K g)) :=
  fn_ok F0 sc_law_mixed (fun ds S Q E h => by unfold F_law_mixed at h; (try unfold RunF at h); (try unfold F_tupN at h); (repeat (obtain ⟨_, h⟩ := h)); (try subst_vars); rfl) (der_law_mixed fx) (dat_law_mixed K g)
theorem ok_law_take {P : Program} {w : World} {K : PySem.W.Frag} {mg : Str → Option Value} {base : Heap} {g : Str → Addr} {f : Addr} {fd : FuncData} (fx : Fx P w K mg base g) (h_law_mixed : FnD P w K mg base 1 "_law_mixed" (F_law_mixed K g) []) (F0 : FunD K "_law_take" "_law_take" (defArgs st_law_take) (defBody st_law_take) (defScope st_law_take) [] [] f fd) : FnOk P w K mg base (L2.CX P w) 2 f fd ps_law_take (spD K (F_law_take K g)) :=
  fn_ok F0 sc_law_take (fun ds S Q E h => by unfold F_law_take at h; (try unfold RunF at h); (try unfold F_tupN at h); (repeat (obtain ⟨_, h⟩ := h)); (try subst_vars); rfl) (der_law_take fx h_law_mixed) (dat_law_take K g)
theorem ok_law_renumbered {P : Program} {w : World} {K : PySem.W.Frag} {mg : Str → Option Value} {base : Heap} {g : Str → Addr} {f : Addr} {fd : FuncData} (fx : Fx P w K mg base g) (h_law_take : FnD P w K mg base 2 "_law_take" (F_law_take K g) []) (F0 : FunD K "_law_renumbered" "_law_renumbered" (defArgs st_law_renumbered) (defBody st_law_renumbered) (defScope st_law_renumbered) [] [] f fd) : FnOk P w K mg base (L2.CX P w) 3 f fd ps_law_renumbered (spD K (F_law_renumbered K g)) :=
  fn_ok F0 sc_law_renumbered (fun ds S Q E h => by unfold F_law_renumbered at h; (try unfold RunF at h); (try unfold F_tupN at h); (repeat (obtain ⟨_, h⟩ := h)); (try subst_vars); rfl) (der_law_renumbered fx h_law_take) (dat_law_renumbered K g)
theorem ok_law_costs {P : Program} {w : World} {K : PySem.W.Frag} {mg : Str → Option Value} {base : Heap} {g : Str → Addr} {f : Addr} {fd : FuncData} (fx : Fx P w K mg base g) (h_law_take : FnD P w K mg base 2 "_law_take" (F_law_take K g) []) (F0 : FunD K "_law_costs" "_law_costs" (defArgs st_law_costs) (defBody st_law_costs) (defScope st_law_costs) [] [] f fd) : FnOk P w K mg base (L2.CX P w) 3 f fd ps_law_costs (spD K (F_law_costs K g)) :=
  fn_ok F0 sc_law_costs (fun ds S Q E h => by unfold F_law_costs at h; (try unfold RunF at h); (try unfold F_tupN at h); (repeat (obtain ⟨_, h⟩ := h)); (try subst_vars); rfl) (der_law_costs fx h_law_take) (dat_law_costs K g)
theorem ok_law_chart {P : Program} {w : World} {K : PySem.W.Frag} {mg : Str → Option Value} {base : Heap} {g : Str → Addr} {f : Addr} {fd : FuncData} (fx : Fx P w K mg base g) (h_law_costs : FnD P w K mg base 3 "_law_costs" (F_law_costs K g) []) (h_law_renumbered : FnD P w K mg base 3 "_law_renumbered" (F_law_renumbered K g) []) (h_law_take : FnD P w K mg base 2 "_law_take" (F_law_take K g) []) (F0 : FunD K "_law_chart" "_law_chart" (defArgs st_law_chart) (defBody st_law_chart) (defScope st_law_chart) [] [] f fd) : FnOk P w K mg base (L2.CX P w) 4 f fd ps_law_chart (spD K (F_law_chart K g)) :=
  fn_ok F0 sc_law_chart (fun ds S Q E h => by unfold F_law_chart at h; (try unfold RunF at h); (try unfold F_tupN at h); (repeat (obtain ⟨_, h⟩ := h)); (try subst_vars); rfl) (der_law_chart fx h_law_costs h_law_renumbered h_law_take) (dat_law_chart K g)
theorem ok_law_places {P : Program} {w : World} {K : PySem.W.Frag} {mg : Str → Option Value} {base : Heap} {g : Str → Addr} {f : Addr} {fd : FuncData} (fx : Fx P w K mg base g) (F0 : FunD K "_law_places" "_law_places" (defArgs st_law_places) (defBody st_law_places) (defScope st_law_places) [] [] f fd) : FnOk P w K mg base (L2.CX P w) 1 f fd ps_law_places (spD K (F_law_places K g)) :=
  fn_ok F0 sc_law_places (fun ds S Q E h => by unfold F_law_places at h; (try unfold RunF at h); (try unfold F_tupN at h); (repeat (obtain ⟨_, h⟩ := h)); (try subst_vars); rfl) (der_law_places fx) (dat_law_places K g)
theorem ok_law_tuples {P : Program} {w : World} {K : PySem.W.Frag} {mg : Str → Option Value} {base : Heap} {g : Str → Addr} {f : Addr} {fd : FuncData} (fx : Fx P w K mg base g) (F0 : FunD K "_law_tuples" "_law_tuples" (defArgs st_law_tuples) (defBody st_law_tuples) (defScope st_law_tuples) [] [] f fd) (hm : mg "_law_tuples" = some (.ref f)) (hb : Binds K fd ps_law_tuples []) : FnOk P w K mg base (L2.CX P w) 4 f fd ps_law_tuples (spD K (F_law_tuples K g)) := by
  have h0 : FnD P w K mg base 1 "_law_tuples" (fun _ _ _ _ => False) [] := FnOk.fnD (ps := ps_law_tuples) ⟨fun vs H Q E h => by obtain ⟨_, _, _, _, _, _, _, h, _⟩ := h; exact h.elim, fun A outer s H args us vs Q E _ _ _ _ h => by obtain ⟨_, _, _, _, _, _, _, h, _⟩ := h; exact h.elim⟩ hm F0.kp hb
  have k1 : FnOk P w K mg base (L2.CX P w) 2 f fd ps_law_tuples (spD K (F_tupN 0)) := fn_ok F0 sc_law_tuples (fun ds S Q E h => by unfold F_tupN at h; (try unfold RunF at h); (try unfold F_tupN at h); (repeat (obtain ⟨_, h⟩ := h)); (try subst_vars); rfl) (der_law_tuples fx h0) (dat_tup0 K g _)
  have h1 := FnOk.fnD k1 hm F0.kp hb
  have k2 : FnOk P w K mg base (L2.CX P w) 3 f fd ps_law_tuples (spD K (F_tupN 1)) := fn_ok F0 sc_law_tuples (fun ds S Q E h => by unfold F_tupN at h; (try unfold RunF at h); (try unfold F_tupN at h); (repeat (obtain ⟨_, h⟩ := h)); (try subst_vars); rfl) (der_law_tuples fx h1) (dat_tupS K g 0)
  have h2 := FnOk.fnD k2 hm F0.kp hb
  have k3 : FnOk P w K mg base (L2.CX P w) 4 f fd ps_law_tuples (spD K (F_tupN 2)) := fn_ok F0 sc_law_tuples (fun ds S Q E h => by unfold F_tupN at h; (try unfold RunF at h); (try unfold F_tupN at h); (repeat (obtain ⟨_, h⟩ := h)); (try subst_vars); rfl) (der_law_tuples fx h2) (dat_tupS K g 1)
  exact k3.mono (by decide)
theorem ok_law_odd {P : Program} {w : World} {K : PySem.W.Frag} {mg : Str → Option Value} {base : Heap} {g : Str → Addr} {f : Addr} {fd : FuncData} (fx : Fx P w K mg base g) (h_law_take : FnD P w K mg base 2 "_law_take" (F_law_take K g) []) (F0 : FunD K "_law_odd" "_law_odd" (defArgs st_law_odd) (defBody st_law_odd) (defScope st_law_odd) [] [] f fd) : FnOk P w K mg base (L2.CX P w) 3 f fd ps_law_odd (spD K (F_law_odd K g)) :=
  fn_ok F0 sc_law_odd (fun ds S Q E h => by unfold F_law_odd at h; (try unfold RunF at h); (try unfold F_tupN at h); (repeat (obtain ⟨_, h⟩ := h)); (try subst_vars); rfl) (der_law_odd fx h_law_take) (dat_law_odd K g)
theorem ok_law_best_runs {P : Program} {w : World} {K : PySem.W.Frag} {mg : Str → Option Value} {base : Heap} {g : Str → Addr} {f : Addr} {fd : FuncData} (fx : Fx P w K mg base g) (F0 : FunD K "_law_best_runs" "_law_best_runs" (defArgs st_law_best_runs) (defBody st_law_best_runs) (defScope st_law_best_runs) [] [] f fd) : FnOk P w K mg base (L2.CX P w) 1 f fd ps_law_best_runs (spD K (F_law_best_runs K g)) :=
  fn_ok F0 sc_law_best_runs (fun ds S Q E h => by unfold F_law_best_runs at h; (try unfold RunF at h); (try unfold F_tupN at h); (repeat (obtain ⟨_, h⟩ := h)); (try subst_vars); rfl) (der_law_best_runs fx) (dat_law_best_runs K g)
theorem ok_law_counts {P : Program} {w : World} {K : PySem.W.Frag} {mg : Str → Option Value} {base : Heap} {g : Str → Addr} {f : Addr} {fd : FuncData} (fx : Fx P w K mg base g) (F0 : FunD K "_law_counts" "_law_counts" (defArgs st_law_counts) (defBody st_law_counts) (defScope st_law_counts) [] [] f fd) : FnOk P w K mg base (L2.CX P w) 1 f fd ps_law_counts (spD K (F_law_counts K g)) :=
  fn_ok F0 sc_law_counts (fun ds S Q E h => by unfold F_law_counts at h; (try unfold RunF at h); (try unfold F_tupN at h); (repeat (obtain ⟨_, h⟩ := h)); (try subst_vars); rfl) (der_law_counts fx) (dat_law_counts K g)
theorem ok_law_length_word {P : Program} {w : World} {K : PySem.W.Frag} {mg : Str → Option Value} {base : Heap} {g : Str → Addr} {f : Addr} {fd : FuncData} (fx : Fx P w K mg base g) (h_all_runs : GnD P w K mg base 5 "all_runs" (F_all_runs K g) []) (h_count_runs : FnD P w K mg base 3 "count_runs" (F_count_runs K g) []) (F0 : FunD K "_law_length_word" "_law_length_word" (defArgs st_law_length_word) (defBody st_law_length_word) (defScope st_law_length_word) [] [] f fd) : FnOk P w K mg base (L2.CX P w) 9 f fd ps_law_length_word (spD K (F_law_length_word K g)) :=
  fn_ok F0 sc_law_length_word (fun ds S Q E h => by unfold F_law_length_word at h; (try unfold RunF at h); (try unfold F_tupN at h); (repeat (obtain ⟨_, h⟩ := h)); (try subst_vars); rfl) (der_law_length_word fx h_all_runs h_count_runs) (dat_law_length_word K g fx.exm_BadLength)
theorem ok_law_place_word {P : Program} {w : World} {K : PySem.W.Frag} {mg : Str → Option Value} {base : Heap} {g : Str → Addr} {f : Addr} {fd : FuncData} (fx : Fx P w K mg base g) (h_run_to : FnD P w K mg base 5 "run_to" (F_run_to K g) []) (F0 : FunD K "_law_place_word" "_law_place_word" (defArgs st_law_place_word) (defBody st_law_place_word) (defScope st_law_place_word) [] [] f fd) : FnOk P w K mg base (L2.CX P w) 6 f fd ps_law_place_word (spD K (F_law_place_word K g)) :=
  fn_ok F0 sc_law_place_word (fun ds S Q E h => by unfold F_law_place_word at h; (try unfold RunF at h); (try unfold F_tupN at h); (repeat (obtain ⟨_, h⟩ := h)); (try subst_vars); rfl) (der_law_place_word fx h_run_to) (dat_law_place_word K g fx.exm_BadPlace)
theorem ok_law {P : Program} {w : World} {K : PySem.W.Frag} {mg : Str → Option Value} {base : Heap} {g : Str → Addr} {f : Addr} {fd : FuncData} (fx : Fx P w K mg base g) (h_Chart__init : MkD P w K mg base 3 "Chart" (g "Chart") (F_Chart__init K g) []) (h_law_best_runs : FnD P w K mg base 1 "_law_best_runs" (F_law_best_runs K g) []) (h_law_chart : FnD P w K mg base 4 "_law_chart" (F_law_chart K g) []) (h_law_counts : FnD P w K mg base 1 "_law_counts" (F_law_counts K g) []) (h_law_hand : FnD P w K mg base 1 "_law_hand" (F_law_hand K g) []) (h_law_length_word : FnD P w K mg base 9 "_law_length_word" (F_law_length_word K g) []) (h_law_odd : FnD P w K mg base 3 "_law_odd" (F_law_odd K g) []) (h_law_place_word : FnD P w K mg base 6 "_law_place_word" (F_law_place_word K g) []) (h_law_places : FnD P w K mg base 1 "_law_places" (F_law_places K g) []) (h_law_take : FnD P w K mg base 2 "_law_take" (F_law_take K g) []) (h_law_tuples : FnD P w K mg base 4 "_law_tuples" (F_law_tuples K g) []) (h_all_runs : GnD P w K mg base 5 "all_runs" (F_all_runs K g) []) (h_count_runs : FnD P w K mg base 3 "count_runs" (F_count_runs K g) []) (h_run_to : FnD P w K mg base 5 "run_to" (F_run_to K g) []) (F0 : FunD K "law" "law" (defArgs st_law) (defBody st_law) (defScope st_law) [] [] f fd) : FnOk P w K mg base (L2.CX P w) 10 f fd ps_law (spD K (F_law K g)) :=
  fn_ok F0 sc_law (fun ds S Q E h => by unfold F_law at h; (try unfold RunF at h); (try unfold F_tupN at h); (repeat (obtain ⟨_, h⟩ := h)); (try subst_vars); rfl) (der_law fx h_Chart__init h_law_best_runs h_law_chart h_law_counts h_law_hand h_law_length_word h_law_odd h_law_place_word h_law_places h_law_take h_law_tuples h_all_runs h_count_runs h_run_to) (dat_law K g)
abbrev st_BadChart__init : Stmt := inClass (top 3) 0
theorem sc_BadChart__init : FnScope ["self", "what", "index"] ["self", "what", "index"] (defScope st_BadChart__init) := ⟨rfl, rfl, rfl, by decide +kernel, rfl, by decide +kernel, by decide +kernel⟩
theorem ok_BadChart__init {P : Program} {w : World} {K : PySem.W.Frag} {mg : Str → Option Value} {base : Heap} {C f : Addr} {fd : FuncData} (T : OexC K C) (n0 : PySem.W.findIn K (.ref C) "what" = some none) (n1 : PySem.W.findIn K (.ref C) "index" = some none) (F0 : FunD K "__init__" "BadChart.__init__" (defArgs st_BadChart__init) (defBody st_BadChart__init) (defScope st_BadChart__init) [] [] f fd) : FnOk P w K mg base (L2.CX P w) 1 f fd ["self", "what", "index"] (spX C ["what", "index"]) := by
  refine F0.ok sc_BadChart__init (fun vs H Q E h => ?_) fun cdv A outer s H vs Q E hr h => ?_
  · obtain ⟨a, ws, rfl, hl, _⟩ := h
    rw [List.length_cons, hl]; rfl
  · obtain ⟨a, ws, rfl, hl, ha, hq⟩ := h
    obtain ⟨x0, x1, rfl⟩ : ∃ x0 x1, ws = [x0, x1] := by
      match ws, hl with
      | [x0, x1], _ => exact ⟨x0, x1, rfl⟩
    refine ⟨tSeq (tOst K "what" (tVar 0) (tVar 1)) (tOst K "index" (tVar 0) (tVar 2)), pss_cons (ps_ost (pv 0) (pv 1)) (pss_one (ps_ost (pv 0) (pv 2))), x0, rfl, .ref a, rfl, a, C, rfl, T, n0, .inl ⟨ha, fun dx h1 h2 => ?_⟩⟩
    refine ⟨x1, rfl, .ref a, rfl, a, C, rfl, T, n1, .inr ⟨dx, [("what", x0)], upd_same, by rw [upd_ne h2, upd_same], by simp, hq dx _ h1 h2 (fun b o e hb => ?_) (by rw [upd_ne (fun z => h2 z.symm), upd_same]) (by rw [upd_same]; rfl)⟩⟩
    rw [upd_ne (ne_of_none e h1), upd_ne hb, upd_ne (ne_of_none e h1)]; exact e
abbrev st_BadPlace__init : Stmt := inClass (top 4) 0
theorem sc_BadPlace__init : FnScope ["self", "place"] ["self", "place"] (defScope st_BadPlace__init) := ⟨rfl, rfl, rfl, by decide +kernel, rfl, by decide +kernel, by decide +kernel⟩
theorem ok_BadPlace__init {P : Program} {w : World} {K : PySem.W.Frag} {mg : Str → Option Value} {base : Heap} {C f : Addr} {fd : FuncData} (T : OexC K C) (n0 : PySem.W.findIn K (.ref C) "place" = some none) (F0 : FunD K "__init__" "BadPlace.__init__" (defArgs st_BadPlace__init) (defBody st_BadPlace__init) (defScope st_BadPlace__init) [] [] f fd) : FnOk P w K mg base (L2.CX P w) 1 f fd ["self", "place"] (spX C ["place"]) := by
  refine F0.ok sc_BadPlace__init (fun vs H Q E h => ?_) fun cdv A outer s H vs Q E hr h => ?_
  · obtain ⟨a, ws, rfl, hl, _⟩ := h
    rw [List.length_cons, hl]; rfl
  · obtain ⟨a, ws, rfl, hl, ha, hq⟩ := h
    obtain ⟨x0, rfl⟩ : ∃ x0, ws = [x0] := by
      match ws, hl with
      | [x0], _ => exact ⟨x0, rfl⟩
    refine ⟨tOst K "place" (tVar 0) (tVar 1), pss_one (ps_ost (pv 0) (pv 1)), x0, rfl, .ref a, rfl, a, C, rfl, T, n0, .inl ⟨ha, fun dx h1 h2 => hq dx _ h1 h2 (fun b o e hb => ?_) upd_same (by rw [upd_ne h2, upd_same]; rfl)⟩⟩
    rw [upd_ne hb, upd_ne (ne_of_none e h1)]; exact e
abbrev st_BadLength__init : Stmt := inClass (top 5) 0
theorem sc_BadLength__init : FnScope ["self", "length"] ["self", "length"] (defScope st_BadLength__init) := ⟨rfl, rfl, rfl, by decide +kernel, rfl, by decide +kernel, by decide +kernel⟩
theorem ok_BadLength__init {P : Program} {w : World} {K : PySem.W.Frag} {mg : Str → Option Value} {base : Heap} {C f : Addr} {fd : FuncData} (T : OexC K C) (n0 : PySem.W.findIn K (.ref C) "length" = some none) (F0 : FunD K "__init__" "BadLength.__init__" (defArgs st_BadLength__init) (defBody st_BadLength__init) (defScope st_BadLength__init) [] [] f fd) : FnOk P w K mg base (L2.CX P w) 1 f fd ["self", "length"] (spX C ["length"]) := by
  refine F0.ok sc_BadLength__init (fun vs H Q E h => ?_) fun cdv A outer s H vs Q E hr h => ?_
  · obtain ⟨a, ws, rfl, hl, _⟩ := h
    rw [List.length_cons, hl]; rfl
  · obtain ⟨a, ws, rfl, hl, ha, hq⟩ := h
    obtain ⟨x0, rfl⟩ : ∃ x0, ws = [x0] := by
      match ws, hl with
      | [x0], _ => exact ⟨x0, rfl⟩
    refine ⟨tOst K "length" (tVar 0) (tVar 1), pss_one (ps_ost (pv 0) (pv 1)), x0, rfl, .ref a, rfl, a, C, rfl, T, n0, .inl ⟨ha, fun dx h1 h2 => hq dx _ h1 h2 (fun b o e hb => ?_) upd_same (by rw [upd_ne h2, upd_same]; rfl)⟩⟩
    rw [upd_ne hb, upd_ne (ne_of_none e h1)]; exact e
def dd0 : He.DefD := ⟨("is_whole", none), "is_whole", "is_whole", defArgs st_is_whole, defBody st_is_whole, defScope st_is_whole, [], []⟩
def dd1 : He.DefD := ⟨("is_row", none), "is_row", "is_row", defArgs st_is_row, defBody st_is_row, defScope st_is_row, [], []⟩
def dd2 : He.DefD := ⟨("check_place", none), "check_place", "check_place", defArgs st_check_place, defBody st_check_place, defScope st_check_place, [], []⟩
def dd3 : He.DefD := ⟨("reached_places", none), "reached_places", "reached_places", defArgs st_reached_places, defBody st_reached_places, defScope st_reached_places, [], []⟩
def dd4 : He.DefD := ⟨("Chart", some "__init__"), "__init__", "Chart.__init__", defArgs st_Chart__init, defBody st_Chart__init, defScope st_Chart__init, [], []⟩
def dd5 : He.DefD := ⟨("Chart", some "outs"), "outs", "Chart.outs", defArgs st_Chart_outs, defBody st_Chart_outs, defScope st_Chart_outs, [], []⟩
def dd6 : He.DefD := ⟨("all_runs", none), "all_runs", "all_runs", defArgs st_all_runs, defBody st_all_runs, defScope st_all_runs, [], []⟩
def dd7 : He.DefD := ⟨("count_runs", none), "count_runs", "count_runs", defArgs st_count_runs, defBody st_count_runs, defScope st_count_runs, [], []⟩
def dd8 : He.DefD := ⟨("run_to", none), "run_to", "run_to", defArgs st_run_to, defBody st_run_to, defScope st_run_to, [], []⟩
def dd9 : He.DefD := ⟨("_law_hand", none), "_law_hand", "_law_hand", defArgs st_law_hand, defBody st_law_hand, defScope st_law_hand, [], []⟩
def dd10 : He.DefD := ⟨("_law_mixed", none), "_law_mixed", "_law_mixed", defArgs st_law_mixed, defBody st_law_mixed, defScope st_law_mixed, [], []⟩
def dd11 : He.DefD := ⟨("_law_take", none), "_law_take", "_law_take", defArgs st_law_take, defBody st_law_take, defScope st_law_take, [], []⟩
def dd12 : He.DefD := ⟨("_law_renumbered", none), "_law_renumbered", "_law_renumbered", defArgs st_law_renumbered, defBody st_law_renumbered, defScope st_law_renumbered, [], []⟩
def dd13 : He.DefD := ⟨("_law_costs", none), "_law_costs", "_law_costs", defArgs st_law_costs, defBody st_law_costs, defScope st_law_costs, [], []⟩
def dd14 : He.DefD := ⟨("_law_chart", none), "_law_chart", "_law_chart", defArgs st_law_chart, defBody st_law_chart, defScope st_law_chart, [], []⟩
def dd15 : He.DefD := ⟨("_law_places", none), "_law_places", "_law_places", defArgs st_law_places, defBody st_law_places, defScope st_law_places, [], []⟩
def dd16 : He.DefD := ⟨("_law_tuples", none), "_law_tuples", "_law_tuples", defArgs st_law_tuples, defBody st_law_tuples, defScope st_law_tuples, [], []⟩
def dd17 : He.DefD := ⟨("_law_odd", none), "_law_odd", "_law_odd", defArgs st_law_odd, defBody st_law_odd, defScope st_law_odd, [], []⟩
def dd18 : He.DefD := ⟨("_law_best_runs", none), "_law_best_runs", "_law_best_runs", defArgs st_law_best_runs, defBody st_law_best_runs, defScope st_law_best_runs, [], []⟩
def dd19 : He.DefD := ⟨("_law_counts", none), "_law_counts", "_law_counts", defArgs st_law_counts, defBody st_law_counts, defScope st_law_counts, [], []⟩
def dd20 : He.DefD := ⟨("_law_length_word", none), "_law_length_word", "_law_length_word", defArgs st_law_length_word, defBody st_law_length_word, defScope st_law_length_word, [], []⟩
def dd21 : He.DefD := ⟨("_law_place_word", none), "_law_place_word", "_law_place_word", defArgs st_law_place_word, defBody st_law_place_word, defScope st_law_place_word, [], []⟩
def dd22 : He.DefD := ⟨("law", none), "law", "law", defArgs st_law, defBody st_law, defScope st_law, [], []⟩
def dd23 : He.DefD := ⟨("BadChart", some "__init__"), "__init__", "BadChart.__init__", defArgs st_BadChart__init, defBody st_BadChart__init, defScope st_BadChart__init, [], []⟩
def dd24 : He.DefD := ⟨("BadPlace", some "__init__"), "__init__", "BadPlace.__init__", defArgs st_BadPlace__init, defBody st_BadPlace__init, defScope st_BadPlace__init, [], []⟩
def dd25 : He.DefD := ⟨("BadLength", some "__init__"), "__init__", "BadLength.__init__", defArgs st_BadLength__init, defBody st_BadLength__init, defScope st_BadLength__init, [], []⟩
def hfn : List He.DefD := [dd0, dd1, dd2, dd3, dd4, dd5, dd6, dd7, dd8, dd9, dd10, dd11, dd12, dd13, dd14, dd15, dd16, dd17, dd18, dd19, dd20, dd21, dd22, dd23, dd24, dd25]
def hfa : List He.Fa := [.glo "is_whole", .glo "is_row", .glo "check_place", .glo "reached_places", .glo "all_runs", .glo "count_runs", .glo "run_to", .glo "_law_hand", .glo "_law_mixed", .glo "_law_take", .glo "_law_renumbered", .glo "_law_costs", .glo "_law_chart", .glo "_law_places", .glo "_law_tuples", .glo "_law_odd", .glo "_law_best_runs", .glo "_law_counts", .glo "_law_length_word", .glo "_law_place_word", .glo "law", .cls "Chart", .glo "BadChart", .meth "BadChart" "__init__", .noat "BadChart" "what", .noat "BadChart" "index", .glo "BadLength", .meth "BadLength" "__init__", .noat "BadLength" "length", .glo "BadPlace", .meth "BadPlace" "__init__", .noat "BadPlace" "place", .exm "BadLength" "BadLength" true, .exm "BadPlace" "BadPlace" true, .free "abs", .free "bool", .free "enumerate", .free "int", .free "isinstance", .free "len", .free "list", .free "range", .free "reversed", .free "str", .free "sum", .free "tuple", .noat "Chart" "arrows", .noat "Chart" "costs", .meth "Chart" "outs", .mkr "Chart", .glo "Chart"]
def hex : PySem.W.Frag → Bool := fun K => oexB K (He.ga K "BadChart") && oexB K (He.ga K "BadLength") && oexB K (He.ga K "BadPlace") && nosB K (He.ga K "BadLength") && xfB K (He.ga K "BadLength") && xfB K (He.ga K "BadPlace")
abbrev hR : PySem.W.OpenRow := PySem.W.OpenLaw.row PySem.Challenge.rw_purseahead_k03_whole_all_runs_in_order
abbrev hhk : PySem.W.Hook := He.hookX 6 hfa hfn [] [] hex
def hob (s : PySem.W.SharedT) : He.AlX := He.obsX 6 hfa hfn [] [] hex (HandSHeadRun.getT s)
theorem hob_eq (s : PySem.W.SharedT) : hob s = hhk.obs s.abs := He.obsX_eq (HandSHeadRun.getT_eq s)
def hloose : List Str := ["_wall", "MeterError", "ValueError", "BadChart", "BadPlace", "BadLength", "is_whole", "is_row", "check_place", "reached_places", "Chart", "all_runs", "count_runs", "run_to", "_law_hand", "_law_mixed", "_law_take", "_law_chart", "_law_renumbered", "_law_costs", "_law_places", "_law_tuples", "_law_odd", "_law_best_runs", "_law_counts", "_law_length_word", "_law_place_word"]
theorem hrun (w : World) : HandSHeadRun.RunEq hR (PySem.W.view hR.prog [31]) hhk hob 20000 hloose w := by
  intro os
  kernel_rfl
theorem facts {P : Program} {w : World} {K : PySem.W.Frag} {h : Heap} {mg : Str → Option Value} {f : Addr} (X : K.In h) (G : h.Ns mainGlobals mg) (hfa0 : mg ("law" : Str) = some (.ref f)) (cX : He.SaysX hfa hfn [] [] hex w h K) :
    ∃ fd : FuncData, (∀ (s : Shared) (v : Value), BindsTo s fd ⟨[v], []⟩ [("_law_script", v)]) ∧ ∀ base : Heap, K.In base → base.Ns mainGlobals mg → FnOk P w K mg base CXE 10 f fd ["_law_script"] (spD K (F_law K (He.ga K))) := by
  have c : He.SaysD hfa hfn K := cX.t.d
  have hx := cX.more
  unfold hex at hx
  simp only [Bool.and_eq_true] at hx
  obtain ⟨⟨⟨⟨⟨hx0, hx1⟩, hx2⟩, hx3⟩, hx4⟩, hx5⟩ := hx
  obtain ⟨fd0, F0⟩ := c.def_ 0 (d := dd0) (by rfl)
  obtain ⟨fd1, F1⟩ := c.def_ 1 (d := dd1) (by rfl)
  obtain ⟨fd2, F2⟩ := c.def_ 2 (d := dd2) (by rfl)
  obtain ⟨fd3, F3⟩ := c.def_ 3 (d := dd3) (by rfl)
  obtain ⟨fd4, F4⟩ := c.def_ 4 (d := dd4) (by rfl)
  obtain ⟨fd5, F5⟩ := c.def_ 5 (d := dd5) (by rfl)
  obtain ⟨fd6, F6⟩ := c.def_ 6 (d := dd6) (by rfl)
  obtain ⟨fd7, F7⟩ := c.def_ 7 (d := dd7) (by rfl)
  obtain ⟨fd8, F8⟩ := c.def_ 8 (d := dd8) (by rfl)
  obtain ⟨fd9, F9⟩ := c.def_ 9 (d := dd9) (by rfl)
  obtain ⟨fd10, F10⟩ := c.def_ 10 (d := dd10) (by rfl)
  obtain ⟨fd11, F11⟩ := c.def_ 11 (d := dd11) (by rfl)
  obtain ⟨fd12, F12⟩ := c.def_ 12 (d := dd12) (by rfl)
  obtain ⟨fd13, F13⟩ := c.def_ 13 (d := dd13) (by rfl)
  obtain ⟨fd14, F14⟩ := c.def_ 14 (d := dd14) (by rfl)
  obtain ⟨fd15, F15⟩ := c.def_ 15 (d := dd15) (by rfl)
  obtain ⟨fd16, F16⟩ := c.def_ 16 (d := dd16) (by rfl)
  obtain ⟨fd17, F17⟩ := c.def_ 17 (d := dd17) (by rfl)
  obtain ⟨fd18, F18⟩ := c.def_ 18 (d := dd18) (by rfl)
  obtain ⟨fd19, F19⟩ := c.def_ 19 (d := dd19) (by rfl)
  obtain ⟨fd20, F20⟩ := c.def_ 20 (d := dd20) (by rfl)
  obtain ⟨fd21, F21⟩ := c.def_ 21 (d := dd21) (by rfl)
  obtain ⟨fd22, F22⟩ := c.def_ 22 (d := dd22) (by rfl)
  obtain ⟨fd23, F23⟩ := c.def_ 23 (d := dd23) (by rfl)
  obtain ⟨fd24, F24⟩ := c.def_ 24 (d := dd24) (by rfl)
  obtain ⟨fd25, F25⟩ := c.def_ 25 (d := dd25) (by rfl)
  have e := hfa0.symm.trans (He.glo_ok X G (c.fact 20 (f := .glo "law") (by rfl)))
  cases e
  have b := FunD.bindsA (ps := ["_law_script"]) F22 fun _ _ _ _ _ _ us hl => match us, hl with | [_], _ => rfl
  refine ⟨fd22, fun s v => b s [v] rfl, fun base _ _ => ?_⟩
  have fx : Fx P w K mg base (He.ga K) := ⟨He.cls_ok (c.fact 21 (f := .cls "Chart") (by rfl)),
    ⟨_, _, _, oexB_ok hx0, (He.meth_ok (c.fact 23 (f := .meth "BadChart" "__init__") (by rfl))).at_, beq_iff_eq.mp (He.meth_ok (c.fact 23 (f := .meth "BadChart" "__init__") (by rfl))).fn, ok_BadChart__init (oexB_ok hx0) (He.noat_ok (c.fact 24 (f := .noat "BadChart" "what") (by rfl))) (He.noat_ok (c.fact 25 (f := .noat "BadChart" "index") (by rfl))) F23, FunD.bindsN F23 fun _ _ _ _ _ _ us hl => match us, hl with | [_, _, _], _ => rfl, He.glo_ok X G (c.fact 22 (f := .glo "BadChart") (by rfl))⟩,
    ⟨_, _, _, oexB_ok hx1, (He.meth_ok (c.fact 27 (f := .meth "BadLength" "__init__") (by rfl))).at_, beq_iff_eq.mp (He.meth_ok (c.fact 27 (f := .meth "BadLength" "__init__") (by rfl))).fn, ok_BadLength__init (oexB_ok hx1) (He.noat_ok (c.fact 28 (f := .noat "BadLength" "length") (by rfl))) F25, FunD.bindsN F25 fun _ _ _ _ _ _ us hl => match us, hl with | [_, _], _ => rfl, He.glo_ok X G (c.fact 26 (f := .glo "BadLength") (by rfl))⟩,
    ⟨_, _, _, oexB_ok hx2, (He.meth_ok (c.fact 30 (f := .meth "BadPlace" "__init__") (by rfl))).at_, beq_iff_eq.mp (He.meth_ok (c.fact 30 (f := .meth "BadPlace" "__init__") (by rfl))).fn, ok_BadPlace__init (oexB_ok hx2) (He.noat_ok (c.fact 31 (f := .noat "BadPlace" "place") (by rfl))) F24, FunD.bindsN F24 fun _ _ _ _ _ _ us hl => match us, hl with | [_, _], _ => rfl, He.glo_ok X G (c.fact 29 (f := .glo "BadPlace") (by rfl))⟩,
    He.exm_ok (c.fact 32 (f := .exm "BadLength" "BadLength" true) (by rfl)),
    He.exm_ok (c.fact 33 (f := .exm "BadPlace" "BadPlace" true) (by rfl)),
    He.glo_ok X G (c.fact 26 (f := .glo "BadLength") (by rfl)),
    He.glo_ok X G (c.fact 29 (f := .glo "BadPlace") (by rfl)),
    He.free_ok X G (c.fact 34 (f := .free "abs") (by rfl)),
    He.free_ok X G (c.fact 35 (f := .free "bool") (by rfl)),
    He.free_ok X G (c.fact 36 (f := .free "enumerate") (by rfl)),
    He.free_ok X G (c.fact 37 (f := .free "int") (by rfl)),
    He.free_ok X G (c.fact 38 (f := .free "isinstance") (by rfl)),
    He.free_ok X G (c.fact 39 (f := .free "len") (by rfl)),
    He.free_ok X G (c.fact 40 (f := .free "list") (by rfl)),
    He.free_ok X G (c.fact 41 (f := .free "range") (by rfl)),
    He.free_ok X G (c.fact 42 (f := .free "reversed") (by rfl)),
    He.free_ok X G (c.fact 43 (f := .free "str") (by rfl)),
    He.free_ok X G (c.fact 44 (f := .free "sum") (by rfl)),
    He.free_ok X G (c.fact 45 (f := .free "tuple") (by rfl)),
    He.noat_ok (c.fact 46 (f := .noat "Chart" "arrows") (by rfl)),
    He.noat_ok (c.fact 47 (f := .noat "Chart" "costs") (by rfl)),
    He.noat_ok (c.fact 28 (f := .noat "BadLength" "length") (by rfl)),
    He.noat_ok (c.fact 31 (f := .noat "BadPlace" "place") (by rfl)),
    nosB_ok hx3,
    xfB_ok hx4,
    xfB_ok hx5⟩
  have h_is_whole : FnD P w K mg base 1 "is_whole" (F_is_whole K (He.ga K)) [] := FnOk.fnD (ok_is_whole fx F0) (He.glo_ok X G (c.fact 0 (f := .glo "is_whole") (by rfl))) F0.kp (FunD.bindsN (ps := ps_is_whole) F0 fun _ _ _ _ _ _ us hl => match us, hl with | [_, _, _], _ => rfl)
  have h_is_row : FnD P w K mg base 1 "is_row" (F_is_row K (He.ga K)) [] := FnOk.fnD (ok_is_row fx F1) (He.glo_ok X G (c.fact 1 (f := .glo "is_row") (by rfl))) F1.kp (FunD.bindsN (ps := ps_is_row) F1 fun _ _ _ _ _ _ us hl => match us, hl with | [_, _, _], _ => rfl)
  have h_check_place : FnD P w K mg base 3 "check_place" (F_check_place K (He.ga K)) [] := FnOk.fnD (ok_check_place fx h_is_whole F2) (He.glo_ok X G (c.fact 2 (f := .glo "check_place") (by rfl))) F2.kp (FunD.bindsN (ps := ps_check_place) F2 fun _ _ _ _ _ _ us hl => match us, hl with | [_, _], _ => rfl)
  have h_reached_places : FnD P w K mg base 1 "reached_places" (F_reached_places K (He.ga K)) [] := FnOk.fnD (ok_reached_places fx F3) (He.glo_ok X G (c.fact 3 (f := .glo "reached_places") (by rfl))) F3.kp (FunD.bindsN (ps := ps_reached_places) F3 fun _ _ _ _ _ _ us hl => match us, hl with | [_, _], _ => rfl)
  have h_Chart__init : MkD P w K mg base 3 "Chart" (He.ga K "Chart") (F_Chart__init K (He.ga K)) [] := ⟨_, _, _, [], [], He.mkr_ok (c.fact 49 (f := .mkr "Chart") (by rfl)), ok_Chart__init fx h_is_row h_is_whole h_reached_places F4, He.glo_ok X G (c.fact 50 (f := .glo "Chart") (by rfl)), (FunD.bindsN (ps := ps_Chart__init) F4 fun _ _ _ _ _ _ us hl => match us, hl with | [_, _, _], _ => rfl), .nil, fun _ => .nil⟩
  have h_Chart_outs : MtD P w K mg base 4 (He.ga K "Chart") "outs" (F_Chart_outs K (He.ga K)) [] := ⟨_, _, _, [], [], He.cls_ok (c.fact 21 (f := .cls "Chart") (by rfl)), He.meth_ok (c.fact 48 (f := .meth "Chart" "outs") (by rfl)), ok_Chart_outs fx h_check_place F5, (FunD.bindsN (ps := ps_Chart_outs) F5 fun _ _ _ _ _ _ us hl => match us, hl with | [_, _], _ => rfl), .nil, fun _ => .nil⟩
  have h_all_runs : GnD P w K mg base 5 "all_runs" (F_all_runs K (He.ga K)) [] := ⟨_, _, _, [], [], ok_all_runs fx h_Chart_outs h_is_whole F6, (He.glo_ok X G (c.fact 4 (f := .glo "all_runs") (by rfl))), F6.kp, (FunD.bindsN (ps := ps_all_runs) F6 fun _ _ _ _ _ _ us hl => match us, hl with | [_, _], _ => rfl), .nil, fun _ => .nil⟩
  have h_count_runs : FnD P w K mg base 3 "count_runs" (F_count_runs K (He.ga K)) [] := FnOk.fnD (ok_count_runs fx h_is_whole F7) (He.glo_ok X G (c.fact 5 (f := .glo "count_runs") (by rfl))) F7.kp (FunD.bindsN (ps := ps_count_runs) F7 fun _ _ _ _ _ _ us hl => match us, hl with | [_, _], _ => rfl)
  have h_run_to : FnD P w K mg base 5 "run_to" (F_run_to K (He.ga K)) [] := FnOk.fnD (ok_run_to fx h_Chart_outs h_check_place F8) (He.glo_ok X G (c.fact 6 (f := .glo "run_to") (by rfl))) F8.kp (FunD.bindsN (ps := ps_run_to) F8 fun _ _ _ _ _ _ us hl => match us, hl with | [_, _], _ => rfl)
  have h_law_hand : FnD P w K mg base 1 "_law_hand" (F_law_hand K (He.ga K)) [] := FnOk.fnD (ok_law_hand fx F9) (He.glo_ok X G (c.fact 7 (f := .glo "_law_hand") (by rfl))) F9.kp (FunD.bindsN (ps := ps_law_hand) F9 fun _ _ _ _ _ _ us hl => match us, hl with | [_], _ => rfl)
  have h_law_mixed : FnD P w K mg base 1 "_law_mixed" (F_law_mixed K (He.ga K)) [] := FnOk.fnD (ok_law_mixed fx F10) (He.glo_ok X G (c.fact 8 (f := .glo "_law_mixed") (by rfl))) F10.kp (FunD.bindsN (ps := ps_law_mixed) F10 fun _ _ _ _ _ _ us hl => match us, hl with | [_, _], _ => rfl)
  have h_law_take : FnD P w K mg base 2 "_law_take" (F_law_take K (He.ga K)) [] := FnOk.fnD (ok_law_take fx h_law_mixed F11) (He.glo_ok X G (c.fact 9 (f := .glo "_law_take") (by rfl))) F11.kp (FunD.bindsN (ps := ps_law_take) F11 fun _ _ _ _ _ _ us hl => match us, hl with | [_, _], _ => rfl)
  have h_law_renumbered : FnD P w K mg base 3 "_law_renumbered" (F_law_renumbered K (He.ga K)) [] := FnOk.fnD (ok_law_renumbered fx h_law_take F12) (He.glo_ok X G (c.fact 10 (f := .glo "_law_renumbered") (by rfl))) F12.kp (FunD.bindsN (ps := ps_law_renumbered) F12 fun _ _ _ _ _ _ us hl => match us, hl with | [_, _, _], _ => rfl)
  have h_law_costs : FnD P w K mg base 3 "_law_costs" (F_law_costs K (He.ga K)) [] := FnOk.fnD (ok_law_costs fx h_law_take F13) (He.glo_ok X G (c.fact 11 (f := .glo "_law_costs") (by rfl))) F13.kp (FunD.bindsN (ps := ps_law_costs) F13 fun _ _ _ _ _ _ us hl => match us, hl with | [_, _], _ => rfl)
  have h_law_chart : FnD P w K mg base 4 "_law_chart" (F_law_chart K (He.ga K)) [] := FnOk.fnD (ok_law_chart fx h_law_costs h_law_renumbered h_law_take F14) (He.glo_ok X G (c.fact 12 (f := .glo "_law_chart") (by rfl))) F14.kp (FunD.bindsN (ps := ps_law_chart) F14 fun _ _ _ _ _ _ us hl => match us, hl with | [_, _, _], _ => rfl)
  have h_law_places : FnD P w K mg base 1 "_law_places" (F_law_places K (He.ga K)) [] := FnOk.fnD (ok_law_places fx F15) (He.glo_ok X G (c.fact 13 (f := .glo "_law_places") (by rfl))) F15.kp (FunD.bindsN (ps := ps_law_places) F15 fun _ _ _ _ _ _ us hl => match us, hl with | [_, _], _ => rfl)
  have h_law_tuples : FnD P w K mg base 4 "_law_tuples" (F_law_tuples K (He.ga K)) [] := FnOk.fnD (ok_law_tuples fx F16 (He.glo_ok X G (c.fact 14 (f := .glo "_law_tuples") (by rfl))) (FunD.bindsN (ps := ps_law_tuples) F16 fun _ _ _ _ _ _ us hl => match us, hl with | [_], _ => rfl)) (He.glo_ok X G (c.fact 14 (f := .glo "_law_tuples") (by rfl))) F16.kp (FunD.bindsN (ps := ps_law_tuples) F16 fun _ _ _ _ _ _ us hl => match us, hl with | [_], _ => rfl)
  have h_law_odd : FnD P w K mg base 3 "_law_odd" (F_law_odd K (He.ga K)) [] := FnOk.fnD (ok_law_odd fx h_law_take F17) (He.glo_ok X G (c.fact 15 (f := .glo "_law_odd") (by rfl))) F17.kp (FunD.bindsN (ps := ps_law_odd) F17 fun _ _ _ _ _ _ us hl => match us, hl with | [_, _], _ => rfl)
  have h_law_best_runs : FnD P w K mg base 1 "_law_best_runs" (F_law_best_runs K (He.ga K)) [] := FnOk.fnD (ok_law_best_runs fx F18) (He.glo_ok X G (c.fact 16 (f := .glo "_law_best_runs") (by rfl))) F18.kp (FunD.bindsN (ps := ps_law_best_runs) F18 fun _ _ _ _ _ _ us hl => match us, hl with | [_, _], _ => rfl)
  have h_law_counts : FnD P w K mg base 1 "_law_counts" (F_law_counts K (He.ga K)) [] := FnOk.fnD (ok_law_counts fx F19) (He.glo_ok X G (c.fact 17 (f := .glo "_law_counts") (by rfl))) F19.kp (FunD.bindsN (ps := ps_law_counts) F19 fun _ _ _ _ _ _ us hl => match us, hl with | [_, _, _], _ => rfl)
  have h_law_length_word : FnD P w K mg base 9 "_law_length_word" (F_law_length_word K (He.ga K)) [] := FnOk.fnD (ok_law_length_word fx h_all_runs h_count_runs F20) (He.glo_ok X G (c.fact 18 (f := .glo "_law_length_word") (by rfl))) F20.kp (FunD.bindsN (ps := ps_law_length_word) F20 fun _ _ _ _ _ _ us hl => match us, hl with | [_, _, _], _ => rfl)
  have h_law_place_word : FnD P w K mg base 6 "_law_place_word" (F_law_place_word K (He.ga K)) [] := FnOk.fnD (ok_law_place_word fx h_run_to F21) (He.glo_ok X G (c.fact 19 (f := .glo "_law_place_word") (by rfl))) F21.kp (FunD.bindsN (ps := ps_law_place_word) F21 fun _ _ _ _ _ _ us hl => match us, hl with | [_, _], _ => rfl)
  exact cxe (ok_law fx h_Chart__init h_law_best_runs h_law_chart h_law_counts h_law_hand h_law_length_word h_law_odd h_law_place_word h_law_places h_law_take h_law_tuples h_all_runs h_count_runs h_run_to F22)
theorem law_start {K : PySem.W.Frag} {g : Str → Addr} {H : Hp} {a : Addr} {ns : List Int} (hl : ns.length ≤ 63) (hS : SqL K H a (ns.map V.int)) : spD K (F_law K g) [.ref a] H (fun v _ => v = .bl true) fun _ _ _ => False := by
  have fin : ∀ S : Sto, Rel K (fun _ => none) S H → IsScr K S a ns → spD K (F_law K g) [.ref a] H (fun v _ => v = .bl true) fun _ _ _ => False := fun S r e =>
    ⟨fun _ => none, S, [.raw a], fun d _ => d = .bl true, fun _ _ _ => False, r, .cons (.raw a) .nil, ⟨a, ns, rfl, e, by omega, fun _ => rfl⟩, fun Z' S' H' d v _ _ p h => by subst h; cases p; rfl, fun _ _ _ _ _ _ _ _ _ h => h⟩
  have mk : ∀ u : HO, H a = some u → (u = .lst (ns.map V.int) ∨ ∃ o, u = .frz o (.lst (ns.map V.int))) → spD K (F_law K g) [.ref a] H (fun v _ => v = .bl true) fun _ _ _ => False := fun u hu hp =>
    fin (fun b => if b = a then some (.abs (scrP ns)) else none) ⟨(fun b w e => by cases e), fun b o e => by
      by_cases hb : b = a
      · subst hb
        simp only [if_true] at e
        cases e
        exact ⟨rfl, u, hu, hp⟩
      · simp only [hb, if_false] at e; cases e⟩ (.inl (by simp))
  rcases hS with (h | ⟨o, h⟩) | h
  · exact mk _ h (.inl rfl)
  · exact mk _ h (.inr ⟨o, rfl⟩)
  · exact fin (fun _ => none) ⟨(fun b w e => by cases e), (fun b o e => by cases e)⟩ (.inr h)
end DL
open PySem PySem.W PySem.Calls PyProof.Rows
theorem PySem.Challenge.cw_purseahead_k03_whole_all_runs_in_order_holds : PySem.Challenge.rw_purseahead_k03_whole_all_runs_in_order.Holds := by
  w_on; o_law
  refine HandSHeadRun.head_any (r := OpenLaw.row PySem.Challenge.rw_purseahead_k03_whole_all_runs_in_order) (q := view (OpenLaw.row PySem.Challenge.rw_purseahead_k03_whole_all_runs_in_order).prog [31]) (H := DL.hhk) (ob := DL.hob) (M := 20000) (loose := DL.hloose) (d := HandSHeadRun.topDef (OpenLaw.row PySem.Challenge.rw_purseahead_k03_whole_all_runs_in_order).prog 31) (kwd := []) DL.hob_eq
    (by kernel_rfl) (fun s => by kernel_rfl) DL.hrun (by kernel_rfl) (by kernel_rfl) (by kernel_rfl) (by rfl) (by first | assumption | decide +kernel) (by decide +kernel) ⟨rfl, rfl, rfl, rfl, rfl, by decide +kernel⟩ ?hw ?hc
  case hw => w_witness2
  case hc =>
    refine L2.walk_ofE (l := PySem.Challenge.rw_purseahead_k03_whole_all_runs_in_order) (n := 63) (k := 10) (x := "_law_script") (CX := DL.CXE) rfl (by decide) (by kernel_rfl) ⟨rfl, by decide, by decide⟩ ?F DL.cxe_end
    intro w mg fa h Y G hmg0
    obtain ⟨K, KX, c⟩ := Y
    have hmg : mg ("law" : PySem.Str) = some (.ref fa) := by
      have e : (HandSHeadRun.topDef (OpenLaw.row PySem.Challenge.rw_purseahead_k03_whole_all_runs_in_order).prog 31).name = ("law" : PySem.Str) := by kernel_rfl
      rw [← e]
      exact hmg0
    obtain ⟨fd, hb, hF⟩ := DL.facts (P := (PySem.Challenge.rw_purseahead_k03_whole_all_runs_in_order).prog) (w := w) KX G hmg c
    exact ⟨K, fd, _, KX, hb, fun H a ns hl ho hS => DL.law_start hl hS, hF⟩
end
