import PyProof.Rows.All
import Wide.All
import OpenK.AllK
import Wide.FinOn
import HandS.ForMost
import HandS.Walk
import KE.GoesMore
import KE.GoesEnum
import PyProof.Draws
import HandS.ForExc
import HandS.ForDict
import HandS.Defaults
import HandS.IsInst
import HandS.Conv
import HandS.Wide
import HandS.Flow
import HandS.TupAny
import HandS.TupMul
import HandS.Style
import HandS.Zip
import HandS.CallSlots
import HandS.Rev
import HandS.TryOnly
import HandS.ExcInit
import HandS.ExcField
import HandS.More
import HandS.Words
import HandS.Property
import KE.KRevSl
import HandS.GenList
import PyProof.ForAny
import HandS.TupLe
import HandS.NoneIn
import KE.KTupSum
import PyProof.P3Eq
import KE.KStateDown
import HandS.Head2
import HandS.HeadEnd
import HandS.HeadHook4
import PySem.Challenge.RW_purseahead_k16_whole_least_numbers_or_a
section
set_option Elab.async false
set_option linter.all false
set_option autoImplicit false
set_option maxRecDepth 100000
set_option maxHeartbeats 2000000
/-! DL0: enumerate over a tuple; a walk over a list or a tuple. -/
namespace PySem
open Sem (wp)
open AutoSeq1 (wpAny_loadPart')
set_option maxHeartbeats 1000000 in
theorem meets_enumerate_newT {v : Value} {o : Obj} {H : Heap → Prop} (B : Begins v o H) :
    Meets (Builtin.«enumerate.__new__» ⟨[.type "enumerate", v], []⟩) (fun _ R s => H s.heap ∧
      R (.ok (.ret (.ref (s.heap.push o).objs.size))) { s with heap := (s.heap.push o).push { cls := .type "enumerate", data := .fields #[.none, .bool false, .ref s.heap.objs.size, rawInt 0, .none, .none] } }) :=
  .of_wp fun prog w A R s h => by
    obtain ⟨hp, g, d, tk, os⟩ := s; obtain ⟨h1, h⟩ := h
    have hsub := sub_enumerate
    have q1 : ∀ {A' : Around} {E : Value → Shared → Prop} {Q : Value → Shared → Prop}, Q (.ref hp.objs.size) ⟨hp.push o, g, d, tk, os⟩ → wpAny (model prog w) A' (pyIter v) Q E ⟨hp, g, d, tk, os⟩ :=
      fun q => B.iter prog w _ _ ⟨hp, g, d, tk, os⟩ _ h1 q
    wp_walk using q1
    refine wpAny_stack_any fun st => wpAny_pure ?_
    split
    · rename_i c _ _ _ _ _
      cases (c == Value.type "enumerate")
      · wp_walk using q1
        exact ⟨_, rfl, h⟩
      · wp_walk using q1
        exact ⟨_, rfl, h⟩
    · wp_walk using q1
      exact ⟨_, rfl, h⟩
section
variable {prog : Program} {w : World} {A : Around} {E : Value → Shared → Prop} {s : Shared}
theorem enum_begins1 {v : Value} {o : Obj} {H : Heap → Prop} {Q : Value → Shared → Prop} (B : Begins v o H) (h1 : H s.heap)
    (h : ∀ h', IsEnum h' (s.heap.objs.size + 1) s.heap.objs.size 0 .none → h'.get? s.heap.objs.size = some o → h'.objs.size = s.heap.objs.size + 2 →
      (∀ b o, s.heap.get? b = some o → h'.get? b = some o) → Q (.ref (s.heap.objs.size + 1)) { s with heap := h' }) :
    wpAny (model prog w) A (call (.type "enumerate") [v]) Q E s := by
  refine callType_new F.called_enumerate (by decide) (F.typeCall_enumerate_1 _) (F.newCall_enumerate_1 _) (fun obj => F.args_object_init_2 obj _) F.entry_enumerate_new
    (meets_enumerate_newT B) ⟨h1, ?_⟩
  have hz : (s.heap.push o).objs.size = s.heap.objs.size + 1 := Heap.size_push ..
  show _ ∧ _
  rw [hz]
  have he : IsEnum ((s.heap.push o).push { cls := .type "enumerate", data := .fields #[.none, .bool false, .ref s.heap.objs.size, rawInt 0, .none, .none] }) (s.heap.objs.size + 1) s.heap.objs.size 0 .none := by
    have := Heap.get?_push_size (s.heap.push o) (o := { cls := .type "enumerate", data := .fields #[.none, .bool false, .ref s.heap.objs.size, rawInt 0, .none, .none] }) rfl
    rw [hz] at this; exact this
  refine ⟨⟨_, he, rfl⟩, h _ he (Heap.get?_push_of_some _ (Heap.get?_push_size _ B.free)) (by rw [Heap.size_push, hz]) fun b o x => Heap.get?_push_of_some _ (Heap.get?_push_of_some _ x)⟩
theorem wpAny_pyNext_enum_endT {e it t : Addr} {items : Array Value} {i : Nat} {k : Int} {old : Value} {Q : Option Value → Shared → Prop} (hh : A.handled = none)
    (he : IsEnum s.heap e it k old) (hit : s.heap.IsTupleIter it t i) (ht : s.heap.IsTuple t items) (hx : items[i]? = none)
    (hQ : ∀ h', Heap.ExtBut it s.heap h' → Q none { s with heap := h' }) : wpAny (model prog w) A (pyNext (.ref e)) Q E s := by
  have hT : s.TypeIs (.ref e) "enumerate" := ⟨_, he, rfl⟩
  unfold pyNext
  refine wpAny_bind (wpAny_attempt (wpAny_callSpecial?_slot (name := Str.ofString "__next__") hT F.slot_enumerate_next
    (wpAny_call_entry F.slot_enumerate_next hT F.entry_enumerate_next ?_ (F.args_enumerate_next_1 _))))
  show wpAny _ _ (field (.ref e) 2 >>= _) _ _ _
  refine wpAny_bind (wpAny_field he rfl (x := .ref it) rfl ?_)
  refine wpAny_bind (wpAny_nextOf_tuple_end hh hit ht hx fun h' x he' hx' => ?_)
  obtain ⟨o, ho, hc⟩ := hx'
  refine wpAny_bind (wpAny_isInstance (T := "StopIteration") (b := true) ⟨o, ho, hc⟩ isSubtype_stop ?_)
  exact wpAny_pure (hQ _ he')
end
end PySem
namespace L2
open PySem PySem.Spec PyProof.Rows
/-- enumerate over a tuple -/
def IteT (K : PySem.W.Frag) (a : Addr) : It :=
  ⟨fun i H => ∃ (xs : List V) (x : V), SqT K H a xs ∧ xs[i]? = some x, fun i H v H' => ∃ T x, v = .ref T ∧ H T = none ∧ H' = upd H T (.tup [.int (i : Nat), x]) ∧ ∀ xs, SqT K H a xs → xs[i]? = some x, fun i H => ∃ xs : List V, SqT K H a xs ∧ xs.length ≤ i⟩
theorem turn_enumT {P : Program} {w : World} {K : PySem.W.Frag} {elts : List Expr} {kk : Nat} {tpos : Pos} (a e it : Addr) :
    Turn P w K (.Tuple elts kk tpos) (IteT K a) [e, it] e (fun i h => (∃ old, IsEnum h e it ((i : Nat) : Int) old) ∧ h.IsTupleIter it a i ∧ e ≠ it ∧ a ≠ it ∧ a ≠ e) where
  mem := by simp
  obj := fun i h st b hb => by
    obtain ⟨⟨old, he⟩, ⟨o, ho, hc, hd⟩, _⟩ := st
    have e' : b = e ∨ b = it := by simpa using hb
    rcases e' with z | z
    · rw [z]; exact ⟨_, he, fun v q => nomatch q⟩
    · rw [z]; exact ⟨o, ho, fun v q => by rw [hd] at q; cases q⟩
  keep := fun i h h' st k => let ⟨⟨old, he⟩, hi, hne⟩ := st; ⟨⟨old, k e (by simp) _ he⟩, hi.at fun o q => k it (by simp) o q, hne⟩
  item := by
    intro X hP hw hK hc i pins s σ H E I hf st hg
    subst hP hw hK
    obtain ⟨⟨old, he⟩, hit, hne, hai, hae⟩ := st
    obtain ⟨xs, x, hq, hx⟩ := hg
    obtain ⟨its, rv, p, hz⟩ := I.tuple hq
    obtain ⟨u, hu, ru⟩ := rv.get hx
    have hel : e < s.heap.objs.size := Heap.lt_size he
    have hil : it < s.heap.objs.size := by obtain ⟨_, q, _⟩ := hit; exact Heap.lt_size q
    have hlt : i < its.toArray.size := by
      have := (List.getElem?_eq_some_iff.mp hu).1
      simpa using this
    refine wpAny_pyNext_enum_itemD (Draws.tuple (A := X.A.in1) (I.ok.hd hc) it a hai its.toArray) he ⟨hit, p⟩ hlt hne (by simp [hne, Ne.symm hae]) fun x' h' tk hP ho hst' hT hsz hk => ?_
    obtain ⟨hit', _⟩ := hst'
    have ex : x' = u := by
      have e1 : its.toArray[i]? = some u := by simpa using hu
      rw [e1] at hP
      exact (Option.some.inj hP).symm
    subst ex
    refine ⟨_, rfl, wpAny_letOwnedTupleGo_enum (s := { s with heap := h', toks := tk + 1 }) ho fun h'' he' sb => ?_⟩
    have hT2 : h''.get? s.heap.objs.size = some { cls := .type "tuple", data := .seq #[.int i tk, x'] } := (sb.2 _ (Nat.ne_of_gt hel)).trans hT
    have new : ObjOk X.prog X.w (upd H s.heap.objs.size (.tup [.int (i : Nat), x])) h'' s.heap.objs.size (.tup [.int (i : Nat), x]) :=
      ⟨by show 2 ≤ sizeLine; decide, [.int i tk, x'], .cons ⟨_, rfl⟩ (.cons ru .nil), ⟨_, hT2, rfl, _, rfl⟩⟩
    have I1 : Inv X pins σ (upd H s.heap.objs.size (.tup [.int (i : Nat), x])) { s with heap := h'', toks := tk + 1 } :=
      I.turnedNew (ch := [e, it]) (fun b ob hb q => (sb.2 b (fun z => hb (by simp [z]))).trans (hk b ob (fun z => hb (by simp [z])) (fun z => hb (by simp [z])) q)) hf (Nat.le_refl _) new
    refine ⟨.ref s.heap.objs.size, _, I1, rfl, ⟨_, x, rfl, I.hok.fresh (Nat.le_refl _), rfl, fun ys hy => by rw [I.tuple_inj hy hq]; exact hx⟩, ⟨⟨x', ?_⟩, hit'.at fun o q => (sb.2 it (Ne.symm hne)).trans q, hne, hai, hae⟩, fun b hb => ?_⟩
    · have e1 : ((i + 1 : Nat) : Int) = (i : Int) + 1 := by omega
      rw [e1]; exact he'
    · have hb' : b < s.heap.objs.size := by
        have e' : b = e ∨ b = it := by simpa using hb
        rcases e' with z | z
        · rw [z]; exact hel
        · rw [z]; exact hil
      rw [upd_ne (Nat.ne_of_lt hb')]
      exact (hf b hb).1
  done := by
    intro X hP hw hK hc i pins s σ H E I hf st hg
    subst hP hw hK
    obtain ⟨⟨old, he⟩, hit, hne, hai, hae⟩ := st
    obtain ⟨xs, hq, hx⟩ := hg
    obtain ⟨its, rv, p, hz⟩ := I.tuple hq
    obtain ⟨f0, f1, f2, f3, f4, f5⟩ := hf it (by simp)
    have hl := rv.length
    exact wpAny_pyNext_enum_endT (I.ok.hd hc) he hit p (by simp; omega) fun h' eb => ⟨rfl, I.turned (t' := s.toks) (fun b o hb q => eb b o hb q) f0 f1 f3 f4 f5⟩
  self := fun A i s Q E st h => let ⟨⟨_, he⟩, _⟩ := st; wpAny_pyIter_enum he h
def iEnumA (K : PySem.W.Frag) (ta : TA) : TI := fun σ H R => ta σ H fun vs H1 => ∃ a, vs = [.ref a] ∧ ((∃ xs, SqL K H1 a xs ∧ R (Ite K a) H1) ∨ (∃ xs, SqT K H1 a xs ∧ R (IteT K a) H1))
theorem pi_enumA {X : Cx} {e : Expr} {ta : TA} {p pos tpos : Pos} {elts : List Expr} {kk : Nat} (hg : Gl X "enumerate") (hm : X.mg "enumerate" = none) (ha : PA X [e] ta) (hs : starEach [e] X.env = [(false, eval e X.env)] := by rfl) :
    PI X (.Tuple elts kk tpos) (.Call (.Name "enumerate" p) [e] [] pos) (iEnumA X.K ta) := by
  refine ⟨fun pins s σ H R I h => ?_⟩
  refine Call_ (ld_blt I hg hm boot_enumerate (PyProof.Rows.callWith_type1 (thn (ha.run pos pins s σ H _ I h) fun us s1 ⟨vs, H1, I1, r1, q1⟩ => ?_) hs rfl))
  obtain ⟨a, ex, q⟩ := q1
  subst ex
  cases r1 with
  | cons r rr =>
    cases rr
    cases r
    rcases q with ⟨xs, hq, q⟩ | ⟨xs, hq, q⟩
    · obtain ⟨its, rv, p', hz⟩ := I1.list hq
      refine call_enumerate_list p'.isList fun h' he hit hsz hk => wpAny_pyIter_enum he ?_
      refine ⟨s1.heap.objs.size + 1, [s1.heap.objs.size + 1, s1.heap.objs.size], _, _, H1, rfl, I1.kept (t' := s1.toks) hk, turn_enum a (s1.heap.objs.size + 1) s1.heap.objs.size, ⟨⟨_, he⟩, hit, Nat.succ_ne_self _⟩, fun b hb => ?_, q⟩
      have e' : b = s1.heap.objs.size + 1 ∨ b = s1.heap.objs.size := by simpa using hb
      rcases e' with z | z
      · rw [z]; exact I1.fpOk (Nat.le_succ _) (I1.hok.fresh (Nat.le_succ _))
      · rw [z]; exact I1.fpOk (Nat.le_refl _) (I1.hok.fresh (Nat.le_refl _))
    · obtain ⟨its, rv, p', hz⟩ := I1.tuple hq
      have hal : a < s1.heap.objs.size := by obtain ⟨_, q, _⟩ := p'; exact Heap.lt_size q
      refine enum_begins1 (begins_tuple a its.toArray) p' fun h' he hit hsz hk => wpAny_pyIter_enum he ?_
      refine ⟨s1.heap.objs.size + 1, [s1.heap.objs.size + 1, s1.heap.objs.size], _, _, H1, rfl, I1.kept (t' := s1.toks) hk, turn_enumT a (s1.heap.objs.size + 1) s1.heap.objs.size, ⟨⟨_, he⟩, ⟨_, hit, rfl, rfl⟩, Nat.succ_ne_self _, Nat.ne_of_lt hal, Nat.ne_of_lt (Nat.lt_succ_of_lt hal)⟩, fun b hb => ?_, q⟩
      have e' : b = s1.heap.objs.size + 1 ∨ b = s1.heap.objs.size := by simpa using hb
      rcases e' with z | z
      · rw [z]; exact I1.fpOk (Nat.le_succ _) (I1.hok.fresh (Nat.le_succ _))
      · rw [z]; exact I1.fpOk (Nat.le_refl _) (I1.hok.fresh (Nat.le_refl _))
theorem walk_enumT {K : PySem.W.Frag} {a : Addr} {xs : List V} : Walk (IteT K a) xs.length (fun H => SqT K H a xs) (YPair (fun i => some (.int (i : Nat))) (fun i => xs[i]?)) := by
  refine ⟨fun i _ hi q => ⟨xs, xs[i], q, by simp [hi]⟩, fun _ q => ⟨xs, q, Nat.le_refl _⟩, fun i H v H' _ q y => ?_⟩
  obtain ⟨T, x, h1, h2, h3, h4⟩ := y
  exact ⟨T, .int (i : Nat), x, h1, h2, h3, rfl, h4 xs q⟩
/-- a list or a tuple walked -/
def iSeq (K : PySem.W.Frag) (te : TE) : TI := fun σ H R => te σ H fun x H1 => ∃ a, x = .ref a ∧ (((∃ xs, SqL K H1 a xs) ∧ R (Itl K a) H1) ∨ ((∃ xs, SqT K H1 a xs) ∧ R (Itt K a) H1))
theorem pi_seq {X : Cx} {tg l : Expr} {tl : TE} (hl : PE X l tl) : PI X tg l (iSeq X.K tl) := by
  refine ⟨fun pins s σ H R I h => ?_⟩
  refine thn (hl.run pins s σ H _ I h) fun v s1 ⟨x, H1, I1, r1, a, e, h1⟩ => ?_
  subst e
  cases r1
  rcases h1 with ⟨⟨xs, hq⟩, q⟩ | ⟨⟨xs, hq⟩, q⟩
  · obtain ⟨its, rv, p, hz⟩ := I1.list hq
    refine wpAny_pyIter_list p.isList ?_
    refine ⟨s1.heap.objs.size, [s1.heap.objs.size], _, _, H1, rfl, I1.kept (t' := s1.toks) fun b o e => Heap.get?_push_of_some _ e, turn_list a _, ⟨_, Heap.get?_push_size _ rfl, rfl, rfl⟩, fun b hb => ?_, q⟩
    have e : b = s1.heap.objs.size := by simpa using hb
    subst e
    exact I1.fpOk (Nat.le_refl _) (I1.hok.fresh (Nat.le_refl _))
  · obtain ⟨its, rv, p, hz⟩ := I1.tuple hq
    refine wpAny_pyIter_tuple (show s1.heap.IsTuple a its.toArray from p) ?_
    refine ⟨s1.heap.objs.size, [s1.heap.objs.size], _, _, H1, rfl, I1.kept (t' := s1.toks) fun b o e => Heap.get?_push_of_some _ e, turn_tuple a _, ⟨_, Heap.get?_push_size _ rfl, rfl, rfl⟩, fun b hb => ?_, q⟩
    have e : b = s1.heap.objs.size := by simpa using hb
    subst e
    exact I1.fpOk (Nat.le_refl _) (I1.hok.fresh (Nat.le_refl _))
end L2
end

section
set_option Elab.async false
set_option linter.all false
set_option autoImplicit false
set_option maxRecDepth 100000
set_option maxHeartbeats 2000000
/-! DL1: values as trees of data; a store for what may change; what it is that a reading of the hand layer is led by a reading over data. -/
namespace DL
open PySem PySem.Spec PyProof.Rows L2

/-- the built-in classes that stand as values -/
inductive Ty where
  | int | bool | str | tuple | list | dict | none
  deriving DecidableEq
def Ty.name : Ty → String
  | .int => "int" | .bool => "bool" | .str => "str" | .tuple => "tuple" | .list => "list" | .dict => "dict" | .none => "NoneType"
/-- a value as data: frozen things are trees; raw a: the object at a, of which only the store tells -/
inductive D where
  | non | bl (b : Bool) | int (i : Int) | str (x : Str) | ty (n : Ty) | raw (a : Addr)
  | tup (xs : List D) | lst (xs : List D) | ins (C : Addr) (fs : List (Str × D)) | dk (kvs : List (Key × D))

/-- a tuple stands there -/
abbrev Tp (_ : PySem.W.Frag) (Z : Hp) (a : Addr) (xs : List V) : Prop := Z a = some (.tup xs)
section
variable (K : PySem.W.Frag) (Z : Hp)
mutual
inductive Rep : D → V → Prop
  | non : Rep .non .non
  | bl (b : Bool) : Rep (.bl b) (.bl b)
  | int (i : Int) : Rep (.int i) (.int i)
  | str (x : Str) : Rep (.str x) (.str x)
  | ty (n : Ty) : Rep (.ty n) (.ty n.name)
  | raw (a : Addr) : Rep (.raw a) (.ref a)
  | tup {a : Addr} {xs : List V} {ds : List D} : Tp K Z a xs → Reps ds xs → Rep (.tup ds) (.ref a)
  | lst {a : Addr} {xs : List V} {ds : List D} : Z a = some (.lst xs) → Reps ds xs → Rep (.lst ds) (.ref a)
  | ins {a C dx : Addr} {gs : List (Str × V)} {fs : List (Str × D)} : Z a = some (.ins C dx gs) → RepF fs gs → Rep (.ins C fs) (.ref a)
  | dk {a : Addr} {gs : List (Key × V)} {fs : List (Key × D)} : Z a = some (.dK gs) → RepK fs gs → Rep (.dk fs) (.ref a)
inductive Reps : List D → List V → Prop
  | nil : Reps [] []
  | cons {d : D} {v : V} {ds : List D} {vs : List V} : Rep d v → Reps ds vs → Reps (d :: ds) (v :: vs)
inductive RepF : List (Str × D) → List (Str × V) → Prop
  | nil : RepF [] []
  | cons {f : Str} {d : D} {v : V} {ds : List (Str × D)} {vs : List (Str × V)} : Rep d v → RepF ds vs → RepF ((f, d) :: ds) ((f, v) :: vs)
inductive RepK : List (Key × D) → List (Key × V) → Prop
  | nil : RepK [] []
  | cons {f : Key} {d : D} {v : V} {ds : List (Key × D)} {vs : List (Key × V)} : Rep d v → RepK ds vs → RepK ((f, d) :: ds) ((f, v) :: vs)
end
end

section
variable {K : PySem.W.Frag} {Z Z' : Hp}
theorem Same.sqt {H H' : Hp} {a : Addr} {xs : List V} (e : Same H H') (h : H a = some (.tup xs)) : SqT K H' a xs := .inl (.inl (e _ _ h))
mutual
theorem Rep.mono (s : Same Z Z') : ∀ {d : D} {v : V}, Rep K Z d v → Rep K Z' d v
  | _, _, .non => .non
  | _, _, .bl b => .bl b
  | _, _, .int i => .int i
  | _, _, .str x => .str x
  | _, _, .ty n => .ty n
  | _, _, .raw a => .raw a
  | _, _, .tup h r => .tup (s _ _ h) (Reps.mono s r)
  | _, _, .lst h r => .lst (s _ _ h) (Reps.mono s r)
  | _, _, .ins h r => .ins (s _ _ h) (RepF.mono s r)
  | _, _, .dk h r => .dk (s _ _ h) (RepK.mono s r)
theorem Reps.mono (s : Same Z Z') : ∀ {d : List D} {v : List V}, Reps K Z d v → Reps K Z' d v
  | _, _, .nil => .nil
  | _, _, .cons h r => .cons (Rep.mono s h) (Reps.mono s r)
theorem RepF.mono (s : Same Z Z') : ∀ {d : List (Str × D)} {v : List (Str × V)}, RepF K Z d v → RepF K Z' d v
  | _, _, .nil => .nil
  | _, _, .cons h r => .cons (Rep.mono s h) (RepF.mono s r)
theorem RepK.mono (s : Same Z Z') : ∀ {d : List (Key × D)} {v : List (Key × V)}, RepK K Z d v → RepK K Z' d v
  | _, _, .nil => .nil
  | _, _, .cons h r => .cons (Rep.mono s h) (RepK.mono s r)
end
theorem Reps.length : ∀ {ds : List D} {vs : List V}, Reps K Z ds vs → ds.length = vs.length
  | _, _, .nil => rfl
  | _, _, .cons _ r => congrArg (· + 1) (Reps.length r)
theorem Reps.append : ∀ {ds es : List D} {vs us : List V}, Reps K Z ds vs → Reps K Z es us → Reps K Z (ds ++ es) (vs ++ us)
  | _, _, _, _, .nil, h => h
  | _, _, _, _, .cons a r, h => .cons a (Reps.append r h)
theorem Reps.get : ∀ {ds : List D} {vs : List V} {i : Nat} {v : V}, Reps K Z ds vs → vs[i]? = some v → ∃ d, ds[i]? = some d ∧ Rep K Z d v
  | _, _, _, _, .nil, e => by simp at e
  | _, _, 0, _, .cons a r, e => by simp at e; subst e; exact ⟨_, rfl, a⟩
  | _, _, i + 1, _, .cons a r, e => by
    obtain ⟨d, h1, h2⟩ := Reps.get r (i := i) (by simpa using e)
    exact ⟨d, by simpa using h1, h2⟩
theorem Reps.getD : ∀ {ds : List D} {vs : List V} {i : Nat} {d : D}, Reps K Z ds vs → ds[i]? = some d → ∃ v, vs[i]? = some v ∧ Rep K Z d v
  | _, _, _, _, .nil, e => by simp at e
  | _, _, 0, _, .cons a r, e => by simp at e; subst e; exact ⟨_, rfl, a⟩
  | _, _, i + 1, _, .cons a r, e => by
    obtain ⟨d, h1, h2⟩ := Reps.getD r (i := i) (by simpa using e)
    exact ⟨d, by simpa using h1, h2⟩
theorem Reps.take (n : Nat) : ∀ {ds : List D} {vs : List V}, Reps K Z ds vs → Reps K Z (ds.take n) (vs.take n) := by
  induction n with
  | zero => intro ds vs _; rw [List.take_zero, List.take_zero]; exact .nil
  | succ n ih => intro ds vs h; cases h with
    | nil => exact .nil
    | cons a r => exact .cons a (ih r)
theorem Reps.drop (n : Nat) : ∀ {ds : List D} {vs : List V}, Reps K Z ds vs → Reps K Z (ds.drop n) (vs.drop n) := by
  induction n with
  | zero => intro ds vs h; exact h
  | succ n ih => intro ds vs h; cases h with
    | nil => exact .nil
    | cons a r => exact ih r
theorem Reps.set {d : D} {v : V} (a : Rep K Z d v) : ∀ {ds : List D} {vs : List V} (n : Nat), Reps K Z ds vs → Reps K Z (ds.set n d) (vs.set n v)
  | _, _, _, .nil => .nil
  | _, _, 0, .cons _ r => .cons a r
  | _, _, n + 1, .cons b r => .cons b (Reps.set a n r)
theorem Reps.eraseIdx : ∀ {ds : List D} {vs : List V} (n : Nat), Reps K Z ds vs → Reps K Z (ds.eraseIdx n) (vs.eraseIdx n)
  | _, _, _, .nil => .nil
  | _, _, 0, .cons _ r => r
  | _, _, n + 1, .cons b r => .cons b (Reps.eraseIdx n r)
theorem Reps.reverse : ∀ {ds : List D} {vs : List V}, Reps K Z ds vs → Reps K Z ds.reverse vs.reverse
  | _, _, .nil => .nil
  | _, _, .cons a r => by rw [List.reverse_cons, List.reverse_cons]; exact (Reps.reverse r).append (.cons a .nil)
theorem Reps.dropLast : ∀ {ds : List D} {vs : List V}, Reps K Z ds vs → Reps K Z ds.dropLast vs.dropLast
  | _, _, .nil => .nil
  | _, _, .cons _ .nil => .nil
  | _, _, .cons a (.cons b r) => .cons a (Reps.dropLast (.cons b r))
theorem Reps.insertIdx {d : D} {v : V} (a : Rep K Z d v) : ∀ {ds : List D} {vs : List V} (n : Nat), Reps K Z ds vs → Reps K Z (ds.take n ++ d :: ds.drop n) (vs.take n ++ v :: vs.drop n) := fun n h =>
  (h.take n).append (.cons a (h.drop n))
theorem RepF.lookup (f : Str) : ∀ {fs : List (Str × D)} {gs : List (Str × V)} {d : D}, RepF K Z fs gs → fs.lookup f = some d → ∃ v, gs.lookup f = some v ∧ Rep K Z d v
  | _, _, _, .nil, e => by simp at e
  | _, _, _, .cons (f := g) a r, e => by
    rw [List.lookup_cons] at e ⊢
    cases q : (f == g) with
    | true => rw [q] at e; cases e; exact ⟨_, rfl, a⟩
    | false => rw [q] at e; exact RepF.lookup f r e
theorem RepF.lookup_none (f : Str) : ∀ {fs : List (Str × D)} {gs : List (Str × V)}, RepF K Z fs gs → fs.lookup f = none → gs.lookup f = none
  | _, _, .nil, e => rfl
  | _, _, .cons (f := g) a r, e => by
    rw [List.lookup_cons] at e ⊢
    cases q : (f == g) with
    | true => rw [q] at e; cases e
    | false => rw [q] at e; exact RepF.lookup_none f r e
theorem RepF.length : ∀ {fs : List (Str × D)} {gs : List (Str × V)}, RepF K Z fs gs → fs.length = gs.length
  | _, _, .nil => rfl
  | _, _, .cons _ r => congrArg (· + 1) (RepF.length r)
/-- a field stored -/
def putD (f : Str) (v : D) : List (Str × D) → List (Str × D)
  | [] => [(f, v)]
  | (g, u) :: r => if g = f then (g, v) :: r else (g, u) :: putD f v r
theorem RepF.put (f : Str) {d : D} {v : V} (a : Rep K Z d v) : ∀ {fs : List (Str × D)} {gs : List (Str × V)}, RepF K Z fs gs → RepF K Z (putD f d fs) (putF f v gs)
  | _, _, .nil => .cons a .nil
  | _, _, .cons (f := g) (d := d') (v := v') (ds := ds) (vs := vs) b r => by
    show RepF K Z (if g = f then (g, d) :: _ else _) (if g = f then (g, v) :: _ else _)
    by_cases e : g = f
    · rw [if_pos e, if_pos e]; exact .cons a r
    · rw [if_neg e, if_neg e]; exact .cons b (RepF.put f a r)
theorem Reps.ints : ∀ {ns : List Int} {vs : List V}, Reps K Z (ns.map D.int) vs → vs = ns.map V.int
  | [], _, .nil => rfl
  | _ :: _, _, .cons (.int i) r => by rw [Reps.ints r, List.map_cons]
theorem Reps.of_ints : ∀ (ns : List Int), Reps K Z (ns.map D.int) (ns.map V.int)
  | [] => .nil
  | n :: ns => .cons (.int n) (Reps.of_ints ns)
theorem Reps.bls : ∀ {ns : List Bool} {vs : List V}, Reps K Z (ns.map D.bl) vs → vs = ns.map V.bl
  | [], _, .nil => rfl
  | _ :: _, _, .cons (.bl i) r => by rw [Reps.bls r, List.map_cons]
end

/-- a wish about a thing that may change, told of the frozen part -/
structure Pr where
  p : Hp → HO → Prop
  mono : ∀ Z Z' u, Same Z Z' → p Z u → p Z' u
/-- a thing that may change -/
inductive O where
  | lst (ds : List D) | ins (C : Addr) (fs : List (Str × D)) | dk (kvs : List (Key × D)) | abs (p : Pr)
abbrev Sto := Addr → Option O
def RepO (K : PySem.W.Frag) (Z : Hp) : O → HO → Prop
  | .lst ds, u => ∃ xs, u = .lst xs ∧ Reps K Z ds xs
  | .ins C fs, u => ∃ dx gs, u = .ins C dx gs ∧ RepF K Z fs gs
  | .dk kvs, u => ∃ gs, u = .dK gs ∧ RepK K Z kvs gs
  | .abs p, u => p.p Z u
theorem RepO.mono {K : PySem.W.Frag} {Z Z' : Hp} (s : Same Z Z') : ∀ {o : O} {u : HO}, RepO K Z o u → RepO K Z' o u
  | .lst _, _, ⟨xs, e, r⟩ => ⟨xs, e, r.mono s⟩
  | .ins _ _, _, ⟨dx, gs, e, r⟩ => ⟨dx, gs, e, r.mono s⟩
  | .dk _, _, ⟨gs, e, r⟩ => ⟨gs, e, r.mono s⟩
  | .abs p, _, h => p.mono _ _ _ s h
def updS (S : Sto) (a : Addr) (o : O) : Sto := fun b => if b = a then some o else S b
def delS (S : Sto) (a : Addr) : Sto := fun b => if b = a then none else S b
theorem updS_same {S : Sto} {a : Addr} {o : O} : updS S a o a = some o := if_pos rfl
theorem updS_ne {S : Sto} {a b : Addr} {o : O} (h : b ≠ a) : updS S a o b = S b := if_neg h
theorem updS_upd {S : Sto} {a : Addr} {o u : O} : updS (updS S a o) a u = updS S a u := by
  funext b; unfold updS; split <;> rfl
theorem updS_self {S : Sto} {a : Addr} {o : O} (h : S a = some o) : updS S a o = S := by
  funext b; unfold updS; split
  · rename_i e; rw [e, h]
  · rfl
theorem delS_same {S : Sto} {a : Addr} : delS S a a = none := if_pos rfl
theorem delS_ne {S : Sto} {a b : Addr} (h : b ≠ a) : delS S a b = S b := if_neg h
theorem delS_upd {S : Sto} {a : Addr} {o : O} (h : S a = none) : delS (updS S a o) a = S := by
  funext b; unfold delS updS; split
  · rename_i e; rw [e, h]
  · rfl
theorem neS {S : Sto} {a b : Addr} {o : O} (h : S a = some o) (h' : S b = none) : a ≠ b := by
  intro e; subst e; rw [h] at h'; cases h'

/-- the frozen part, the store, the heap -/
structure Rel (K : PySem.W.Frag) (Z : Hp) (S : Sto) (H : Hp) : Prop where
  sub : Same Z H
  own : ∀ a o, S a = some o → Z a = none ∧ ∃ u, H a = some u ∧ RepO K Z o u
abbrev DEnv := List (Option D)
structure RelE (K : PySem.W.Frag) (Z : Hp) (env : DEnv) (σ : List (Option V)) : Prop where
  len : env.length = σ.length
  at_ : ∀ (i : Nat) (d : D), env[i]? = some (some d) → ∃ v : V, σ[i]? = some (some v) ∧ Rep K Z d v
section
variable {K : PySem.W.Frag} {Z Z' : Hp} {S : Sto} {H : Hp} {env : DEnv} {σ : List (Option V)} {a : Addr}
theorem RelE.mono (r : RelE K Z env σ) (s : Same Z Z') : RelE K Z' env σ := ⟨r.len, fun i d e => let ⟨v, h1, h2⟩ := r.at_ i d e; ⟨v, h1, h2.mono s⟩⟩
theorem RelE.set (r : RelE K Z env σ) {d : D} {v : V} (h : Rep K Z d v) (i : Nat) : RelE K Z (env.set i (some d)) (σ.set i (some v)) := by
  refine ⟨by rw [List.length_set, List.length_set, r.len], fun j e q => ?_⟩
  by_cases hj : i = j
  · subst hj
    have hi : i < env.length := by
      have := (List.getElem?_eq_some_iff.mp q).1
      rwa [List.length_set] at this
    rw [List.getElem?_set_self hi] at q
    cases q
    exact ⟨v, List.getElem?_set_self (by rw [← r.len]; exact hi), h⟩
  · rw [List.getElem?_set_ne hj] at q
    rw [List.getElem?_set_ne hj]
    exact r.at_ j e q
theorem RelE.setN (r : RelE K Z env σ) (i : Nat) (o : Option V) : RelE K Z (env.set i none) (σ.set i o) := by
  refine ⟨by rw [List.length_set, List.length_set, r.len], fun j e q => ?_⟩
  by_cases hj : i = j
  · subst hj
    have hi : i < env.length := by
      have := (List.getElem?_eq_some_iff.mp q).1
      rwa [List.length_set] at this
    rw [List.getElem?_set_self hi] at q
    cases q
  · rw [List.getElem?_set_ne hj] at q
    rw [List.getElem?_set_ne hj]
    exact r.at_ j e q
/-- something new is laid and frozen -/
theorem Rel.laid (r : Rel K Z S H) {o : HO} (n : H a = none) : Rel K (upd Z a o) S (upd H a o) ∧ Same Z (upd Z a o) := by
  have nz : Z a = none := r.sub.free n
  have sz : Same Z (upd Z a o) := fun b u e => by rw [upd_ne (ne_of_none e nz)]; exact e
  refine ⟨⟨fun b u e => ?_, fun b u e => ?_⟩, sz⟩
  · by_cases hb : b = a
    · subst hb; rw [upd_same] at e ⊢; exact e
    · rw [upd_ne hb] at e ⊢; exact r.sub b u e
  · obtain ⟨h1, w, h2, h3⟩ := r.own b u e
    have hb : b ≠ a := ne_of_none h2 n
    exact ⟨by rw [upd_ne hb]; exact h1, w, by rw [upd_ne hb]; exact h2, h3.mono sz⟩
/-- something new is laid, into the store -/
theorem Rel.new (r : Rel K Z S H) {o : O} {u : HO} (n : H a = none) (h : RepO K Z o u) : Rel K Z (updS S a o) (upd H a u) ∧ S a = none := by
  have nz : Z a = none := r.sub.free n
  refine ⟨⟨fun b w e => by rw [upd_ne (ne_of_none e nz)]; exact r.sub b w e, fun b w e => ?_⟩, ?_⟩
  · by_cases hb : b = a
    · subst hb; rw [updS_same] at e; cases e; exact ⟨nz, u, upd_same, h⟩
    · rw [updS_ne hb] at e
      obtain ⟨h1, w', h2, h3⟩ := r.own b w e
      exact ⟨h1, w', by rw [upd_ne hb]; exact h2, h3⟩
  · cases e : S a with
    | none => rfl
    | some o => obtain ⟨_, w, h2, _⟩ := r.own a o e; rw [n] at h2; cases h2
/-- a thing of the store is changed -/
theorem Rel.write (r : Rel K Z S H) {o o' : O} {u : HO} (e : S a = some o) (h : RepO K Z o' u) : Rel K Z (updS S a o') (upd H a u) := by
  obtain ⟨nz, _, _, _⟩ := r.own a o e
  refine ⟨fun b w e => by rw [upd_ne (ne_of_none e nz)]; exact r.sub b w e, fun b w e => ?_⟩
  by_cases hb : b = a
  · subst hb; rw [updS_same] at e; cases e; exact ⟨nz, u, upd_same, h⟩
  · rw [updS_ne hb] at e
    obtain ⟨h1, w', h2, h3⟩ := r.own b w e
    exact ⟨h1, w', by rw [upd_ne hb]; exact h2, h3⟩
/-- less is told -/
theorem Rel.weak (r : Rel K Z S H) {S' : Sto} (w : ∀ b o, S' b = some o → S b = some o) : Rel K Z S' H := ⟨r.sub, fun b o e => r.own b o (w b o e)⟩
/-- a thing of the store is frozen -/
theorem Rel.freeze (r : Rel K Z S H) {o : O} (e : S a = some o) : ∃ u, H a = some u ∧ RepO K Z o u ∧ Rel K (upd Z a u) (delS S a) H ∧ Same Z (upd Z a u) := by
  obtain ⟨nz, u, h2, h3⟩ := r.own a o e
  have sz : Same Z (upd Z a u) := fun b u' e' => by rw [upd_ne (ne_of_none e' nz)]; exact e'
  refine ⟨u, h2, h3, ⟨fun b w e => ?_, fun b w e => ?_⟩, sz⟩
  · by_cases hb : b = a
    · subst hb; rw [upd_same] at e; cases e; exact h2
    · rw [upd_ne hb] at e; exact r.sub b w e
  · by_cases hb : b = a
    · subst hb; rw [delS_same] at e; cases e
    · rw [delS_ne hb] at e
      obtain ⟨h1, w', h4, h5⟩ := r.own b w e
      exact ⟨by rw [upd_ne hb]; exact h1, w', h4, h5.mono sz⟩
end

/-! ### readings over data -/
abbrev DV := D → Sto → Prop
abbrev DE := DEnv → Sto → DV → Prop
abbrev DT := DEnv → Sto → (Bool → Sto → Prop) → Prop
abbrev DA := DEnv → Sto → (List D → Sto → Prop) → Prop
structure DEnds where
  nx : DEnv → Sto → Prop
  rt : DV
  bk : DEnv → Sto → Prop := fun _ _ => False
  ct : DEnv → Sto → Prop := fun _ _ => False
abbrev DS := DEnds → DEnv → Sto → Prop
abbrev DG := D → DEnv → Sto → (DEnv → Sto → Prop) → Prop
abbrev DGs := List D → DEnv → Sto → (DEnv → Sto → Prop) → Prop

section
variable (K : PySem.W.Frag) (Z0 : Hp)
structure LE (t : TE) (t' : DE) : Prop where
  run : ∀ (Z : Hp) (S : Sto) (H : Hp) (env : DEnv) (σ : L2.St) (Q : VK) (Q' : DV), Same Z0 Z → RelE K Z env σ → Rel K Z S H → t' env S Q' →
    (∀ (Z' : Hp) (S' : Sto) (H' : Hp) (d : D) (v : V), Same Z Z' → Rel K Z' S' H' → Rep K Z' d v → Q' d S' → Q v H') → t σ H Q
structure LT (t : TT) (t' : DT) : Prop where
  run : ∀ (Z : Hp) (S : Sto) (H : Hp) (env : DEnv) (σ : L2.St) (Q : Bool → Hp → Prop) (Q' : Bool → Sto → Prop), Same Z0 Z → RelE K Z env σ → Rel K Z S H → t' env S Q' →
    (∀ (Z' : Hp) (S' : Sto) (H' : Hp) (b : Bool), Same Z Z' → Rel K Z' S' H' → Q' b S' → Q b H') → t σ H Q
structure LA (t : TA) (t' : DA) : Prop where
  run : ∀ (Z : Hp) (S : Sto) (H : Hp) (env : DEnv) (σ : L2.St) (Q : List V → Hp → Prop) (Q' : List D → Sto → Prop), Same Z0 Z → RelE K Z env σ → Rel K Z S H → t' env S Q' →
    (∀ (Z' : Hp) (S' : Sto) (H' : Hp) (d : List D) (v : List V), Same Z Z' → Rel K Z' S' H' → Reps K Z' d v → Q' d S' → Q v H') → t σ H Q
/-- by values: two -/
structure L2R (r : R2) (r' : D → D → Sto → DV → Prop) : Prop where
  run : ∀ (Z : Hp) (S : Sto) (H : Hp) (x y : V) (d e : D) (Q : VK) (Q' : DV), Same Z0 Z → Rel K Z S H → Rep K Z d x → Rep K Z e y → r' d e S Q' →
    (∀ (Z' : Hp) (S' : Sto) (H' : Hp) (d : D) (v : V), Same Z Z' → Rel K Z' S' H' → Rep K Z' d v → Q' d S' → Q v H') → r x y H Q
/-- by values: a list of arguments -/
structure LR (r : List V → Hp → VK → Prop) (r' : List D → Sto → DV → Prop) : Prop where
  run : ∀ (Z : Hp) (S : Sto) (H : Hp) (xs : List V) (ds : List D) (Q : VK) (Q' : DV), Same Z0 Z → Rel K Z S H → Reps K Z ds xs → r' ds S Q' →
    (∀ (Z' : Hp) (S' : Sto) (H' : Hp) (d : D) (v : V), Same Z Z' → Rel K Z' S' H' → Rep K Z' d v → Q' d S' → Q v H') → r xs H Q
/-- a method of a built-in type by values -/
structure LM (r : V → List V → Hp → VK → Prop) (r' : D → List D → Sto → DV → Prop) : Prop where
  run : ∀ (Z : Hp) (S : Sto) (H : Hp) (x : V) (xs : List V) (d : D) (ds : List D) (Q : VK) (Q' : DV), Same Z0 Z → Rel K Z S H → Rep K Z d x → Reps K Z ds xs → r' d ds S Q' →
    (∀ (Z' : Hp) (S' : Sto) (H' : Hp) (d : D) (v : V), Same Z Z' → Rel K Z' S' H' → Rep K Z' d v → Q' d S' → Q v H') → r x xs H Q
structure EndsR (Z : Hp) (D' : DEnds) (D : Ends) : Prop where
  nx : ∀ (Z' : Hp) (S' : Sto) (H' : Hp) (env' : DEnv) (σ' : L2.St), Same Z Z' → RelE K Z' env' σ' → Rel K Z' S' H' → D'.nx env' S' → D.nx σ' H'
  rt : ∀ (Z' : Hp) (S' : Sto) (H' : Hp) (d : DL.D) (v : V), Same Z Z' → Rel K Z' S' H' → Rep K Z' d v → D'.rt d S' → D.rt v H'
  bk : ∀ (Z' : Hp) (S' : Sto) (H' : Hp) (env' : DEnv) (σ' : L2.St), Same Z Z' → RelE K Z' env' σ' → Rel K Z' S' H' → D'.bk env' S' → D.bk σ' H'
  ct : ∀ (Z' : Hp) (S' : Sto) (H' : Hp) (env' : DEnv) (σ' : L2.St), Same Z Z' → RelE K Z' env' σ' → Rel K Z' S' H' → D'.ct env' S' → D.ct σ' H'
structure LS (t : TS) (t' : DS) : Prop where
  run : ∀ (Z : Hp) (S : Sto) (H : Hp) (env : DEnv) (σ : L2.St) (D : Ends) (D' : DEnds), Same Z0 Z → RelE K Z env σ → Rel K Z S H → t' D' env S → EndsR K Z D' D → t D σ H
structure LG (ws : List Nat) (t : TG) (t' : DG) : Prop where
  run : ∀ (Z : Hp) (S : Sto) (H : Hp) (env : DEnv) (σ : L2.St) (d : D) (v : V) (Q : L2.St → Hp → Prop) (Q' : DEnv → Sto → Prop), Same Z0 Z → RelE K Z env σ → Rel K Z S H → Rep K Z d v → t' d env S Q' →
    (∀ (Z' : Hp) (S' : Sto) (H' : Hp) (env' : DEnv) (σ' : L2.St), Same Z Z' → RelE K Z' env' σ' → Rel K Z' S' H' → wipe σ' ws = wipe σ ws → Q' env' S' → Q σ' H') → t v σ H Q
structure LGs (ws : List Nat) (t : TGs) (t' : DGs) : Prop where
  run : ∀ (Z : Hp) (S : Sto) (H : Hp) (env : DEnv) (σ : L2.St) (d : List D) (v : List V) (Q : L2.St → Hp → Prop) (Q' : DEnv → Sto → Prop), Same Z0 Z → RelE K Z env σ → Rel K Z S H → Reps K Z d v → t' d env S Q' →
    (∀ (Z' : Hp) (S' : Sto) (H' : Hp) (env' : DEnv) (σ' : L2.St), Same Z Z' → RelE K Z' env' σ' → Rel K Z' S' H' → wipe σ' ws = wipe σ ws → Q' env' S' → Q σ' H') → t v σ H Q
end
theorem EndsR.mono {K : PySem.W.Frag} {Z Z' : Hp} {D' : DEnds} {D : Ends} (h : EndsR K Z D' D) (s : Same Z Z') : EndsR K Z' D' D :=
  ⟨fun Z2 S H e σ q => h.nx Z2 S H e σ (s.trans q), fun Z2 S H d v q => h.rt Z2 S H d v (s.trans q), fun Z2 S H e σ q => h.bk Z2 S H e σ (s.trans q), fun Z2 S H e σ q => h.ct Z2 S H e σ (s.trans q)⟩

end DL
end

section
set_option Elab.async false
set_option linter.all false
set_option autoImplicit false
set_option maxRecDepth 100000
set_option maxHeartbeats 2000000
/-! DL2: each reading of the hand layer, led by a reading over data: names, constants, operators, tests, displays, calls of built-ins. -/
namespace DL
open PySem PySem.Spec PyProof.Rows L2

/-! ### what is read as a list, as a sequence -/
/-- a list's items: frozen, or in the store -/
def asL (S : Sto) : D → Option (List D)
  | .lst ds => some ds
  | .raw a => (match S a with
    | some (.lst ds) => some ds
    | _ => none)
  | _ => none
/-- a list's or a tuple's items -/
def asQ (S : Sto) : D → Option (List D)
  | .tup ds => some ds
  | d => asL S d
section
variable {K : PySem.W.Frag} {Z Z0 : Hp} {S : Sto} {H : Hp}
theorem Rel.lst (r : Rel K Z S H) {d : D} {v : V} {ds : List D} (h : Rep K Z d v) (e : asL S d = some ds) : ∃ a xs, v = .ref a ∧ H a = some (.lst xs) ∧ Reps K Z ds xs := by
  cases h with
  | lst h q => cases e; exact ⟨_, _, rfl, r.sub _ _ h, q⟩
  | raw a =>
    have e' : (match S a with
      | some (.lst ds) => some ds
      | _ => none) = some ds := e
    cases q : S a with
    | none => rw [q] at e'; cases e'
    | some o =>
      rw [q] at e'
      cases o with
      | lst ds' =>
        cases e'
        obtain ⟨_, u, h1, xs, e2, h2⟩ := r.own a _ q
        subst e2
        exact ⟨a, xs, rfl, h1, h2⟩
      | _ => cases e'
  | _ => cases e
theorem asQ_ne {d : D} (h : ∀ ds, d ≠ .tup ds) : asQ S d = asL S d := by
  cases d <;> first | rfl | exact absurd rfl (h _)
theorem Rel.seq (r : Rel K Z S H) {d : D} {v : V} {ds : List D} (h : Rep K Z d v) (e : asQ S d = some ds) : ∃ a xs, v = .ref a ∧ (SqL K H a xs ∨ SqT K H a xs) ∧ Reps K Z ds xs := by
  by_cases q : ∃ es, d = .tup es
  · obtain ⟨es, rfl⟩ := q
    cases e
    cases h with
    | tup h q => exact ⟨_, _, rfl, .inr (Same.sqt r.sub h), q⟩
  · rw [asQ_ne fun ds z => q ⟨ds, z⟩] at e
    obtain ⟨a, xs, h1, h2, h3⟩ := r.lst h e
    exact ⟨a, xs, h1, .inl (.of h2), h3⟩
end

/-! ### names, constants -/
def dVar (i : Nat) : DE := fun env S Q => match env[i]? with
  | some (some d) => Q d S
  | _ => False
def dC (d : D) : DE := fun _ S Q => Q d S
section
variable {K : PySem.W.Frag} {Z0 : Hp}
theorem le_var (i : Nat) : LE K Z0 (tVar i) (dVar i) := ⟨fun Z S H env σ Q Q' s0 re r h q => by
  have h' : (match env[i]? with
    | some (some d) => Q' d S
    | _ => False) := h
  cases e : env[i]? with
  | none => rw [e] at h'; exact h'.elim
  | some o =>
    rw [e] at h'
    cases o with
    | none => exact h'.elim
    | some d =>
      obtain ⟨v, h1, h2⟩ := re.at_ i d e
      exact ⟨v, h1, q Z S H d v (Same.refl Z) r h2 h'⟩⟩
theorem le_c {d : D} {v : V} (h : ∀ Z, Rep K Z d v) : LE K Z0 (tC v) (dC d) := ⟨fun Z S H env σ Q Q' s0 re r hh q => q Z S H d v (Same.refl Z) r (h Z) hh⟩
theorem le_int (i : Int) : LE K Z0 (tC (.int i)) (dC (.int i)) := le_c fun _ => .int i
theorem le_bl (i : Bool) : LE K Z0 (tC (.bl i)) (dC (.bl i)) := le_c fun _ => .bl i
theorem le_str (i : Str) : LE K Z0 (tC (.str i)) (dC (.str i)) := le_c fun _ => .str i
theorem le_non : LE K Z0 (tC .non) (dC .non) := le_c fun _ => .non
theorem le_ty (n : Ty) : LE K Z0 (tC (.ty n.name)) (dC (.ty n)) := le_c fun _ => .ty n
theorem le_raw (a : Addr) : LE K Z0 (tC (.ref a)) (dC (.raw a)) := le_c fun _ => .raw a
end

/-! ### two operands -/
abbrev R2' := D → D → Sto → DV → Prop
def dOp (r : R2') (ta tb : DE) : DE := fun env S Q => ta env S fun x S1 => tb env S1 fun y S2 => r x y S2 Q
section
variable {K : PySem.W.Frag} {Z0 : Hp} {ta tb tc : TE} {ta' tb' tc' : DE} {r r2 : R2} {r' r2' : R2'}
theorem le_op (hr : L2R K Z0 r r') (ha : LE K Z0 ta ta') (hb : LE K Z0 tb tb') : LE K Z0 (tOp r ta tb) (dOp r' ta' tb') := ⟨fun Z S H env σ Q Q' s0 re rl h q =>
  ha.run Z S H env σ _ _ s0 re rl h fun Z1 S1 H1 d v s1 r1 p1 h1 =>
    hb.run Z1 S1 H1 env σ _ _ (s0.trans s1) (re.mono s1) r1 h1 fun Z2 S2 H2 e w s2 r2 p2 h2 =>
      hr.run Z2 S2 H2 v w d e _ _ ((s0.trans s1).trans s2) r2 (p1.mono s2) p2 h2 fun Z3 S3 H3 d v s3 => q Z3 S3 H3 d v ((s1.trans s2).trans s3)⟩
theorem L2R.inl (h : L2R K Z0 r r') : L2R K Z0 (fun x y H Q => r x y H Q ∨ r2 x y H Q) r' := ⟨fun Z S H x y d e Q Q' s0 rl px py h' q => .inl (h.run Z S H x y d e Q Q' s0 rl px py h' q)⟩
theorem L2R.inr (h : L2R K Z0 r2 r') : L2R K Z0 (fun x y H Q => r x y H Q ∨ r2 x y H Q) r' := ⟨fun Z S H x y d e Q Q' s0 rl px py h' q => .inr (h.run Z S H x y d e Q Q' s0 rl px py h' q)⟩
/-- both readings: by the data -/
theorem L2R.or (h1 : L2R K Z0 r r') (h2 : L2R K Z0 r2 r2') : L2R K Z0 (fun x y H Q => r x y H Q ∨ r2 x y H Q) (fun x y S Q => r' x y S Q ∨ r2' x y S Q) := ⟨fun Z S H x y d e Q Q' s0 rl px py h q =>
  h.elim (fun h => .inl (h1.run Z S H x y d e Q Q' s0 rl px py h q)) fun h => .inr (h2.run Z S H x y d e Q Q' s0 rl px py h q)⟩
theorem L2R.imp {r3 : R2'} (h : L2R K Z0 r r') (f : ∀ x y S Q, r3 x y S Q → r' x y S Q) : L2R K Z0 r r3 := ⟨fun Z S H x y d e Q Q' s0 rl px py h' q => h.run Z S H x y d e Q Q' s0 rl px py (f _ _ _ _ h') q⟩
/-- ints -/
def rI' (C : Int → Int → Prop) (g : Int → Int → D) : R2' := fun x y S Q => match x, y with
  | .int i, .int j => C i j ∧ Q (g i j) S
  | _, _ => False
def rI0' (g : Int → Int → D) : R2' := fun x y S Q => match x, y with
  | .int i, .int j => Q (g i j) S
  | _, _ => False
theorem lr_I {C : Int → Int → Prop} {g : Int → Int → V} {g' : Int → Int → D} (hg : ∀ i j Z, Rep K Z (g' i j) (g i j)) : L2R K Z0 (rI C g) (rI' C g') := ⟨fun Z S H x y d e Q Q' s0 rl px py h q => by
  cases px with
  | int i => cases py with
    | int j => exact ⟨i, j, rfl, rfl, h.1, q Z S H _ _ (Same.refl Z) rl (hg i j Z) h.2⟩
    | _ => exact h.elim
  | _ => exact h.elim⟩
theorem lr_I0 {g : Int → Int → V} {g' : Int → Int → D} (hg : ∀ i j Z, Rep K Z (g' i j) (g i j)) : L2R K Z0 (rI0 g) (rI0' g') := ⟨fun Z S H x y d e Q Q' s0 rl px py h q => by
  cases px with
  | int i => cases py with
    | int j => exact ⟨i, j, rfl, rfl, q Z S H _ _ (Same.refl Z) rl (hg i j Z) h⟩
    | _ => exact h.elim
  | _ => exact h.elim⟩

/-- + : ints, texts, tuples, frozen lists (what comes is frozen) -/
def rAdd' : R2' := fun x y S Q => match x, y with
  | .int i, .int j => Q (.int (i + j)) S
  | .str i, .str j => i.length + j.length ≤ sizeLine ∧ Q (.str (i ++ j)) S
  | .tup xs, .tup ys => xs.length + ys.length ≤ sizeLine ∧ Q (.tup (xs ++ ys)) S
  | x, y => match asL S x, asL S y with
    | some xs, some ys => xs.length + ys.length ≤ sizeLine ∧ Q (.lst (xs ++ ys)) S
    | _, _ => False
abbrev rAddAll (K : PySem.W.Frag) : R2 := fun x y H Q => (fun x y H Q => (fun x y H Q => (rI0 fun i j => .int (i + j)) x y H Q ∨ (∃ i j, x = V.str i ∧ y = V.str j ∧ i.length + j.length ≤ sizeLine ∧ Q (V.str (i ++ j)) H)) x y H Q ∨ rCatA K x y H Q) x y H Q ∨ rCat x y H Q
theorem op_addAll {X : Cx} : OpR X (binaryOp .Add) (rAddAll X.K) := ((op_add.or op_add_str).or op_catA).or op_cat
theorem catL {Z : Hp} {S : Sto} {H : Hp} {x y : V} {d e : D} {Q : VK} {Q' : DV} {xs ys : List D} (rl : Rel K Z S H) (px : Rep K Z d x) (py : Rep K Z e y) (ex : asL S d = some xs) (ey : asL S e = some ys)
    (hl : xs.length + ys.length ≤ sizeLine) (h : Q' (.lst (xs ++ ys)) S) (q : ∀ (Z' : Hp) (S' : Sto) (H' : Hp) (d : D) (v : V), Same Z Z' → Rel K Z' S' H' → Rep K Z' d v → Q' d S' → Q v H') : rCat x y H Q := by
  obtain ⟨a, us, e1, h1, p1⟩ := rl.lst px ex
  obtain ⟨b, vs, e2, h2, p2⟩ := rl.lst py ey
  refine ⟨a, b, us, vs, e1, e2, h1, h2, by rw [← p1.length, ← p2.length]; exact hl, fun p hp => ?_⟩
  obtain ⟨r2, s2⟩ := rl.laid (o := .lst (us ++ vs)) hp
  exact q _ _ _ _ _ s2 r2 (.lst upd_same ((p1.append p2).mono s2)) h
theorem catT {Z : Hp} {S : Sto} {H : Hp} {a b : Addr} {Q : VK} {Q' : DV} {us vs : List V} {xs ys : List D} (rl : Rel K Z S H) (h1 : Z a = some (.tup us)) (p1 : Reps K Z xs us) (h2 : Z b = some (.tup vs)) (p2 : Reps K Z ys vs)
    (hl : xs.length + ys.length ≤ sizeLine) (h : Q' (.tup (xs ++ ys)) S) (q : ∀ (Z' : Hp) (S' : Sto) (H' : Hp) (d : D) (v : V), Same Z Z' → Rel K Z' S' H' → Rep K Z' d v → Q' d S' → Q v H') : rCatA K (.ref a) (.ref b) H Q := by
  refine ⟨a, b, us, vs, rfl, rfl, Same.sqt rl.sub h1, Same.sqt rl.sub h2, by rw [← p1.length, ← p2.length]; exact hl, fun e => ?_, fun _ e => ?_, fun _ _ p hp => ?_⟩
  · subst e; cases p1
    exact q Z S H _ _ (Same.refl Z) rl (.tup h2 p2) h
  · subst e; cases p2
    rw [List.append_nil] at h
    exact q Z S H _ _ (Same.refl Z) rl (.tup h1 p1) h
  · obtain ⟨r2, s2⟩ := rl.laid (o := .tup (us ++ vs)) hp
    exact q _ _ _ _ _ s2 r2 (.tup upd_same ((p1.append p2).mono s2)) h
theorem lr_add : L2R K Z0 (rAddAll K) rAdd' := ⟨fun Z S H x y d e Q Q' s0 rl px py h q => by
  have lists : (match asL S d, asL S e with
      | some xs, some ys => xs.length + ys.length ≤ sizeLine ∧ Q' (.lst (xs ++ ys)) S
      | _, _ => False) → rAddAll K x y H Q := fun h => by
    cases ex : asL S d with
    | none => rw [ex] at h; exact h.elim
    | some xs => cases ey : asL S e with
      | none => rw [ex, ey] at h; exact h.elim
      | some ys => rw [ex, ey] at h; exact .inr (catL rl px py ex ey h.1 h.2 q)
  cases px with
  | int i => cases py with
    | int j => exact .inl (.inl (.inl ⟨i, j, rfl, rfl, q Z S H _ _ (Same.refl Z) rl (.int _) h⟩))
    | _ => exact lists h
  | str i => cases py with
    | str j => exact .inl (.inl (.inr ⟨i, j, rfl, rfl, h.1, q Z S H _ _ (Same.refl Z) rl (.str _) h.2⟩))
    | _ => exact lists h
  | tup h1 p1 => cases py with
    | tup h2 p2 =>
      exact .inl (.inr (catT rl h1 p1 h2 p2 h.1 h.2 q))
    | _ => exact lists h
  | _ => exact lists h⟩
end
end DL
end

section
set_option Elab.async false
set_option linter.all false
set_option autoImplicit false
set_option maxRecDepth 100000
set_option maxHeartbeats 2000000
/-! DL3: comparisons, equality, in, subscripts, tests, displays. -/
namespace DL
open PySem PySem.Spec PyProof.Rows L2

/-! ### equality of data -/
mutual
def py : D → PyData
  | .non => .none
  | .bl b => .bool b
  | .int i => .int i
  | .str x => .str x
  | .tup ds => .tuple (pys ds)
  | .lst ds => .list (pys ds)
  | .ty _ => .dict []
  | .raw _ => .dict []
  | .ins _ _ => .dict []
  | .dk _ => .dict []
def pys : List D → List PyData
  | [] => []
  | d :: ds => py d :: pys ds
end
mutual
def eqD : D → D → Bool
  | .non, .non => true
  | .bl a, .bl b => a == b
  | .bl a, .int j => (if a then 1 else 0) == j
  | .int i, .bl b => i == (if b then 1 else 0)
  | .int i, .int j => i == j
  | .str x, .str y => x == y
  | .lst xs, .lst ys => eqDs xs ys
  | .tup xs, .tup ys => eqDs xs ys
  | _, _ => false
def eqDs : List D → List D → Bool
  | [], [] => true
  | x :: xs, y :: ys => eqD x y && eqDs xs ys
  | _, _ => false
end
mutual
/-- n deep at most, of what can be compared -/
def shp : Nat → D → Bool
  | _, .non => true
  | _, .bl _ => true
  | _, .int _ => true
  | _, .str x => PyData.strOk x
  | n + 1, .tup ds => shps n ds
  | n + 1, .lst ds => shps n ds
  | _, _ => false
def shps : Nat → List D → Bool
  | _, [] => true
  | n, d :: ds => shp n d && shps n ds
end
mutual
theorem shp_lay : ∀ (n : Nat) (d : D), shp n d = true → (py d).canLay0 = true ∧ (py d).depth ≤ n
  | _, .non, _ => ⟨rfl, Nat.zero_le _⟩
  | _, .bl _, _ => ⟨rfl, Nat.zero_le _⟩
  | _, .int _, _ => ⟨rfl, Nat.zero_le _⟩
  | n, .str x, h => ⟨by unfold py PyData.canLay0; cases n <;> exact h, by unfold py PyData.depth; exact Nat.zero_le _⟩
  | 0, .tup _, h => by cases h
  | 0, .lst _, h => by cases h
  | n + 1, .tup ds, h => by
    obtain ⟨a, b⟩ := shps_lay n ds (by unfold shp at h; exact h)
    exact ⟨by unfold py PyData.canLay0; exact a, by unfold py PyData.depth; exact Nat.succ_le_succ b⟩
  | n + 1, .lst ds, h => by
    obtain ⟨a, b⟩ := shps_lay n ds (by unfold shp at h; exact h)
    exact ⟨by unfold py PyData.canLay0; exact a, by unfold py PyData.depth; exact Nat.succ_le_succ b⟩
  | n, .ty _, h => by cases n <;> cases h
  | n, .raw _, h => by cases n <;> cases h
  | n, .ins _ _, h => by cases n <;> cases h
  | n, .dk _, h => by cases n <;> cases h
theorem shps_lay : ∀ (n : Nat) (ds : List D), shps n ds = true → PyData.canLayAll0 (pys ds) = true ∧ PyData.depthAll (pys ds) ≤ n
  | _, [], _ => ⟨rfl, Nat.zero_le _⟩
  | n, d :: ds, h => by
    unfold shps at h
    obtain ⟨h1, h2⟩ := Bool.and_eq_true_iff.mp h
    obtain ⟨a, b⟩ := shp_lay n d h1
    obtain ⟨a2, b2⟩ := shps_lay n ds h2
    refine ⟨?_, ?_⟩
    · unfold pys PyData.canLayAll0; rw [a, a2]; rfl
    · unfold pys PyData.depthAll; exact Nat.max_le.mpr ⟨b, b2⟩
end
theorem shp_shaped {n : Nat} {d : D} (h : shp n d = true) (hn : n ≤ 64) : SeqAt.shaped (py d) = true := by
  obtain ⟨a, b⟩ := shp_lay n d h
  unfold SeqAt.shaped
  rw [a, decide_eq_true (Nat.le_trans b hn)]
  rfl
theorem shps_all {n : Nat} : ∀ {ds : List D}, shps n ds = true ↔ ∀ d ∈ ds, shp n d = true
  | [] => ⟨fun _ _ h => absurd h (by simp), fun _ => by unfold shps; rfl⟩
  | d :: ds => by
    unfold shps
    rw [Bool.and_eq_true_iff, shps_all, List.forall_mem_cons]
mutual
theorem eqv_py : ∀ (x y : D) (n m : Nat), shp n x = true → shp m y = true → PyData.eqv (py x) (py y) = eqD x y
  | .tup xs, .tup ys, n, m, hx, hy => by
    cases n with
    | zero => cases hx
    | succ n => cases m with
      | zero => cases hy
      | succ m =>
        unfold py PyData.eqv eqD
        exact eqv_pys xs ys n m (by unfold shp at hx; exact hx) (by unfold shp at hy; exact hy)
  | .lst xs, .lst ys, n, m, hx, hy => by
    cases n with
    | zero => cases hx
    | succ n => cases m with
      | zero => cases hy
      | succ m =>
        unfold py PyData.eqv eqD
        exact eqv_pys xs ys n m (by unfold shp at hx; exact hx) (by unfold shp at hy; exact hy)
  | .ty _, _, n, _, hx, _ => by cases n <;> cases hx
  | .raw _, _, n, _, hx, _ => by cases n <;> cases hx
  | .ins _ _, _, n, _, hx, _ => by cases n <;> cases hx
  | .dk _, _, n, _, hx, _ => by cases n <;> cases hx
  | _, .ty _, _, m, _, hy => by cases m <;> cases hy
  | _, .raw _, _, m, _, hy => by cases m <;> cases hy
  | _, .ins _ _, _, m, _, hy => by cases m <;> cases hy
  | _, .dk _, _, m, _, hy => by cases m <;> cases hy
  | .non, .non, _, _, _, _ => by unfold py PyData.eqv eqD; rfl
  | .non, .bl _, _, _, _, _ => by unfold py PyData.eqv eqD; rfl
  | .non, .int _, _, _, _, _ => by unfold py PyData.eqv eqD; rfl
  | .non, .str _, _, _, _, _ => by unfold py PyData.eqv eqD; rfl
  | .non, .tup _, _, _, _, _ => by unfold py PyData.eqv eqD; rfl
  | .non, .lst _, _, _, _, _ => by unfold py PyData.eqv eqD; rfl
  | .bl _, .non, _, _, _, _ => by unfold py PyData.eqv eqD; rfl
  | .bl _, .bl _, _, _, _, _ => by unfold py PyData.eqv eqD; rfl
  | .bl _, .int _, _, _, _, _ => by unfold py PyData.eqv eqD; rfl
  | .bl _, .str _, _, _, _, _ => by unfold py PyData.eqv eqD; rfl
  | .bl _, .tup _, _, _, _, _ => by unfold py PyData.eqv eqD; rfl
  | .bl _, .lst _, _, _, _, _ => by unfold py PyData.eqv eqD; rfl
  | .int _, .non, _, _, _, _ => by unfold py PyData.eqv eqD; rfl
  | .int _, .bl _, _, _, _, _ => by unfold py PyData.eqv eqD; rfl
  | .int _, .int _, _, _, _, _ => by unfold py PyData.eqv eqD; rfl
  | .int _, .str _, _, _, _, _ => by unfold py PyData.eqv eqD; rfl
  | .int _, .tup _, _, _, _, _ => by unfold py PyData.eqv eqD; rfl
  | .int _, .lst _, _, _, _, _ => by unfold py PyData.eqv eqD; rfl
  | .str _, .non, _, _, _, _ => by unfold py PyData.eqv eqD; rfl
  | .str _, .bl _, _, _, _, _ => by unfold py PyData.eqv eqD; rfl
  | .str _, .int _, _, _, _, _ => by unfold py PyData.eqv eqD; rfl
  | .str _, .str _, _, _, _, _ => by unfold py PyData.eqv eqD; rfl
  | .str _, .tup _, _, _, _, _ => by unfold py PyData.eqv eqD; rfl
  | .str _, .lst _, _, _, _, _ => by unfold py PyData.eqv eqD; rfl
  | .tup _, .non, _, _, _, _ => by unfold py PyData.eqv eqD; rfl
  | .tup _, .bl _, _, _, _, _ => by unfold py PyData.eqv eqD; rfl
  | .tup _, .int _, _, _, _, _ => by unfold py PyData.eqv eqD; rfl
  | .tup _, .str _, _, _, _, _ => by unfold py PyData.eqv eqD; rfl
  | .tup _, .lst _, _, _, _, _ => by unfold py PyData.eqv eqD; rfl
  | .lst _, .non, _, _, _, _ => by unfold py PyData.eqv eqD; rfl
  | .lst _, .bl _, _, _, _, _ => by unfold py PyData.eqv eqD; rfl
  | .lst _, .int _, _, _, _, _ => by unfold py PyData.eqv eqD; rfl
  | .lst _, .str _, _, _, _, _ => by unfold py PyData.eqv eqD; rfl
  | .lst _, .tup _, _, _, _, _ => by unfold py PyData.eqv eqD; rfl
theorem eqv_pys : ∀ (xs ys : List D) (n m : Nat), shps n xs = true → shps m ys = true → PyData.eqvAll (pys xs) (pys ys) = eqDs xs ys
  | [], [], _, _, _, _ => by unfold pys PyData.eqvAll eqDs; rfl
  | [], _ :: _, _, _, _, _ => by unfold pys PyData.eqvAll eqDs; rfl
  | _ :: _, [], _, _, _, _ => by unfold pys PyData.eqvAll eqDs; rfl
  | x :: xs, y :: ys, n, m, hx, hy => by
    unfold shps at hx hy
    obtain ⟨h1, h2⟩ := Bool.and_eq_true_iff.mp hx
    obtain ⟨h3, h4⟩ := Bool.and_eq_true_iff.mp hy
    unfold pys PyData.eqvAll eqDs
    rw [eqv_py x y n m h1 h3, eqv_pys xs ys n m h2 h4]
end
section
variable {K : PySem.W.Frag} {Z : Hp}
mutual
theorem Rep.dp {H : Hp} (s : Same Z H) : ∀ {d : D} {v : V} (n : Nat), Rep K Z d v → shp n d = true → Dp K H v (py d)
  | _, _, _, .non, _ => by unfold py; exact .non
  | _, _, _, .bl b, _ => by unfold py; exact .bl b
  | _, _, _, .int i, _ => by unfold py; exact .int i
  | _, _, _, .str x, _ => by unfold py; exact .str x
  | _, _, n, .ty _, h => by cases n <;> cases h
  | _, _, n, .raw _, h => by cases n <;> cases h
  | _, _, n, .ins _ _, h => by cases n <;> cases h
  | _, _, n, .dk _ _, h => by cases n <;> cases h
  | _, _, 0, .tup _ _, h => by cases h
  | _, _, 0, .lst _ _, h => by cases h
  | _, _, n + 1, .tup h r, e => by unfold py; unfold shp at e; exact .tup (Same.sqt s h) (Reps.dp s n r e)
  | _, _, n + 1, .lst h r, e => by unfold py; unfold shp at e; exact .lst (.of (s _ _ h)) (Reps.dp s n r e)
theorem Reps.dp {H : Hp} (s : Same Z H) : ∀ {ds : List D} {vs : List V} (n : Nat), Reps K Z ds vs → shps n ds = true → DpAll K H vs (pys ds)
  | _, _, _, .nil, _ => by unfold pys; exact .nil
  | _, _, n, .cons a r, h => by
    unfold shps at h
    obtain ⟨h1, h2⟩ := Bool.and_eq_true_iff.mp h
    unfold pys
    exact .cons (Rep.dp s n a h1) (Reps.dp s n r h2)
end
end
/-- a list of the store as data -/
def frz (S : Sto) (d : D) : D := match asL S d with
  | some ds => .lst ds
  | none => d
theorem Rel.dp {K : PySem.W.Frag} {Z : Hp} {S : Sto} {H : Hp} (r : Rel K Z S H) {d : D} {v : V} (h : Rep K Z d v) (n : Nat) (e : shp n (frz S d) = true) : Dp K H v (py (frz S d)) := by
  unfold frz at e ⊢
  cases q : asL S d with
  | none =>
    rw [q] at e
    exact h.dp r.sub n e
  | some ds =>
    rw [q] at e
    obtain ⟨a, xs, rfl, h1, h2⟩ := r.lst h q
    cases n with
    | zero => cases e
    | succ n =>
      unfold shp at e
      show Dp K H _ (py (.lst ds))
      unfold py
      exact .lst (.of h1) (h2.dp r.sub n e)
/-- == and != of data -/
def rEq' : R2' := fun x y S Q => shp 60 (frz S x) = true ∧ shp 60 (frz S y) = true ∧ Q (.bl (eqD (frz S x) (frz S y))) S
def rNe' : R2' := fun x y S Q => shp 60 (frz S x) = true ∧ shp 60 (frz S y) = true ∧ Q (.bl (!eqD (frz S x) (frz S y))) S
section
variable {K : PySem.W.Frag} {Z0 : Hp}
theorem lr_eq : L2R K Z0 (rEqD K) rEq' := ⟨fun Z S H x y d e Q Q' s0 rl px py h q =>
  ⟨_, _, rl.dp px 60 h.1, rl.dp py 60 h.2.1, shp_shaped h.1 (by decide), shp_shaped h.2.1 (by decide), by rw [eqv_py _ _ 60 60 h.1 h.2.1]; exact q Z S H _ _ (Same.refl Z) rl (.bl _) h.2.2⟩⟩
theorem lr_ne : L2R K Z0 (rNeD K) rNe' := ⟨fun Z S H x y d e Q Q' s0 rl px py h q =>
  ⟨_, _, rl.dp px 60 h.1, rl.dp py 60 h.2.1, shp_shaped h.1 (by decide), shp_shaped h.2.1 (by decide), by rw [eqv_py _ _ 60 60 h.1 h.2.1]; exact q Z S H _ _ (Same.refl Z) rl (.bl _) h.2.2⟩⟩
/-! ### is None -/
def isNon : D → Bool
  | .non => true
  | _ => false
theorem Rep.isNon {Z : Hp} {d : D} {v : V} (h : Rep K Z d v) : decide (v = .non) = DL.isNon d := by
  cases h <;> simp [DL.isNon]
def rIsN' : R2' := fun x y S Q => match y with
  | .non => Q (.bl (isNon x)) S
  | _ => False
def rNotN' : R2' := fun x y S Q => match y with
  | .non => Q (.bl (!isNon x)) S
  | _ => False
theorem lr_isN : L2R K Z0 (fun x y H Q => y = .non ∧ Q (.bl (decide (x = .non))) H) rIsN' := ⟨fun Z S H x y d e Q Q' s0 rl px py h q => by
  cases py with
  | non => exact ⟨rfl, by rw [px.isNon]; exact q Z S H _ _ (Same.refl Z) rl (.bl _) h⟩
  | _ => exact h.elim⟩
theorem lr_notN : L2R K Z0 (fun x y H Q => y = .non ∧ Q (.bl (!decide (x = .non))) H) rNotN' := ⟨fun Z S H x y d e Q Q' s0 rl px py h q => by
  cases py with
  | non => exact ⟨rfl, by rw [px.isNon]; exact q Z S H _ _ (Same.refl Z) rl (.bl _) h⟩
  | _ => exact h.elim⟩
/-! ### x in xs -/
def flatD : D → Bool
  | .non => true
  | .bl _ => true
  | .int _ => true
  | .str _ => true
  | _ => false
theorem Rep.flat {Z : Hp} {d : D} {v : V} (h : Rep K Z d v) : flatV v = flatD d := by
  cases h <;> rfl
theorem Reps.flat {Z : Hp} : ∀ {d : List D} {v : List V}, Reps K Z d v → v.all flatV = d.all flatD
  | _, _, .nil => rfl
  | _, _, .cons a r => by rw [List.all_cons, List.all_cons, a.flat, Reps.flat r]
theorem Rep.eqV {Z : Hp} {d e : D} {v u : V} (h : Rep K Z d v) (h2 : Rep K Z e u) (f : flatD d = true) (g : flatD e = true) : eqV v u = eqD d e := by
  cases h <;> cases h2 <;> first | (unfold eqD; with_reducible rfl) | (unfold eqD L2.eqV; with_reducible rfl) | (exfalso; revert f g; simp [flatD])
theorem Reps.anyEq {Z : Hp} {e : D} {u : V} (h2 : Rep K Z e u) (g : flatD e = true) : ∀ {d : List D} {v : List V}, Reps K Z d v → d.all flatD = true → (v.any fun y => L2.eqV y u) = d.any fun y => eqD y e
  | _, _, .nil, _ => rfl
  | _, _, .cons a r, f => by
    rw [List.all_cons] at f
    obtain ⟨f1, f2⟩ := Bool.and_eq_true_iff.mp f
    rw [List.any_cons, List.any_cons, a.eqV h2 f1 g, Reps.anyEq h2 g r f2]
def inD (x : D) (ds : List D) : Bool := ds.any fun y => eqD y x
def rIn' (neg : Bool) : R2' := fun x y S Q => match asQ S y with
  | some ds => flatD x = true ∧ ds.all flatD = true ∧ Q (.bl (if neg then !inD x ds else inD x ds)) S
  | none => False
theorem lr_in {neg : Bool} : L2R K Z0 (rIn K neg) (rIn' neg) := ⟨fun Z S H x y d e Q Q' s0 rl px py h q => by
  have h' : (match asQ S e with
  | some ds => flatD d = true ∧ ds.all flatD = true ∧ Q' (.bl (if neg then !inD d ds else inD d ds)) S
  | none => False) := h
  cases ee : asQ S e with
  | none => rw [ee] at h'; exact h'.elim
  | some ds =>
    rw [ee] at h'
    obtain ⟨f1, f2, h'⟩ := h'
    obtain ⟨a, xs, rfl, h1, h2⟩ := rl.seq py ee
    refine ⟨a, xs, rfl, h1, by rw [px.flat]; exact f1, by rw [h2.flat]; exact f2, ?_⟩
    have e2 : inV x xs = inD d ds := h2.anyEq px f1 f2
    rw [e2]
    exact q Z S H _ _ (Same.refl Z) rl (.bl _) h'⟩
/-! ### subscripts -/
theorem Reps.atI {Z : Hp} {ds : List D} {vs : List V} (h : Reps K Z ds vs) {i : Int} {d : D} (e : L2.atI ds i = some d) : ∃ v, L2.atI vs i = some v ∧ Rep K Z d v := by
  unfold L2.atI at e ⊢
  rw [← h.length]
  cases q : ixN ds.length i with
  | none => rw [q] at e; cases e
  | some j =>
    rw [q] at e
    exact h.getD e
def rIx' : R2' := fun x y S Q => match x, y with
  | .str z, .int i => z.length ≤ sizeLine ∧ (match atI z.cps.toList i with
    | some c => Q (.str ⟨#[c]⟩) S
    | none => False)
  | x, .int i => (match asQ S x with
    | some ds => (match atI ds i with
      | some d => Q d S
      | none => False)
    | none => False)
  | _, _ => False
theorem lr_ix : L2R K Z0 (rIx K) rIx' := ⟨fun Z S H x y d e Q Q' s0 rl px py h q => by
  cases py with
  | int i =>
    by_cases hs : ∃ z, d = .str z
    · obtain ⟨z, rfl⟩ := hs
      cases px
      obtain ⟨h1, h2⟩ := (show z.length ≤ sizeLine ∧ (match atI z.cps.toList i with
        | some c => Q' (.str ⟨#[c]⟩) S
        | none => False) from h)
      cases ec : atI z.cps.toList i with
      | none => rw [ec] at h2; exact h2.elim
      | some c =>
        rw [ec] at h2
        exact .inr (.inr ⟨z, i, c, rfl, rfl, h1, ec, q Z S H _ _ (Same.refl Z) rl (.str _) h2⟩)
    · have h' : (match asQ S d with
        | some ds => (match atI ds i with
          | some d => Q' d S
          | none => False)
        | none => False) := by
        cases d with
        | str z => exact absurd ⟨z, rfl⟩ hs
        | _ => exact h
      cases ee : asQ S d with
      | none => rw [ee] at h'; exact h'.elim
      | some ds =>
        rw [ee] at h'
        obtain ⟨a, xs, rfl, h1, h2⟩ := rl.seq px ee
        have h'' : (match atI ds i with
          | some d => Q' d S
          | none => False) := h'
        cases ei : atI ds i with
        | none => rw [ei] at h''; exact h''.elim
        | some f =>
          rw [ei] at h''
          obtain ⟨v, h3, h4⟩ := h2.atI ei
          have fin := q Z S H _ _ (Same.refl Z) rl h4 h''
          rcases h1 with h1 | h1
          · exact .inl ⟨a, xs, i, v, rfl, rfl, h1, h3, fin⟩
          · exact .inr (.inl ⟨a, xs, i, v, rfl, rfl, h1, h3, fin⟩)
  | _ => cases d <;> exact h.elim⟩
end
end DL
end

section
set_option Elab.async false
set_option linter.all false
set_option autoImplicit false
set_option maxRecDepth 100000
set_option maxHeartbeats 2000000
/-! DL4: tests, chains, displays, arguments, calls of built-ins, methods of lists, slices, fields. -/
namespace DL
open PySem PySem.Spec PyProof.Rows L2

section
variable {K : PySem.W.Frag} {Z0 : Hp} {ta tb tc : TE} {ta' tb' tc' : DE} {r r2 : R2} {r' r2' : R2'} {tt uu : TT} {tt' uu' : DT}
/-! ### chains, unary -/
def dChain (r r' : R2') (ta tb tc : DE) : DE := fun env S Q => ta env S fun x S1 => tb env S1 fun y S2 => r x y S2 fun z S3 => match z with
  | .bl k => if k = true then tc env S3 fun w S4 => r' y w S4 Q else Q (.bl false) S3
  | _ => False
theorem le_chain (hr : L2R K Z0 r r') (hr2 : L2R K Z0 r2 r2') (ha : LE K Z0 ta ta') (hb : LE K Z0 tb tb') (hc : LE K Z0 tc tc') : LE K Z0 (tChain r r2 ta tb tc) (dChain r' r2' ta' tb' tc') := ⟨fun Z S H env σ Q Q' s0 re rl h q =>
  ha.run Z S H env σ _ _ s0 re rl h fun Z1 S1 H1 d v s1 r1 p1 h1 =>
    hb.run Z1 S1 H1 env σ _ _ (s0.trans s1) (re.mono s1) r1 h1 fun Z2 S2 H2 e w s2 r2 p2 h2 =>
      hr.run Z2 S2 H2 v w d e _ _ ((s0.trans s1).trans s2) r2 (p1.mono s2) p2 h2 fun Z3 S3 H3 b z s3 r3 p3 h3 => by
        cases p3 with
        | bl k =>
          refine ⟨k, rfl, ?_⟩
          have h3' : if k = true then tc' env S3 (fun w S4 => r2' e w S4 Q') else Q' (.bl false) S3 := h3
          by_cases hk : k = true
          · rw [if_pos hk] at h3' ⊢
            exact hc.run Z3 S3 H3 env σ _ _ (((s0.trans s1).trans s2).trans s3) (re.mono ((s1.trans s2).trans s3)) r3 h3' fun Z4 S4 H4 f u s4 r4 p4 h4 =>
              hr2.run Z4 S4 H4 w u e f _ _ ((((s0.trans s1).trans s2).trans s3).trans s4) r4 ((p2.mono s3).mono s4) p4 h4 fun Z5 S5 H5 d v s5 => q Z5 S5 H5 d v ((((s1.trans s2).trans s3).trans s4).trans s5)
          · rw [if_neg hk] at h3' ⊢
            exact q Z3 S3 H3 _ _ ((s1.trans s2).trans s3) r3 (.bl _) h3'
        | _ => exact h3.elim⟩
def dUnI (g : Int → Int) (ta : DE) : DE := fun env S Q => ta env S fun x S1 => match x with
  | .int i => Q (.int (g i)) S1
  | _ => False
theorem le_unI {g : Int → Int} (ha : LE K Z0 ta ta') : LE K Z0 (tUn (rU fun i => .int (g i)) ta) (dUnI g ta') := ⟨fun Z S H env σ Q Q' s0 re rl h q =>
  ha.run Z S H env σ _ _ s0 re rl h fun Z1 S1 H1 d v s1 r1 p1 h1 => by
    cases p1 with
    | int i => exact ⟨i, rfl, q _ _ _ _ _ s1 r1 (.int _) h1⟩
    | _ => exact h1.elim⟩

/-! ### tests -/
def dB (t : DE) : DT := fun env S Q => t env S fun x S1 => match x with
  | .bl b => Q b S1
  | _ => False
theorem lt_B (h : LE K Z0 ta ta') : LT K Z0 (tB ta) (dB ta') := ⟨fun Z S H env σ Q Q' s0 re rl hh q =>
  h.run Z S H env σ _ _ s0 re rl hh fun Z1 S1 H1 d v s1 r1 p1 h1 => by
    cases p1 with
    | bl b => exact ⟨b, rfl, q Z1 S1 H1 b s1 r1 h1⟩
    | _ => exact h1.elim⟩
theorem lt_Test (h : LE K Z0 ta ta') : LT K Z0 (tTest ta) (dB ta') := ⟨fun Z S H env σ Q Q' s0 re rl hh q => (lt_B h).run Z S H env σ Q Q' s0 re rl hh q⟩
def dAnd (t u : DT) : DT := fun env S Q => t env S fun c S1 => if c = true then u env S1 Q else Q false S1
def dOr (t u : DT) : DT := fun env S Q => t env S fun c S1 => if c = true then Q true S1 else u env S1 Q
def dNot (t : DT) : DT := fun env S Q => t env S fun c S1 => Q (!c) S1
theorem lt_And (h : LT K Z0 tt tt') (h2 : LT K Z0 uu uu') : LT K Z0 (tAnd tt uu) (dAnd tt' uu') := ⟨fun Z S H env σ Q Q' s0 re rl hh q =>
  h.run Z S H env σ _ _ s0 re rl hh fun Z1 S1 H1 c s1 r1 h1 => by
    by_cases hc : c = true
    · rw [if_pos hc] at h1 ⊢
      exact h2.run Z1 S1 H1 env σ _ _ (s0.trans s1) (re.mono s1) r1 h1 fun Z2 S2 H2 b s2 => q Z2 S2 H2 b (s1.trans s2)
    · rw [if_neg hc] at h1 ⊢
      exact q _ _ _ _ s1 r1 h1⟩
theorem lt_Or (h : LT K Z0 tt tt') (h2 : LT K Z0 uu uu') : LT K Z0 (tOr tt uu) (dOr tt' uu') := ⟨fun Z S H env σ Q Q' s0 re rl hh q =>
  h.run Z S H env σ _ _ s0 re rl hh fun Z1 S1 H1 c s1 r1 h1 => by
    by_cases hc : c = true
    · rw [if_pos hc] at h1 ⊢
      exact q _ _ _ _ s1 r1 h1
    · rw [if_neg hc] at h1 ⊢
      exact h2.run Z1 S1 H1 env σ _ _ (s0.trans s1) (re.mono s1) r1 h1 fun Z2 S2 H2 b s2 => q Z2 S2 H2 b (s1.trans s2)⟩
theorem lt_Not (h : LT K Z0 tt tt') : LT K Z0 (tNot tt) (dNot tt') := ⟨fun Z S H env σ Q Q' s0 re rl hh q =>
  h.run Z S H env σ _ _ s0 re rl hh fun Z1 S1 H1 c s1 r1 h1 => q _ _ _ _ s1 r1 h1⟩
/-- truth of any value -/
def truD (S : Sto) : D → Option Bool
  | .non => some false
  | .bl b => some b
  | .int i => some (i != 0)
  | .str z => if z.length ≤ sizeLine then some ((z.length : Int) != 0) else none
  | .dk kvs => some (!kvs.isEmpty)
  | d => (asQ S d).map fun ds => !ds.isEmpty
theorem Rel.tru {Z : Hp} {S : Sto} {H : Hp} (r : Rel K Z S H) {d : D} {v : V} {k : Bool} (h : Rep K Z d v) (e : truD S d = some k) : TruV K v H k := by
  have sq : ∀ {ds : List D}, asQ S d = some ds → k = !ds.isEmpty → TruV K v H k := fun {ds} e1 e2 => by
    obtain ⟨a, xs, rfl, h1, h2⟩ := r.seq h e1
    have e3 : ds.isEmpty = xs.isEmpty := by
      cases h2 <;> rfl
    rw [e3] at e2
    rcases h1 with h1 | h1
    · exact .inl ⟨xs, h1, e2⟩
    · exact .inr (.inl ⟨xs, h1, e2⟩)
  cases h with
  | non => cases e; rfl
  | bl b => cases e; rfl
  | int i => cases e; rfl
  | str z =>
    have e' : (if z.length ≤ sizeLine then some ((z.length : Int) != 0) else none) = some k := e
    by_cases hz : z.length ≤ sizeLine
    · rw [if_pos hz] at e'; cases e'; exact ⟨hz, rfl⟩
    · rw [if_neg hz] at e'; cases e'
  | dk h1 h2 =>
    cases e
    refine .inr (.inr ⟨_, r.sub _ _ h1, ?_⟩)
    cases h2 <;> rfl
  | ty n => cases e
  | ins _ _ => cases e
  | tup _ _ => cases e; exact sq rfl rfl
  | lst _ _ => cases e; exact sq rfl rfl
  | raw a =>
    obtain ⟨ds, e1, e2⟩ := Option.map_eq_some_iff.mp e
    exact sq e1 e2.symm
def dTru (t : DE) : DT := fun env S Q => t env S fun x S1 => match truD S1 x with
  | some k => Q k S1
  | none => False
theorem lt_Tru (h : LE K Z0 ta ta') : LT K Z0 (fun σ H Q => ta σ H fun x H' => ∃ k, TruV K x H' k ∧ Q k H') (dTru ta') := ⟨fun Z S H env σ Q Q' s0 re rl hh q =>
  h.run Z S H env σ _ _ s0 re rl hh fun Z1 S1 H1 d v s1 r1 p1 h1 => by
    cases e : truD S1 d with
    | none => rw [e] at h1; exact h1.elim
    | some k => rw [e] at h1; exact ⟨k, r1.tru p1 e, q _ _ _ _ s1 r1 h1⟩⟩
/-- as values, by truth -/
def dAndT (ta tb : DE) : DE := fun env S Q => ta env S fun x S1 => match truD S1 x with
  | some k => if k = true then tb env S1 Q else Q x S1
  | none => False
def dOrT (ta tb : DE) : DE := fun env S Q => ta env S fun x S1 => match truD S1 x with
  | some k => if k = true then Q x S1 else tb env S1 Q
  | none => False
def dNotT (ta : DE) : DE := fun env S Q => ta env S fun x S1 => match truD S1 x with
  | some k => Q (.bl (!k)) S1
  | none => False
theorem le_AndT (h : LE K Z0 ta ta') (h2 : LE K Z0 tb tb') : LE K Z0 (tAndT K ta tb) (dAndT ta' tb') := ⟨fun Z S H env σ Q Q' s0 re rl hh q =>
  h.run Z S H env σ _ _ s0 re rl hh fun Z1 S1 H1 d v s1 r1 p1 h1 => by
    cases e : truD S1 d with
    | none => rw [e] at h1; exact h1.elim
    | some k =>
      rw [e] at h1
      refine ⟨k, r1.tru p1 e, ?_⟩
      have h1' : if k = true then tb' env S1 Q' else Q' d S1 := h1
      by_cases hk : k = true
      · rw [if_pos hk] at h1' ⊢
        exact h2.run Z1 S1 H1 env σ _ _ (s0.trans s1) (re.mono s1) r1 h1' fun Z2 S2 H2 d v s2 => q Z2 S2 H2 d v (s1.trans s2)
      · rw [if_neg hk] at h1' ⊢
        exact q _ _ _ _ _ s1 r1 p1 h1'⟩
theorem le_OrT (h : LE K Z0 ta ta') (h2 : LE K Z0 tb tb') : LE K Z0 (tOrT K ta tb) (dOrT ta' tb') := ⟨fun Z S H env σ Q Q' s0 re rl hh q =>
  h.run Z S H env σ _ _ s0 re rl hh fun Z1 S1 H1 d v s1 r1 p1 h1 => by
    cases e : truD S1 d with
    | none => rw [e] at h1; exact h1.elim
    | some k =>
      rw [e] at h1
      refine ⟨k, r1.tru p1 e, ?_⟩
      have h1' : if k = true then Q' d S1 else tb' env S1 Q' := h1
      by_cases hk : k = true
      · rw [if_pos hk] at h1' ⊢
        exact q _ _ _ _ _ s1 r1 p1 h1'
      · rw [if_neg hk] at h1' ⊢
        exact h2.run Z1 S1 H1 env σ _ _ (s0.trans s1) (re.mono s1) r1 h1' fun Z2 S2 H2 d v s2 => q Z2 S2 H2 d v (s1.trans s2)⟩
theorem le_NotT (h : LE K Z0 ta ta') : LE K Z0 (tNotT K ta) (dNotT ta') := ⟨fun Z S H env σ Q Q' s0 re rl hh q =>
  h.run Z S H env σ _ _ s0 re rl hh fun Z1 S1 H1 d v s1 r1 p1 h1 => by
    cases e : truD S1 d with
    | none => rw [e] at h1; exact h1.elim
    | some k => rw [e] at h1; exact ⟨k, r1.tru p1 e, q _ _ _ _ _ s1 r1 (.bl _) h1⟩⟩
def dIf (t : DT) (ta tb : DE) : DE := fun env S Q => t env S fun c S1 => if c = true then ta env S1 Q else tb env S1 Q
theorem le_If (h : LT K Z0 tt tt') (h1 : LE K Z0 ta ta') (h2 : LE K Z0 tb tb') : LE K Z0 (tIf tt ta tb) (dIf tt' ta' tb') := ⟨fun Z S H env σ Q Q' s0 re rl hh q =>
  h.run Z S H env σ _ _ s0 re rl hh fun Z1 S1 H1 c s1 r1 hx => by
    by_cases hc : c = true
    · rw [if_pos hc] at hx ⊢
      exact h1.run Z1 S1 H1 env σ _ _ (s0.trans s1) (re.mono s1) r1 hx fun Z2 S2 H2 d v s2 => q Z2 S2 H2 d v (s1.trans s2)
    · rw [if_neg hc] at hx ⊢
      exact h2.run Z1 S1 H1 env σ _ _ (s0.trans s1) (re.mono s1) r1 hx fun Z2 S2 H2 d v s2 => q Z2 S2 H2 d v (s1.trans s2)⟩

/-! ### arguments, displays -/
def dNil : DA := fun _ S Q => Q [] S
def dCons (ta : DE) (tr : DA) : DA := fun env S Q => ta env S fun x S1 => tr env S1 fun xs S2 => Q (x :: xs) S2
variable {t : TA} {t' : DA}
theorem la_nil : LA K Z0 tNil dNil := ⟨fun Z S H env σ Q Q' s0 re rl hh q => q _ _ _ _ _ (Same.refl _) rl .nil hh⟩
theorem la_cons (h : LE K Z0 ta ta') (h2 : LA K Z0 t t') : LA K Z0 (tCons ta t) (dCons ta' t') := ⟨fun Z S H env σ Q Q' s0 re rl hh q =>
  h.run Z S H env σ _ _ s0 re rl hh fun Z1 S1 H1 d v s1 r1 p1 h1 =>
    h2.run Z1 S1 H1 env σ _ _ (s0.trans s1) (re.mono s1) r1 h1 fun Z2 S2 H2 ds vs s2 r2 p2 h2 => q Z2 S2 H2 _ _ (s1.trans s2) r2 (.cons (p1.mono s2) p2) h2⟩
def dTup (t : DA) : DE := fun env S Q => t env S fun ds S1 => ds.length ≤ sizeLine ∧ Q (.tup ds) S1
/-- a list that is not changed from here on -/
def dLst (t : DA) : DE := fun env S Q => t env S fun ds S1 => ds.length ≤ sizeLine ∧ Q (.lst ds) S1
/-- a list that may be changed -/
def dLstM (t : DA) : DE := fun env S Q => t env S fun ds S1 => ds.length ≤ sizeLine ∧ ∀ a, S1 a = none → Q (.raw a) (updS S1 a (.lst ds))
theorem le_Tup (h : LA K Z0 t t') : LE K Z0 (tTup t) (dTup t') := ⟨fun Z S H env σ Q Q' s0 re rl hh q =>
  h.run Z S H env σ _ _ s0 re rl hh fun Z1 S1 H1 ds vs s1 r1 p1 h1 => ⟨by rw [← p1.length]; exact h1.1, fun p hp => by
    obtain ⟨r2, s2⟩ := r1.laid (o := .tup vs) hp
    exact q _ _ _ _ _ (s1.trans s2) r2 (.tup upd_same (p1.mono s2)) h1.2⟩⟩
theorem le_Lst (h : LA K Z0 t t') : LE K Z0 (tLst t) (dLst t') := ⟨fun Z S H env σ Q Q' s0 re rl hh q =>
  h.run Z S H env σ _ _ s0 re rl hh fun Z1 S1 H1 ds vs s1 r1 p1 h1 => ⟨by rw [← p1.length]; exact h1.1, fun p hp => by
    obtain ⟨r2, s2⟩ := r1.laid (o := .lst vs) hp
    exact q _ _ _ _ _ (s1.trans s2) r2 (.lst upd_same (p1.mono s2)) h1.2⟩⟩
theorem le_LstM (h : LA K Z0 t t') : LE K Z0 (tLst t) (dLstM t') := ⟨fun Z S H env σ Q Q' s0 re rl hh q =>
  h.run Z S H env σ _ _ s0 re rl hh fun Z1 S1 H1 ds vs s1 r1 p1 h1 => ⟨by rw [← p1.length]; exact h1.1, fun p hp => by
    obtain ⟨r2, n2⟩ := r1.new (o := .lst ds) (u := .lst vs) hp ⟨vs, rfl, p1⟩
    exact q _ _ _ _ _ s1 r2 (.raw p) (h1.2 p n2)⟩⟩

/-! ### built-ins called by values -/
abbrev RL' := List D → Sto → DV → Prop
def dCB (r : RL') (t : DA) : DE := fun env S Q => t env S fun ds S1 => r ds S1 Q
theorem le_CB {rr : List V → Hp → VK → Prop} {rr' : RL'} (hr : LR K Z0 rr rr') (h : LA K Z0 t t') : LE K Z0 (tCB rr t) (dCB rr' t') := ⟨fun Z S H env σ Q Q' s0 re rl hh q =>
  h.run Z S H env σ _ _ s0 re rl hh fun Z1 S1 H1 ds vs s1 r1 p1 h1 => hr.run Z1 S1 H1 vs ds _ _ (s0.trans s1) r1 p1 h1 fun Z2 S2 H2 d v s2 => q Z2 S2 H2 d v (s1.trans s2)⟩
def rLen' : RL' := fun ds S Q => match ds with
  | [.str z] => z.length ≤ sizeLine ∧ Q (.int z.length) S
  | [d] => (match asQ S d with
    | some es => Q (.int es.length) S
    | none => False)
  | _ => False
theorem one_of {Z : Hp} {d : D} {vs : List V} (h : Reps K Z [d] vs) : ∃ v, vs = [v] ∧ Rep K Z d v := by
  cases h with
  | cons a r => cases r; exact ⟨_, rfl, a⟩
theorem two_of {Z : Hp} {d e : D} {vs : List V} (h : Reps K Z [d, e] vs) : ∃ v u, vs = [v, u] ∧ Rep K Z d v ∧ Rep K Z e u := by
  cases h with
  | cons a r => obtain ⟨u, rfl, h⟩ := one_of r; exact ⟨_, u, rfl, a, h⟩
theorem lr_len : LR K Z0 (fun xs H Q => ∃ x n, xs = [x] ∧ LenV K x H n ∧ Q (.int (n : Nat)) H) rLen' := ⟨fun Z S H xs ds Q Q' s0 rl pr h q => by
  unfold rLen' at h
  split at h
  · obtain ⟨v, rfl, p⟩ := one_of pr
    cases p
    exact ⟨_, _, rfl, ⟨h.1, rfl⟩, q _ _ _ _ _ (Same.refl _) rl (.int _) h.2⟩
  · rename_i d _
    obtain ⟨v, rfl, p⟩ := one_of pr
    split at h
    · rename_i es e
      obtain ⟨a, xs, rfl, h1, h2⟩ := rl.seq p e
      refine ⟨_, xs.length, rfl, ?_, ?_⟩
      · rcases h1 with h1 | h1
        · exact .inl ⟨xs, h1, rfl⟩
        · exact .inr ⟨xs, h1, rfl⟩
      · rw [← h2.length]
        exact q _ _ _ _ _ (Same.refl _) rl (.int _) h
    · exact h.elim
  · exact h.elim⟩
def rAbs' : RL' := fun ds S Q => match ds with
  | [.int i] => Q (.int (if i < 0 then -i else i)) S
  | _ => False
theorem lr_abs : LR K Z0 (fun xs H Q => ∃ i, xs = [.int i] ∧ Q (.int (if i < 0 then -i else i)) H) rAbs' := ⟨fun Z S H xs ds Q Q' s0 rl pr h q => by
  unfold rAbs' at h
  split at h
  · obtain ⟨v, rfl, p⟩ := one_of pr
    cases p
    exact ⟨_, rfl, q _ _ _ _ _ (Same.refl _) rl (.int _) h⟩
  · exact h.elim⟩
def rInt' : RL' := fun ds S Q => match ds with
  | [.int i] => Q (.int i) S
  | [.bl k] => Q (.int (if k then 1 else 0)) S
  | _ => False
theorem lr_int : LR K Z0 (fun xs H Q => (∃ i, xs = [.int i] ∧ Q (.int i) H) ∨ ∃ k, xs = [.bl k] ∧ Q (.int (if k then 1 else 0)) H) rInt' := ⟨fun Z S H xs ds Q Q' s0 rl pr h q => by
  unfold rInt' at h
  split at h
  · obtain ⟨v, rfl, p⟩ := one_of pr
    cases p
    exact .inl ⟨_, rfl, q _ _ _ _ _ (Same.refl _) rl (.int _) h⟩
  · obtain ⟨v, rfl, p⟩ := one_of pr
    cases p
    exact .inr ⟨_, rfl, q _ _ _ _ _ (Same.refl _) rl (.int _) h⟩
  · exact h.elim⟩
def rMax2' : RL' := fun ds S Q => match ds with
  | [.int i, .int j] => Q (.int (if j > i then j else i)) S
  | _ => False
def rMin2' : RL' := fun ds S Q => match ds with
  | [.int i, .int j] => Q (.int (if j < i then j else i)) S
  | _ => False
theorem lr_max2 : LR K Z0 (fun xs H Q => ∃ i j, xs = [.int i, .int j] ∧ Q (.int (if j > i then j else i)) H) rMax2' := ⟨fun Z S H xs ds Q Q' s0 rl pr h q => by
  unfold rMax2' at h
  split at h
  · obtain ⟨v, u, rfl, p, p2⟩ := two_of pr
    cases p; cases p2
    exact ⟨_, _, rfl, q _ _ _ _ _ (Same.refl _) rl (.int _) h⟩
  · exact h.elim⟩
theorem lr_min2 : LR K Z0 (fun xs H Q => ∃ i j, xs = [.int i, .int j] ∧ Q (.int (if j < i then j else i)) H) rMin2' := ⟨fun Z S H xs ds Q Q' s0 rl pr h q => by
  unfold rMin2' at h
  split at h
  · obtain ⟨v, u, rfl, p, p2⟩ := two_of pr
    cases p; cases p2
    exact ⟨_, _, rfl, q _ _ _ _ _ (Same.refl _) rl (.int _) h⟩
  · exact h.elim⟩
/-- the ints of a row of ints -/
def intsOf : List D → Option (List Int)
  | [] => some []
  | .int i :: ds => (intsOf ds).map (i :: ·)
  | _ => none
theorem intsOf_map : ∀ {ds : List D} {ns : List Int}, intsOf ds = some ns → ds = ns.map D.int
  | [], ns, h => by cases h; rfl
  | .int i :: ds, ns, h => by
    obtain ⟨ms, h1, h2⟩ := Option.map_eq_some_iff.mp h
    subst h2
    rw [intsOf_map h1]; rfl
theorem intsOf_ints : ∀ (ns : List Int), intsOf (ns.map D.int) = some ns
  | [] => rfl
  | n :: ns => by show (intsOf (ns.map D.int)).map (n :: ·) = _; rw [intsOf_ints ns]; rfl
theorem Rel.ints {Z : Hp} {S : Sto} {H : Hp} (r : Rel K Z S H) {d : D} {v : V} {ns : List Int} (h : Rep K Z d v) (e : (asL S d).bind intsOf = some ns) : ∃ a, v = .ref a ∧ SqL K H a (ns.map V.int) := by
  obtain ⟨ds, e1, e2⟩ := Option.bind_eq_some_iff.mp e
  obtain ⟨a, xs, rfl, h1, h2⟩ := r.lst h e1
  rw [intsOf_map e2] at h2
  rw [h2.ints] at h1
  exact ⟨a, rfl, .of h1⟩
def rSum' : RL' := fun ds S Q => match ds with
  | [d] => (match (asL S d).bind intsOf with
    | some ns => Q (.int ns.sum) S
    | none => False)
  | _ => False
theorem lr_sum : LR K Z0 (rSum K) rSum' := ⟨fun Z S H xs ds Q Q' s0 rl pr h q => by
  unfold rSum' at h
  split at h
  · obtain ⟨v, rfl, p⟩ := one_of pr
    split at h
    · rename_i e
      obtain ⟨a, rfl, h1⟩ := rl.ints p e
      exact ⟨a, _, rfl, h1, q _ _ _ _ _ (Same.refl _) rl (.int _) h⟩
    · exact h.elim
  · exact h.elim⟩
def rMaxL' : RL' := fun ds S Q => match ds with
  | [d] => (match (asL S d).bind intsOf with
    | some ns => 0 < ns.length ∧ ∀ m, m ∈ ns → (∀ y, y ∈ ns → y ≤ m) → Q (.int m) S
    | none => False)
  | _ => False
def rMinL' : RL' := fun ds S Q => match ds with
  | [d] => (match (asL S d).bind intsOf with
    | some ns => 0 < ns.length ∧ ∀ m, m ∈ ns → (∀ y, y ∈ ns → m ≤ y) → Q (.int m) S
    | none => False)
  | _ => False
theorem lr_maxL : LR K Z0 (rMax K) rMaxL' := ⟨fun Z S H xs ds Q Q' s0 rl pr h q => by
  unfold rMaxL' at h
  split at h
  · obtain ⟨v, rfl, p⟩ := one_of pr
    split at h
    · rename_i e
      obtain ⟨a, rfl, h1⟩ := rl.ints p e
      exact ⟨a, _, rfl, h1, h.1, fun m m1 m2 => q _ _ _ _ _ (Same.refl _) rl (.int _) (h.2 m m1 m2)⟩
    · exact h.elim
  · exact h.elim⟩
theorem lr_minL : LR K Z0 (rMin K) rMinL' := ⟨fun Z S H xs ds Q Q' s0 rl pr h q => by
  unfold rMinL' at h
  split at h
  · obtain ⟨v, rfl, p⟩ := one_of pr
    split at h
    · rename_i e
      obtain ⟨a, rfl, h1⟩ := rl.ints p e
      exact ⟨a, _, rfl, h1, h.1, fun m m1 m2 => q _ _ _ _ _ (Same.refl _) rl (.int _) (h.2 m m1 m2)⟩
    · exact h.elim
  · exact h.elim⟩
/-- list(x), tuple(x) -/
def rListOf' : RL' := fun ds S Q => match ds with
  | [d] => (match asQ S d with
    | some es => Q (.lst es) S
    | none => False)
  | _ => False
def rListOfM' : RL' := fun ds S Q => match ds with
  | [d] => (match asQ S d with
    | some es => ∀ a, S a = none → Q (.raw a) (updS S a (.lst es))
    | none => False)
  | _ => False
def rTupOf' : RL' := fun ds S Q => match ds with
  | [d] => (match asQ S d with
    | some es => Q (.tup es) S
    | none => False)
  | _ => False
theorem lr_listOf : LR K Z0 (fun xs H Q => ∃ p ys, xs = [.ref p] ∧ (SqL K H p ys ∨ SqT K H p ys) ∧ ∀ l, H l = none → Q (.ref l) (upd H l (.lst ys))) rListOf' := ⟨fun Z S H xs ds Q Q' s0 rl pr h q => by
  unfold rListOf' at h
  split at h
  · obtain ⟨v, rfl, p⟩ := one_of pr
    split at h
    · rename_i e
      obtain ⟨a, xs, rfl, h1, h2⟩ := rl.seq p e
      refine ⟨a, xs, rfl, h1, fun l hl => ?_⟩
      obtain ⟨r2, s2⟩ := rl.laid (o := .lst xs) hl
      exact q _ _ _ _ _ s2 r2 (.lst upd_same (h2.mono s2)) h
    · exact h.elim
  · exact h.elim⟩
theorem lr_listOfM : LR K Z0 (fun xs H Q => ∃ p ys, xs = [.ref p] ∧ (SqL K H p ys ∨ SqT K H p ys) ∧ ∀ l, H l = none → Q (.ref l) (upd H l (.lst ys))) rListOfM' := ⟨fun Z S H xs ds Q Q' s0 rl pr h q => by
  unfold rListOfM' at h
  split at h
  · obtain ⟨v, rfl, p⟩ := one_of pr
    split at h
    · rename_i e
      obtain ⟨a, xs, rfl, h1, h2⟩ := rl.seq p e
      refine ⟨a, xs, rfl, h1, fun l hl => ?_⟩
      obtain ⟨r2, n2⟩ := rl.new (o := .lst _) (u := .lst xs) hl ⟨xs, rfl, h2⟩
      exact q _ _ _ _ _ (Same.refl _) r2 (.raw l) (h l n2)
    · exact h.elim
  · exact h.elim⟩
theorem lr_tupOf : LR K Z0 (fun xs H Q => ∃ p ys, xs = [.ref p] ∧ ((SqL K H p ys ∧ ∀ l, H l = none → Q (.ref l) (upd H l (.tup ys))) ∨ (SqT K H p ys ∧ Q (.ref p) H))) rTupOf' := ⟨fun Z S H xs ds Q Q' s0 rl pr h q => by
  unfold rTupOf' at h
  split at h
  · rename_i d
    obtain ⟨v, rfl, p⟩ := one_of pr
    split at h
    · rename_i es e
      by_cases ht : ∃ fs, d = .tup fs
      · obtain ⟨fs, rfl⟩ := ht
        cases e
        cases p with
        | tup h1 h2 => exact ⟨_, _, rfl, .inr ⟨Same.sqt rl.sub h1, q _ _ _ _ _ (Same.refl _) rl (.tup h1 h2) h⟩⟩
      · rw [asQ_ne fun ds z => ht ⟨ds, z⟩] at e
        obtain ⟨a, xs, rfl, h1, h2⟩ := rl.lst p e
        refine ⟨a, xs, rfl, .inl ⟨.of h1, fun l hl => ?_⟩⟩
        obtain ⟨r2, s2⟩ := rl.laid (o := .tup xs) hl
        exact q _ _ _ _ _ s2 r2 (.tup upd_same (h2.mono s2)) h
    · exact h.elim
  · exact h.elim⟩
/-- any(xs), all(xs) of truth values -/
def blsOf : List D → Option (List Bool)
  | [] => some []
  | .bl i :: ds => (blsOf ds).map (i :: ·)
  | _ => none
theorem blsOf_map : ∀ {ds : List D} {ns : List Bool}, blsOf ds = some ns → ds = ns.map D.bl
  | [], ns, h => by cases h; rfl
  | .bl i :: ds, ns, h => by
    obtain ⟨ms, h1, h2⟩ := Option.map_eq_some_iff.mp h
    subst h2
    rw [blsOf_map h1]; rfl
theorem blsOf_bls : ∀ (ns : List Bool), blsOf (ns.map D.bl) = some ns
  | [] => rfl
  | n :: ns => by show (blsOf (ns.map D.bl)).map (n :: ·) = _; rw [blsOf_bls ns]; rfl
def rAny' : RL' := fun ds S Q => match ds with
  | [d] => (match (asL S d).bind blsOf with
    | some ns => Q (.bl (ns.any id)) S
    | none => False)
  | _ => False
def rAll' : RL' := fun ds S Q => match ds with
  | [d] => (match (asL S d).bind blsOf with
    | some ns => Q (.bl (ns.all id)) S
    | none => False)
  | _ => False
theorem Rel.bls {Z : Hp} {S : Sto} {H : Hp} (r : Rel K Z S H) {d : D} {v : V} {ns : List Bool} (h : Rep K Z d v) (e : (asL S d).bind blsOf = some ns) : ∃ a, v = .ref a ∧ SqL K H a (ns.map V.bl) := by
  obtain ⟨ds, e1, e2⟩ := Option.bind_eq_some_iff.mp e
  obtain ⟨a, xs, rfl, h1, h2⟩ := r.lst h e1
  rw [blsOf_map e2] at h2
  rw [h2.bls] at h1
  exact ⟨a, rfl, .of h1⟩
theorem lr_any : LR K Z0 (rAny K) rAny' := ⟨fun Z S H xs ds Q Q' s0 rl pr h q => by
  unfold rAny' at h
  split at h
  · obtain ⟨v, rfl, p⟩ := one_of pr
    split at h
    · rename_i e
      obtain ⟨a, rfl, h1⟩ := rl.bls p e
      exact ⟨a, _, rfl, h1, q _ _ _ _ _ (Same.refl _) rl (.bl _) h⟩
    · exact h.elim
  · exact h.elim⟩
theorem lr_all : LR K Z0 (rAll K) rAll' := ⟨fun Z S H xs ds Q Q' s0 rl pr h q => by
  unfold rAll' at h
  split at h
  · obtain ⟨v, rfl, p⟩ := one_of pr
    split at h
    · rename_i e
      obtain ⟨a, rfl, h1⟩ := rl.bls p e
      exact ⟨a, _, rfl, h1, q _ _ _ _ _ (Same.refl _) rl (.bl _) h⟩
    · exact h.elim
  · exact h.elim⟩
end
end DL
end

section
set_option Elab.async false
set_option linter.all false
set_option autoImplicit false
set_option maxRecDepth 100000
set_option maxHeartbeats 2000000
/-! DL5: methods of lists, slices, fields, targets, statements, loops, comprehensions. -/
namespace DL
open PySem PySem.Spec PyProof.Rows L2

section
variable {K : PySem.W.Frag} {Z0 : Hp} {ta tb tc te to_ : TE} {ta' tb' tc' te' to' : DE} {tt uu : TT} {tt' uu' : DT} {t : TA} {t' : DA}
/-! ### methods of lists -/
abbrev RM' := D → List D → Sto → DV → Prop
def dBM (r : RM') (to : DE) (t : DA) : DE := fun env S Q => to env S fun x S1 => (asL S1 x).isSome = true ∧ t env S1 fun ds S2 => r x ds S2 Q
theorem Rel.tyL {Z : Hp} {S : Sto} {H : Hp} (r : Rel K Z S H) {d : D} {v : V} (h : Rep K Z d v) (e : (asL S d).isSome = true) : tyV K "list" v H := by
  obtain ⟨ds, e⟩ := Option.isSome_iff_exists.mp e
  obtain ⟨a, xs, rfl, h1, h2⟩ := r.lst h e
  exact .inl ⟨rfl, xs, .of h1⟩
theorem le_BM {r : V → List V → Hp → VK → Prop} {r' : RM'} (hr : LM K Z0 r r') (ho : LE K Z0 to_ to') (h : LA K Z0 t t') : LE K Z0 (tBM K "list" r to_ t) (dBM r' to' t') := ⟨fun Z S H env σ Q Q' s0 re rl hh q =>
  ho.run Z S H env σ _ _ s0 re rl hh fun Z1 S1 H1 d v s1 r1 p1 h1 => ⟨r1.tyL p1 h1.1,
    h.run Z1 S1 H1 env σ _ _ (s0.trans s1) (re.mono s1) r1 h1.2 fun Z2 S2 H2 ds vs s2 r2 p2 h2 =>
      hr.run Z2 S2 H2 v vs d ds _ _ ((s0.trans s1).trans s2) r2 (p1.mono s2) p2 h2 fun Z3 S3 H3 d v s3 => q Z3 S3 H3 d v ((s1.trans s2).trans s3)⟩⟩
theorem le_BM0 {r : V → List V → Hp → VK → Prop} {r' : RM'} (hr : LM K Z0 r r') (ho : LE K Z0 to_ to') : LE K Z0 (tBM0 K "list" r to_) (dBM r' to' dNil) := ⟨fun Z S H env σ Q Q' s0 re rl hh q =>
  ho.run Z S H env σ _ _ s0 re rl hh fun Z1 S1 H1 d v s1 r1 p1 h1 => ⟨r1.tyL p1 h1.1,
      hr.run Z1 S1 H1 v [] d [] _ _ (s0.trans s1) r1 p1 .nil h1.2 fun Z3 S3 H3 d v s3 => q Z3 S3 H3 d v (s1.trans s3)⟩⟩
/-- the list of the store at d -/
def ownL (S : Sto) : D → Option (Addr × List D)
  | .raw a => (match S a with
    | some (.lst ds) => some (a, ds)
    | _ => none)
  | _ => none
theorem ownL_some {S : Sto} {d : D} {a : Addr} {ds : List D} (e : ownL S d = some (a, ds)) : d = .raw a ∧ S a = some (.lst ds) := by
  unfold ownL at e
  split at e
  · split at e
    · rename_i q
      cases e
      exact ⟨rfl, q⟩
    · cases e
  · cases e
theorem Rel.ownL {Z : Hp} {S : Sto} {H : Hp} (r : Rel K Z S H) {d : D} {v : V} {a : Addr} {ds : List D} (h : Rep K Z d v) (e : DL.ownL S d = some (a, ds)) : v = .ref a ∧ S a = some (.lst ds) ∧ ∃ xs, H a = some (.lst xs) ∧ Reps K Z ds xs := by
  obtain ⟨rfl, e2⟩ := ownL_some e
  cases h
  obtain ⟨_, u, h1, xs, e3, h2⟩ := r.own a _ e2
  subst e3
  exact ⟨rfl, e2, xs, h1, h2⟩
theorem Rel.setL {Z : Hp} {S : Sto} {H : Hp} (r : Rel K Z S H) {a : Addr} {ds es : List D} {ys : List V} (e : S a = some (.lst ds)) (h : Reps K Z es ys) : Rel K Z (updS S a (.lst es)) (upd H a (.lst ys)) :=
  r.write e ⟨ys, rfl, h⟩
def rAppend' : RM' := fun x vs S Q => match ownL S x, vs with
  | some (a, ds), [y] => ds.length < sizeLine ∧ Q .non (updS S a (.lst (ds ++ [y])))
  | _, _ => False
theorem lm_append : LM K Z0 rAppend rAppend' := ⟨fun Z S H x xs d ds Q Q' s0 rl px pr h q => by
  unfold rAppend' at h
  split at h
  · rename_i e
    obtain ⟨rfl, e1, zs, h1, h2⟩ := rl.ownL px e
    obtain ⟨v, rfl, p⟩ := one_of pr
    exact ⟨_, zs, v, rfl, rfl, h1, by rw [← h2.length]; exact h.1, q _ _ _ _ _ (Same.refl _) (rl.setL e1 (h2.append (.cons p .nil))) .non h.2⟩
  · exact h.elim⟩
def rPop' : RM' := fun x vs S Q => match ownL S x, vs with
  | some (a, ds), [] => (match ds[ds.length - 1]? with
    | some y => Q y (updS S a (.lst ds.dropLast))
    | none => False)
  | _, _ => False
theorem lm_pop : LM K Z0 rPop rPop' := ⟨fun Z S H x xs d ds Q Q' s0 rl px pr h q => by
  unfold rPop' at h
  split at h
  · rename_i e
    obtain ⟨rfl, e1, zs, h1, h2⟩ := rl.ownL px e
    cases pr
    split at h
    · rename_i y ey
      obtain ⟨v, h3, h4⟩ := h2.getD ey
      exact ⟨_, zs, v, rfl, rfl, h1, by rw [← h2.length]; exact h3, q _ _ _ _ _ (Same.refl _) (rl.setL e1 h2.dropLast) h4 h⟩
    · exact h.elim
  · exact h.elim⟩
def rPopAt' : RM' := fun x vs S Q => match ownL S x, vs with
  | some (a, ds), [.int i] => -(2 ^ 63) ≤ i ∧ i < 2 ^ 63 ∧ (match ixN ds.length i with
    | some k => (match ds[k]? with
      | some y => Q y (updS S a (.lst (ds.eraseIdx k)))
      | none => False)
    | none => False)
  | _, _ => False
theorem lm_popAt : LM K Z0 rPopAt rPopAt' := ⟨fun Z S H x xs d ds Q Q' s0 rl px pr h q => by
  unfold rPopAt' at h
  split at h
  · rename_i e
    obtain ⟨rfl, e1, zs, h1, h2⟩ := rl.ownL px e
    obtain ⟨v, rfl, p⟩ := one_of pr
    cases p
    obtain ⟨b1, b2, h⟩ := h
    split at h
    · rename_i k ek
      split at h
      · rename_i y ey
        obtain ⟨v, h3, h4⟩ := h2.getD ey
        rw [h2.length] at ek
        exact ⟨_, zs, _, k, v, rfl, rfl, h1, b1, b2, (ixN_seq ek).1, h3, q _ _ _ _ _ (Same.refl _) (rl.setL e1 (h2.eraseIdx k)) h4 h⟩
      · exact h.elim
    · exact h.elim
  · exact h.elim⟩
def rInsert' : RM' := fun x vs S Q => match ownL S x, vs with
  | some (a, ds), [.int i, y] => ds.length < sizeLine ∧ 0 ≤ i ∧ i < 2 ^ 63 ∧ Q .non (updS S a (.lst (ds.take i.toNat ++ [y] ++ ds.drop i.toNat)))
  | _, _ => False
theorem lm_insert : LM K Z0 (fun x vs H Q => ∃ (l : Addr) (xs : List V) (i : Int) (y : V), x = .ref l ∧ vs = [.int i, y] ∧ H l = some (.lst xs) ∧ xs.length < sizeLine ∧ 0 ≤ i ∧ i < 2 ^ 63 ∧
    Q .non (upd H l (.lst (xs.take i.toNat ++ [y] ++ xs.drop i.toNat)))) rInsert' := ⟨fun Z S H x xs d ds Q Q' s0 rl px pr h q => by
  unfold rInsert' at h
  split at h
  · rename_i e
    obtain ⟨rfl, e1, zs, h1, h2⟩ := rl.ownL px e
    obtain ⟨v, u, rfl, p, p2⟩ := two_of pr
    cases p
    obtain ⟨b0, b1, b2, h⟩ := h
    exact ⟨_, zs, _, u, rfl, rfl, h1, by rw [← h2.length]; exact b0, b1, b2, q _ _ _ _ _ (Same.refl _) (rl.setL e1 (((h2.take _).append (.cons p2 .nil)).append (h2.drop _))) .non h⟩
  · exact h.elim⟩
def rReverse' : RM' := fun x vs S Q => match ownL S x, vs with
  | some (a, ds), [] => Q .non (updS S a (.lst ds.reverse))
  | _, _ => False
theorem lm_reverse : LM K Z0 rReverse rReverse' := ⟨fun Z S H x xs d ds Q Q' s0 rl px pr h q => by
  unfold rReverse' at h
  split at h
  · rename_i e
    obtain ⟨rfl, e1, zs, h1, h2⟩ := rl.ownL px e
    cases pr
    exact ⟨_, zs, rfl, rfl, h1, q _ _ _ _ _ (Same.refl _) (rl.setL e1 h2.reverse) .non h⟩
  · exact h.elim⟩

/-! ### slices -/
abbrev DO := DEnv → Sto → (Option Int → Sto → Prop) → Prop
structure LO (K : PySem.W.Frag) (Z0 : Hp) (t : TO) (t' : DO) : Prop where
  run : ∀ (Z : Hp) (S : Sto) (H : Hp) (env : DEnv) (σ : L2.St) (Q : Option Int → Hp → Prop) (Q' : Option Int → Sto → Prop), Same Z0 Z → RelE K Z env σ → Rel K Z S H → t' env S Q' →
    (∀ (Z' : Hp) (S' : Sto) (H' : Hp) (o : Option Int), Same Z Z' → Rel K Z' S' H' → Q' o S' → Q o H') → t σ H Q
def dNoPart : DO := fun _ S Q => Q none S
def dPart (t : DE) : DO := fun env S Q => t env S fun x S1 => match x with
  | .int i => Q (some i) S1
  | _ => False
theorem lo_none : LO K Z0 tNoPart dNoPart := ⟨fun Z S H env σ Q Q' s0 re rl hh q => q _ _ _ _ (Same.refl _) rl hh⟩
theorem lo_some (h : LE K Z0 ta ta') : LO K Z0 (tPart ta) (dPart ta') := ⟨fun Z S H env σ Q Q' s0 re rl hh q =>
  h.run Z S H env σ _ _ s0 re rl hh fun Z1 S1 H1 d v s1 r1 p1 h1 => by
    cases p1 with
    | int i => exact ⟨i, rfl, q _ _ _ _ s1 r1 h1⟩
    | _ => exact h1.elim⟩
def cutD (xs : List D) (lo hi : Option Int) : List D := (xs.drop (HT.sIx xs.length 0 lo)).take (HT.sIx xs.length xs.length hi - HT.sIx xs.length 0 lo)
theorem Reps.cut {Z : Hp} {ds : List D} {vs : List V} (h : Reps K Z ds vs) (lo hi : Option Int) : Reps K Z (cutD ds lo hi) (cutV vs lo hi) := by
  unfold cutD cutV
  rw [h.length]
  exact (h.drop _).take _
theorem cutD_whole {xs : List D} {lo hi : Option Int} (h : HT.sIx xs.length 0 lo = 0 ∧ HT.sIx xs.length xs.length hi = xs.length) : cutD xs lo hi = xs := by
  unfold cutD
  rw [h.1, h.2, List.drop_zero, Nat.sub_zero, List.take_length]
def dSl (te : DE) (tl th : DO) : DE := fun env S Q => te env S fun x S1 => tl env S1 fun l S2 => th env S2 fun u S3 => match x with
  | .str z => z.length ≤ sizeLine ∧ Q (.str (cutS z l u)) S3
  | .tup ds => Q (.tup (cutD ds l u)) S3
  | x => (match asL S3 x with
    | some ds => Q (.lst (cutD ds l u)) S3
    | none => False)
abbrev rSlAll (K : PySem.W.Frag) : V → Option Int → Option Int → Hp → VK → Prop := fun x lo hi H Q => (fun x lo hi H Q => rSlS x lo hi H Q ∨ rSlA K x lo hi H Q) x lo hi H Q ∨ rSlL K x lo hi H Q
theorem sl_all {X : Cx} : SlR X (rSlAll X.K) := (sl_str.or sl_tupA).or sl_list
theorem le_Sl {tl th : TO} {tl' th' : DO} (h : LE K Z0 te te') (hl : LO K Z0 tl tl') (hh : LO K Z0 th th') : LE K Z0 (tSl (rSlAll K) te tl th) (dSl te' tl' th') := ⟨fun Z S H env σ Q Q' s0 re rl hw q =>
  h.run Z S H env σ _ _ s0 re rl hw fun Z1 S1 H1 d v s1 r1 p1 h1 =>
    hl.run Z1 S1 H1 env σ _ _ (s0.trans s1) (re.mono s1) r1 h1 fun Z2 S2 H2 l s2 r2 h2 =>
      hh.run Z2 S2 H2 env σ _ _ ((s0.trans s1).trans s2) (re.mono (s1.trans s2)) r2 h2 fun Z3 S3 H3 u s3 r3 h3 => by
        have p3 := (p1.mono s2).mono s3
        have sT := (s1.trans s2).trans s3
        have lists : (match asL S3 d with
            | some ds => Q' (.lst (cutD ds l u)) S3
            | none => False) → rSlAll K v l u H3 Q := fun h3 => by
          split at h3
          · rename_i ds e
            obtain ⟨a, xs, rfl, h4, h5⟩ := r3.lst p3 e
            refine .inr ⟨a, xs, rfl, .of h4, fun p hp => ?_⟩
            obtain ⟨r4, s4⟩ := r3.laid (o := .lst (cutV xs l u)) hp
            exact q _ _ _ _ _ (sT.trans s4) r4 (.lst upd_same ((h5.cut l u).mono s4)) h3
          · exact h3.elim
        cases p3 with
        | str z => exact .inl (.inl ⟨z, rfl, h3.1, q _ _ _ _ _ sT r3 (.str _) h3.2⟩)
        | @tup a xs ds h4 h5 =>
          refine .inl (.inr ⟨a, xs, rfl, Same.sqt r3.sub h4, fun e => ?_, fun _ p hp => ?_⟩)
          · rw [← h5.length] at e
            have h3' : Q' (.tup (cutD ds l u)) S3 := h3
            rw [cutD_whole e] at h3'
            exact q _ _ _ _ _ sT r3 (.tup h4 h5) h3'
          · obtain ⟨r4, s4⟩ := r3.laid (o := .tup (cutV xs l u)) hp
            exact q _ _ _ _ _ (sT.trans s4) r4 (.tup upd_same ((h5.cut l u).mono s4)) h3
        | _ => exact lists h3⟩

/-! ### fields -/
def insOf (S : Sto) : D → Option (Addr × List (Str × D))
  | .ins C fs => some (C, fs)
  | .raw a => (match S a with
    | some (.ins C fs) => some (C, fs)
    | _ => none)
  | _ => none
theorem Rel.ins {Z : Hp} {S : Sto} {H : Hp} (r : Rel K Z S H) {d : D} {v : V} {C : Addr} {fs : List (Str × D)} (h : Rep K Z d v) (e : insOf S d = some (C, fs)) : ∃ a dx gs, v = .ref a ∧ H a = some (.ins C dx gs) ∧ RepF K Z fs gs := by
  cases h with
  | ins h1 h2 => cases e; exact ⟨_, _, _, rfl, r.sub _ _ h1, h2⟩
  | raw a =>
    have e' : (match S a with
      | some (.ins C fs) => some (C, fs)
      | _ => none) = some (C, fs) := e
    split at e'
    · rename_i q
      cases e'
      obtain ⟨_, u, h1, dx, gs, e2, h2⟩ := r.own a _ q
      subst e2
      exact ⟨a, dx, gs, rfl, h1, h2⟩
    · cases e'
  | _ => cases e
def dFld (C : Addr) (f : Str) (ta : DE) : DE := fun env S Q => ta env S fun x S1 => match insOf S1 x with
  | some (C', fs) => C' = C ∧ (match fs.lookup f with
    | some d => Q d S1
    | none => False)
  | none => False
theorem le_Fld {C : Addr} {f : Str} (hC : Cls K C) (hn : NoAttr K C f) (h : LE K Z0 ta ta') : LE K Z0 (tFld K ta f) (dFld C f ta') := ⟨fun Z S H env σ Q Q' s0 re rl hw q =>
  h.run Z S H env σ _ _ s0 re rl hw fun Z1 S1 H1 d v s1 r1 p1 h1 => by
    split at h1
    · rename_i C' fs e
      obtain ⟨rfl, h1⟩ := h1
      obtain ⟨a, dx, gs, rfl, h2, h3⟩ := r1.ins p1 e
      split at h1
      · rename_i d' e2
        obtain ⟨v, h4, h5⟩ := h3.lookup f e2
        exact ⟨a, _, dx, gs, v, rfl, h2, hC, hn, h4, q _ _ _ _ _ s1 r1 h5 h1⟩
      · exact h1.elim
    · exact h1.elim⟩

/-! ### targets -/
def dgName (i : Nat) : DG := fun d env S Q => Q (env.set i (some d)) S
theorem wipe_set {σ : L2.St} {i : Nat} {o : Option V} : ∀ {ws : List Nat}, i ∈ ws → wipe (σ.set i o) ws = wipe σ ws
  | [], h => by cases h
  | w :: ws, h => by
    show (wipe (σ.set i o) ws).set w none = (wipe σ ws).set w none
    by_cases hw : i ∈ ws
    · rw [wipe_set hw]
    · have e : w = i := by
        rcases List.mem_cons.mp h with e | e
        · exact e.symm
        · exact absurd e hw
      subst e
      have out : ∀ (ws : List Nat) (τ : L2.St), w ∉ ws → wipe (τ.set w o) ws = (wipe τ ws).set w o := by
        intro ws
        induction ws with
        | nil => intro τ _; rfl
        | cons y ys ih =>
          intro τ hn
          show (wipe (τ.set w o) ys).set y none = ((wipe τ ys).set y none).set w o
          rw [ih τ fun z => hn (List.mem_cons_of_mem _ z)]
          exact List.set_comm _ _ fun z => hn (by rw [z]; exact List.mem_cons_self)
      rw [out ws σ hw, List.set_set]
theorem lg_name {i : Nat} {ws : List Nat} (hi : i ∈ ws) : LG K Z0 ws (gName i) (dgName i) := ⟨fun Z S H env σ d v Q Q' s0 re rl p h q => q _ _ _ _ _ (Same.refl _) (re.set p i) rl (wipe_set hi) h⟩
def dgNil : DGs := fun ds env S Q => match ds with
  | [] => Q env S
  | _ => False
def dgCons (g : DG) (u : DGs) : DGs := fun ds env S Q => match ds with
  | d :: r => g d env S fun env' S' => u r env' S' Q
  | _ => False
theorem lgs_nil {ws : List Nat} : LGs K Z0 ws gNil dgNil := ⟨fun Z S H env σ d v Q Q' s0 re rl p h q => by
  cases p with
  | nil => exact ⟨rfl, q _ _ _ _ _ (Same.refl _) re rl rfl h⟩
  | cons _ _ => exact h.elim⟩
theorem lgs_cons {ws : List Nat} {g : TG} {g' : DG} {u : TGs} {u' : DGs} (h1 : LG K Z0 ws g g') (h2 : LGs K Z0 ws u u') : LGs K Z0 ws (gCons g u) (dgCons g' u') := ⟨fun Z S H env σ d v Q Q' s0 re rl p h q => by
  cases p with
  | nil => exact h.elim
  | cons p1 p2 => exact ⟨_, _, rfl, h1.run Z S H env σ _ _ _ _ s0 re rl p1 h fun Z1 S1 H1 env1 σ1 s1 re1 r1 w1 hx =>
      h2.run Z1 S1 H1 env1 σ1 _ _ _ _ (s0.trans s1) re1 r1 (p2.mono s1) hx fun Z2 S2 H2 env2 σ2 s2 re2 r2 w2 => q Z2 S2 H2 env2 σ2 (s1.trans s2) re2 r2 (w2.trans w1)⟩⟩
/-- (a, b, ..) = a tuple -/
def dgTup (n : Nat) (u : DGs) : DG := fun d env S Q => match d with
  | .tup ds => ds.length = n ∧ u ds env S Q
  | _ => False
theorem lg_tup {ws : List Nat} {n : Nat} {u : TGs} {u' : DGs} (h : LGs K Z0 ws u u') : LG K Z0 ws (gTup K n u) (dgTup n u') := ⟨fun Z S H env σ d v Q Q' s0 re rl p hh q => by
  cases p with
  | @tup a xs ds h1 h2 => exact ⟨a, xs, rfl, Same.sqt rl.sub h1, by rw [← h2.length]; exact hh.1, h.run Z S H env σ _ _ _ _ s0 re rl h2 hh.2 q⟩
  | _ => exact hh.elim⟩
/-- o[i] = e, o a list of the store -/
def dgSub (to ti : DE) : DG := fun d env S Q => to env S fun o S1 => ti env S1 fun i S2 => match ownL S2 o, i with
  | some (a, ds), .int k => (match ixN ds.length k with
    | some j => Q env (updS S2 a (.lst (ds.set j d)))
    | none => False)
  | _, _ => False
theorem lg_sub {ws : List Nat} (h1 : LE K Z0 to_ to') (h2 : LE K Z0 ta ta') : LG K Z0 ws (gSub to_ ta rSetL) (dgSub to' ta') := ⟨fun Z S H env σ d v Q Q' s0 re rl p hh q =>
  h1.run Z S H env σ _ _ s0 re rl hh fun Z1 S1 H1 o vo s1 r1 p1 hx =>
    h2.run Z1 S1 H1 env σ _ _ (s0.trans s1) (re.mono s1) r1 hx fun Z2 S2 H2 i vi s2 r2 p2 hy => by
      split at hy
      · rename_i a ds k e
        obtain ⟨rfl, e1, zs, h3, h4⟩ := r2.ownL (p1.mono s2) e
        cases p2
        split at hy
        · rename_i j ej
          rw [h4.length] at ej
          exact ⟨a, zs, k, j, rfl, rfl, h3, ej, q _ _ _ _ _ (s1.trans s2) (re.mono (s1.trans s2)) (r2.setL e1 (Reps.set ((p.mono s1).mono s2) j h4)) rfl hy⟩
        · exact hy.elim
      · exact hy.elim⟩
end
end DL
end

section
set_option Elab.async false
set_option linter.all false
set_option autoImplicit false
set_option maxRecDepth 100000
set_option maxHeartbeats 2000000
/-! DL6: statements, loops, comprehensions, defs, exceptions. -/
namespace DL
open PySem PySem.Spec PyProof.Rows L2

section
variable {K : PySem.W.Frag} {Z0 : Hp} {ta tb tc te to_ : TE} {ta' tb' tc' te' to' : DE} {tt : TT} {tt' : DT} {t u : TS} {t' u' : DS}
/-! ### statements -/
def dNext : DS := fun D env S => D.nx env S
def dSeq (t u : DS) : DS := fun D env S => t { D with nx := u D } env S
theorem ls_next : LS K Z0 tNext dNext := ⟨fun Z S H env σ D D' s0 re rl h e => e.nx _ _ _ _ _ (Same.refl _) re rl h⟩
theorem ls_seq (h1 : LS K Z0 t t') (h2 : LS K Z0 u u') : LS K Z0 (tSeq t u) (dSeq t' u') := ⟨fun Z S H env σ D D' s0 re rl h e =>
  h1.run Z S H env σ _ _ s0 re rl h ⟨fun Z1 S1 H1 env1 σ1 s1 re1 r1 hx => h2.run Z1 S1 H1 env1 σ1 _ _ (s0.trans s1) re1 r1 hx (e.mono s1), e.rt, e.bk, e.ct⟩⟩
def dBreak : DS := fun D env S => D.bk env S
def dCont : DS := fun D env S => D.ct env S
theorem ls_break : LS K Z0 tBreak dBreak := ⟨fun Z S H env σ D D' s0 re rl h e => e.bk _ _ _ _ _ (Same.refl _) re rl h⟩
theorem ls_cont : LS K Z0 tCont dCont := ⟨fun Z S H env σ D D' s0 re rl h e => e.ct _ _ _ _ _ (Same.refl _) re rl h⟩
def dDrop (ta : DE) : DS := fun D env S => ta env S fun _ S1 => D.nx env S1
theorem ls_drop (h : LE K Z0 ta ta') : LS K Z0 (tDrop ta) (dDrop ta') := ⟨fun Z S H env σ D D' s0 re rl hh e =>
  h.run Z S H env σ _ _ s0 re rl hh fun Z1 S1 H1 d v s1 r1 p1 h1 => e.nx _ _ _ _ _ s1 (re.mono s1) r1 h1⟩
def dRet (ta : DE) : DS := fun D env S => ta env S D.rt
theorem ls_ret (h : LE K Z0 ta ta') : LS K Z0 (tRet ta) (dRet ta') := ⟨fun Z S H env σ D D' s0 re rl hh e =>
  h.run Z S H env σ _ _ s0 re rl hh fun Z1 S1 H1 d v s1 r1 p1 h1 => e.rt _ _ _ _ _ s1 r1 p1 h1⟩
def dRetN : DS := fun D _ S => D.rt .non S
theorem ls_retN : LS K Z0 tRetN dRetN := ⟨fun Z S H env σ D D' s0 re rl hh e => e.rt _ _ _ _ _ (Same.refl _) rl .non hh⟩
def dIfS (c : DT) (t u : DS) : DS := fun D env S => c env S fun b S1 => if b = true then t D env S1 else u D env S1
theorem ls_if (hc : LT K Z0 tt tt') (h1 : LS K Z0 t t') (h2 : LS K Z0 u u') : LS K Z0 (tIfS tt t u) (dIfS tt' t' u') := ⟨fun Z S H env σ D D' s0 re rl hh e =>
  hc.run Z S H env σ _ _ s0 re rl hh fun Z1 S1 H1 b s1 r1 hx => by
    by_cases hb : b = true
    · rw [if_pos hb] at hx ⊢
      exact h1.run Z1 S1 H1 env σ _ _ (s0.trans s1) (re.mono s1) r1 hx (e.mono s1)
    · rw [if_neg hb] at hx ⊢
      exact h2.run Z1 S1 H1 env σ _ _ (s0.trans s1) (re.mono s1) r1 hx (e.mono s1)⟩
def dNever : DS := fun _ _ _ => False
theorem ls_never : LS K Z0 tNever dNever := ⟨fun Z S H env σ D D' s0 re rl hh e => hh.elim⟩
def dAsg (te : DE) (g : DG) : DS := fun D env S => te env S fun x S1 => g x env S1 D.nx
theorem ls_asg {ws : List Nat} {g : TG} {g' : DG} (h : LE K Z0 te te') (hg : LG K Z0 ws g g') : LS K Z0 (tAsg te g) (dAsg te' g') := ⟨fun Z S H env σ D D' s0 re rl hh e =>
  h.run Z S H env σ _ _ s0 re rl hh fun Z1 S1 H1 d v s1 r1 p1 h1 => hg.run Z1 S1 H1 env σ _ _ _ _ (s0.trans s1) (re.mono s1) r1 p1 h1 fun Z2 S2 H2 env2 σ2 s2 re2 r2 _ => e.nx _ _ _ _ _ (s1.trans s2) re2 r2⟩
/-- a, b = x, y -/
def dPar (i j : Nat) (t : DA) : DS := fun D env S => t env S fun ds S1 => match ds with
  | [v, w] => D.nx ((env.set i (some v)).set j (some w)) S1
  | _ => False
theorem ls_par {i j : Nat} {ta : TA} {ta' : DA} (h : LA K Z0 ta ta') : LS K Z0 (tPar i j ta) (dPar i j ta') := ⟨fun Z S H env σ D D' s0 re rl hh e =>
  h.run Z S H env σ _ _ s0 re rl hh fun Z1 S1 H1 ds vs s1 r1 p1 h1 => by
    split at h1
    · obtain ⟨v, u, rfl, p, p2⟩ := two_of p1
      exact ⟨v, u, rfl, e.nx _ _ _ _ _ s1 (((re.mono s1).set p i).set p2 j) r1 h1⟩
    · exact h1.elim⟩
/-- x += e -/
def dAugI (f : Int → Int → Int) (i : Nat) (te : DE) : DS := fun D env S => match env[i]? with
  | some (some (.int a)) => te env S fun y S1 => (match y with
    | .int b => D.nx (env.set i (some (.int (f a b)))) S1
    | _ => False)
  | _ => False
theorem ls_augI {f : Int → Int → Int} {i : Nat} (h : LE K Z0 te te') : LS K Z0 (tAug i te (ipI f)) (dAugI f i te') := ⟨fun Z S H env σ D D' s0 re rl hh e => by
  unfold dAugI at hh
  split at hh
  · rename_i a ea
    obtain ⟨v, h1, h2⟩ := re.at_ i _ ea
    cases h2
    exact ⟨_, h1, h.run Z S H env σ _ _ s0 re rl hh fun Z1 S1 H1 d v s1 r1 p1 h1 => by
      cases p1 with
      | int b => exact ⟨a, b, rfl, rfl, e.nx _ _ _ _ _ s1 ((re.mono s1).set (.int _) i) r1 h1⟩
      | _ => exact h1.elim⟩
  · exact hh.elim⟩
/-- o.f = e, o an instance of the store -/
def dFldS (C : Addr) (f : Str) (to te : DE) : DS := fun D env S => te env S fun y S1 => to env S1 fun x S2 => match x with
  | .raw a => (match S2 a with
    | some (.ins C' fs) => C' = C ∧ fs.length < 1000 ∧ D.nx env (updS S2 a (.ins C' (putD f y fs)))
    | _ => False)
  | _ => False
theorem ls_fld {C : Addr} {f : Str} (hC : Cls K C) (hn : NoAttr K C f) (ho : LE K Z0 to_ to') (h : LE K Z0 te te') : LS K Z0 (sFld K to_ te f) (dFldS C f to' te') := ⟨fun Z S H env σ D D' s0 re rl hh e =>
  h.run Z S H env σ _ _ s0 re rl hh fun Z1 S1 H1 y vy s1 r1 p1 h1 => ho.run Z1 S1 H1 env σ _ _ (s0.trans s1) (re.mono s1) r1 h1 fun Z2 S2 H2 x vx s2 r2 p2 h2 => by
    split at h2
    · rename_i a
      cases p2
      split at h2
      · rename_i C' fs e2
        obtain ⟨rfl, hl, h2⟩ := h2
        obtain ⟨_, u, h3, dx, gs, e3, h4⟩ := r2.own a _ e2
        subst e3
        exact ⟨a, _, dx, gs, rfl, h3, hC, hn, by rw [← h4.length]; exact hl, e.nx _ _ _ _ _ (s1.trans s2) (re.mono (s1.trans s2)) (r2.write (o' := .ins _ (putD f y fs)) e2 ⟨dx, _, rfl, h4.put f (p1.mono s2)⟩) h2⟩
      · exact h2.elim
    · exact h2.elim⟩

/-! ### what is told otherwise: frozen, forgotten -/
/-- from the store S and the names' values env one may go on as if they were S2, env2 -/
def Gh (env : DEnv) (S : Sto) (env2 : DEnv) (S2 : Sto) : Prop := ∀ (K : PySem.W.Frag) (Z : Hp) (H : Hp) (σ : L2.St), RelE K Z env σ → Rel K Z S H → ∃ Z', Same Z Z' ∧ RelE K Z' env2 σ ∧ Rel K Z' S2 H
theorem Gh.refl {env : DEnv} {S : Sto} : Gh env S env S := fun _ Z _ _ re rl => ⟨Z, Same.refl Z, re, rl⟩
theorem Gh.trans {e1 e2 e3 : DEnv} {S1 S2 S3 : Sto} (a : Gh e1 S1 e2 S2) (b : Gh e2 S2 e3 S3) : Gh e1 S1 e3 S3 := fun K Z H σ re rl => by
  obtain ⟨Z1, s1, re1, r1⟩ := a K Z H σ re rl
  obtain ⟨Z2, s2, re2, r2⟩ := b K Z1 H σ re1 r1
  exact ⟨Z2, s1.trans s2, re2, r2⟩
theorem Gh.weak {env : DEnv} {S S2 : Sto} (h : ∀ b o, S2 b = some o → S b = some o) : Gh env S env S2 := fun K Z H σ re rl => ⟨Z, Same.refl Z, re, rl.weak h⟩
theorem RelE.frz {Z : Hp} {env : DEnv} {σ : L2.St} (re : RelE K Z env σ) {i : Nat} {d e : D} (hi : env[i]? = some (some d)) (h : ∀ v, Rep K Z d v → Rep K Z e v) : RelE K Z (env.set i (some e)) σ := by
  refine ⟨by rw [List.length_set, re.len], fun j f q => ?_⟩
  by_cases hj : i = j
  · subst hj
    obtain ⟨v, h1, h2⟩ := re.at_ i d hi
    have hl : i < env.length := (List.getElem?_eq_some_iff.mp hi).1
    rw [List.getElem?_set_self hl] at q
    cases q
    exact ⟨v, h1, h v h2⟩
  · rw [List.getElem?_set_ne hj] at q
    exact re.at_ j f q
/-- the list at a, which the name i holds, is frozen -/
theorem Gh.freeze {env : DEnv} {S : Sto} {i : Nat} {a : Addr} {ds : List D} (hi : env[i]? = some (some (.raw a))) (h : S a = some (.lst ds)) : Gh env S (env.set i (some (.lst ds))) (delS S a) := fun K Z H σ re rl => by
  obtain ⟨u, h1, ⟨xs, e, h2⟩, r2, s2⟩ := rl.freeze h
  subst e
  refine ⟨_, s2, (re.mono s2).frz hi fun v p => ?_, r2⟩
  cases p
  exact .lst upd_same (h2.mono s2)
theorem Gh.freezeI {env : DEnv} {S : Sto} {i : Nat} {a C : Addr} {fs : List (Str × D)} (hi : env[i]? = some (some (.raw a))) (h : S a = some (.ins C fs)) : Gh env S (env.set i (some (.ins C fs))) (delS S a) := fun K Z H σ re rl => by
  obtain ⟨u, h1, ⟨dx, xs, e, h2⟩, r2, s2⟩ := rl.freeze h
  subst e
  refine ⟨_, s2, (re.mono s2).frz hi fun v p => ?_, r2⟩
  cases p
  exact .ins upd_same (h2.mono s2)
/-- ahead of a block -/
def dGh (t : DS) : DS := fun D env S => ∃ env2 S2, Gh env S env2 S2 ∧ t D env2 S2
theorem ls_gh (h : LS K Z0 t t') : LS K Z0 t (dGh t') := ⟨fun Z S H env σ D D' s0 re rl hh e => by
  obtain ⟨env2, S2, g, hh⟩ := hh
  obtain ⟨Z1, s1, re1, r1⟩ := g K Z H σ re rl
  exact h.run Z1 S2 H env2 σ D D' (s0.trans s1) re1 r1 hh (e.mono s1)⟩
/-- what is handed back, told otherwise -/
def GhR (S : Sto) (d : D) (S2 : Sto) (d2 : D) : Prop := ∀ (K : PySem.W.Frag) (Z : Hp) (H : Hp) (v : V), Rep K Z d v → Rel K Z S H → ∃ Z', Same Z Z' ∧ Rep K Z' d2 v ∧ Rel K Z' S2 H
theorem GhR.refl {S : Sto} {d : D} : GhR S d S d := fun _ Z _ _ p r => ⟨Z, Same.refl Z, p, r⟩
theorem GhR.trans {S1 S2 S3 : Sto} {d1 d2 d3 : D} (a : GhR S1 d1 S2 d2) (b : GhR S2 d2 S3 d3) : GhR S1 d1 S3 d3 := fun K Z H v p r => by
  obtain ⟨Z1, s1, p1, r1⟩ := a K Z H v p r
  obtain ⟨Z2, s2, p2, r2⟩ := b K Z1 H v p1 r1
  exact ⟨Z2, s1.trans s2, p2, r2⟩
theorem GhR.weak {S S2 : Sto} {d : D} (h : ∀ b o, S2 b = some o → S b = some o) : GhR S d S2 d := fun K Z H v p r => ⟨Z, Same.refl Z, p, r.weak h⟩
theorem GhR.freeze {S : Sto} {a : Addr} {ds : List D} (h : S a = some (.lst ds)) : GhR S (.raw a) (delS S a) (.lst ds) := fun K Z H v p rl => by
  obtain ⟨u, h1, ⟨xs, e, h2⟩, r2, s2⟩ := rl.freeze h
  subst e
  cases p
  exact ⟨_, s2, .lst upd_same (h2.mono s2), r2⟩
def dRetG (ta : DE) : DS := fun D env S => ta env S fun d S1 => ∃ d2 S2, GhR S1 d S2 d2 ∧ D.rt d2 S2
theorem ls_retG (h : LE K Z0 ta ta') : LS K Z0 (tRet ta) (dRetG ta') := ⟨fun Z S H env σ D D' s0 re rl hh e =>
  h.run Z S H env σ _ _ s0 re rl hh fun Z1 S1 H1 d v s1 r1 p1 h1 => by
    obtain ⟨d2, S2, g, h1⟩ := h1
    obtain ⟨Z2, s2, p2, r2⟩ := g K Z1 H1 v p1 r1
    exact e.rt _ _ _ _ _ (s1.trans s2) r2 p2 h1⟩
/-- an expression's value told otherwise -/
def dGhE (ta : DE) : DE := fun env S Q => ta env S fun d S1 => ∃ d2 S2, GhR S1 d S2 d2 ∧ Q d2 S2
theorem le_gh (h : LE K Z0 ta ta') : LE K Z0 ta (dGhE ta') := ⟨fun Z S H env σ Q Q' s0 re rl hh q =>
  h.run Z S H env σ _ _ s0 re rl hh fun Z1 S1 H1 d v s1 r1 p1 h1 => by
    obtain ⟨d2, S2, g, h1⟩ := h1
    obtain ⟨Z2, s2, p2, r2⟩ := g K Z1 H1 v p1 r1
    exact q _ _ _ _ _ (s1.trans s2) r2 p2 h1⟩

/-! ### loops -/
def dWhile (c : DT) (tb : DS) : DS := fun D env S => ∃ P : Nat → DEnv → Sto → Prop, (∃ m, P m env S) ∧ ∀ m env S, P m env S →
  c env S fun b S1 => if b = true then tb { D with nx := fun e s => ∃ m', m' < m ∧ P m' e s, ct := fun e s => ∃ m', m' < m ∧ P m' e s, bk := D.nx } env S1 else D.nx env S1
theorem ls_while (hc : LT K Z0 tt tt') (hb : LS K Z0 t t') : LS K Z0 (tWhile tt t) (dWhile tt' t') := ⟨fun Z S H env σ D D' s0 re rl hh e => by
  obtain ⟨P, ⟨m0, p0⟩, turn⟩ := hh
  refine ⟨fun m σ H => ∃ Z' S env, Same Z Z' ∧ RelE K Z' env σ ∧ Rel K Z' S H ∧ P m env S, ⟨m0, Z, S, env, Same.refl Z, re, rl, p0⟩, ?_⟩
  rintro m σ1 H1 ⟨Z1, S1, env1, s1, re1, r1, p1⟩
  refine hc.run Z1 S1 H1 env1 σ1 _ _ (s0.trans s1) re1 r1 (turn m env1 S1 p1) fun Z2 S2 H2 b s2 r2 hx => ?_
  by_cases hb' : b = true
  · rw [if_pos hb'] at hx ⊢
    refine ⟨fun σ' H' => ∃ Z' S env m', m' < m ∧ Same Z Z' ∧ RelE K Z' env σ' ∧ Rel K Z' S H' ∧ P m' env S, fun σ' H' ⟨Z', S, env, m', hm, s', re', r', p'⟩ => ⟨m', hm, Z', S, env, s', re', r', p'⟩, ?_⟩
    refine hb.run Z2 S2 H2 env1 σ1 _ _ (s0.trans (s1.trans s2)) (re1.mono s2) r2 hx ⟨fun Z3 S3 H3 env3 σ3 s3 re3 r3 p3 => ?_, fun Z3 S3 H3 d v s3 => e.rt Z3 S3 H3 d v ((s1.trans s2).trans s3),
      fun Z3 S3 H3 env3 σ3 s3 => e.nx Z3 S3 H3 env3 σ3 ((s1.trans s2).trans s3), fun Z3 S3 H3 env3 σ3 s3 re3 r3 p3 => ?_⟩
    all_goals
      obtain ⟨m', hm, p3⟩ := p3
      exact ⟨Z3, S3, env3, m', hm, (s1.trans s2).trans s3, re3, r3, p3⟩
  · rw [if_neg hb'] at hx ⊢
    exact e.nx _ _ _ _ _ (s1.trans s2) (re1.mono s2) r2 hx⟩
/-- a walk of these items, while G holds of the store -/
structure WalkD (K : PySem.W.Frag) (Z : Hp) (J : It) (items : List D) (G : Sto → Prop) : Prop where
  goes : ∀ Z' S H i, Same Z Z' → Rel K Z' S H → G S → i < items.length → J.go i H
  stops : ∀ Z' S H, Same Z Z' → Rel K Z' S H → G S → J.stop items.length H
  yields : ∀ Z' S H i x H', Same Z Z' → Rel K Z' S H → G S → i < items.length → J.yld i H x H' → ∃ Z3 d, Same Z' Z3 ∧ Rel K Z3 S H' ∧ items[i]? = some d ∧ Rep K Z3 d x
abbrev DI := DEnv → Sto → (List D → (Sto → Prop) → Sto → Prop) → Prop
structure LI (K : PySem.W.Frag) (Z0 : Hp) (t : TI) (t' : DI) : Prop where
  run : ∀ (Z : Hp) (S : Sto) (H : Hp) (env : DEnv) (σ : L2.St) (R : It → Hp → Prop) (R' : List D → (Sto → Prop) → Sto → Prop), Same Z0 Z → RelE K Z env σ → Rel K Z S H → t' env S R' →
    (∀ (Z' : Hp) (S' : Sto) (H' : Hp) (J : It) (items : List D) (G : Sto → Prop), Same Z Z' → Rel K Z' S' H' → WalkD K Z' J items G → R' items G S' → R J H') → t σ H R
def dFor (wi : DI) (g : DG) (tb : DS) : DS := fun D env S => wi env S fun items G S1 => ∃ P : Nat → DEnv → Sto → Prop, P 0 env S1 ∧ (∀ i env S, P i env S → G S) ∧
  (∀ i x env S, items[i]? = some x → P i env S → g x env S fun env2 S2 => tb { D with nx := P (i + 1), ct := P (i + 1), bk := D.nx } env2 S2) ∧ (∀ env S, P items.length env S → D.nx env S)
theorem ls_for {wi : TI} {wi' : DI} {ws : List Nat} {g : TG} {g' : DG} (hi : LI K Z0 wi wi') (hg : LG K Z0 ws g g') (hb : LS K Z0 t t') : LS K Z0 (tFor wi g t) (dFor wi' g' t') := ⟨fun Z S H env σ D D' s0 re rl hh e => by
  refine hi.run Z S H env σ _ _ s0 re rl hh fun Z1 S1 H1 J items G s1 r1 wk hx => ?_
  obtain ⟨P, p0, pG, turn, done⟩ := hx
  refine ⟨fun i m σ H => i ≤ items.length ∧ m = items.length - i ∧ ∃ Z' S env, Same Z1 Z' ∧ RelE K Z' env σ ∧ Rel K Z' S H ∧ P i env S, ⟨items.length, Nat.zero_le _, rfl, Z1, S1, env, Same.refl _, re.mono s1, r1, p0⟩, ?_⟩
  rintro i m σ2 H2 ⟨hi, rfl, Z2, S2, env2, s2, re2, r2, p2⟩
  by_cases hlt : i < items.length
  · refine .inr ⟨wk.goes Z2 S2 H2 i s2 r2 (pG i env2 S2 p2) hlt, fun σ' H' => ∃ Z' S env, Same Z1 Z' ∧ RelE K Z' env σ' ∧ Rel K Z' S H' ∧ P (i + 1) env S, fun σ' H' ⟨Z', S, env, s', re', r', p'⟩ => ⟨items.length - (i + 1), by omega, hlt, rfl, Z', S, env, s', re', r', p'⟩, fun x H' y => ?_⟩
    obtain ⟨Z3, d, s3, r3, e3, q3⟩ := wk.yields Z2 S2 H2 i x H' s2 r2 (pG i env2 S2 p2) hlt y
    refine hg.run Z3 S2 H' env2 σ2 d x _ _ ((s0.trans s1).trans (s2.trans s3)) (re2.mono s3) r3 q3 (turn i d env2 S2 e3 p2) fun Z4 S4 H4 env4 σ4 s4 re4 r4 _ h4 => ?_
    have sT := (s2.trans s3).trans s4
    exact hb.run Z4 S4 H4 env4 σ4 _ _ ((s0.trans s1).trans sT) re4 r4 h4 ⟨fun Z5 S5 H5 env5 σ5 s5 re5 r5 p5 => ⟨Z5, S5, env5, sT.trans s5, re5, r5, p5⟩, fun Z5 S5 H5 d v s5 => e.rt Z5 S5 H5 d v ((s1.trans sT).trans s5),
      fun Z5 S5 H5 env5 σ5 s5 => e.nx Z5 S5 H5 env5 σ5 ((s1.trans sT).trans s5), fun Z5 S5 H5 env5 σ5 s5 re5 r5 p5 => ⟨Z5, S5, env5, sT.trans s5, re5, r5, p5⟩⟩
  · have ei : i = items.length := by omega
    subst ei
    exact .inl ⟨wk.stops Z2 S2 H2 s2 r2 (pG _ env2 S2 p2), e.nx _ _ _ _ _ (s1.trans s2) re2 r2 (done env2 S2 p2)⟩⟩
/-- over a list or a tuple -/
def diSeq (te : DE) : DI := fun env S R => te env S fun x S1 => match x with
  | .raw a => (match S1 a with
    | some (.lst ds) => R ds (fun S => S a = some (.lst ds)) S1
    | _ => False)
  | x => (match asQ S1 x with
    | some ds => R ds (fun _ => True) S1
    | none => False)
theorem Rel.lock {Z : Hp} {S : Sto} {H : Hp} (r : Rel K Z S H) {a : Addr} {ds : List D} (e : S a = some (.lst ds)) : ∃ xs, H a = some (.lst xs) ∧ Reps K Z ds xs := by
  obtain ⟨_, u, h1, xs, e2, h2⟩ := r.own a _ e
  subst e2
  exact ⟨xs, h1, h2⟩
theorem wd_list {Z : Hp} {a : Addr} {xs : List V} {ds : List D} (h : Z a = some (.lst xs)) (p : Reps K Z ds xs) : WalkD K Z (Itl K a) ds (fun _ => True) := by
  have w : Walk (Itl K a) xs.length (fun H => SqL K H a xs) (YAt xs) := walk_list
  refine ⟨fun Z' S H i s r _ hi => w.goes i H (by rw [← p.length]; exact hi) (.of (r.sub _ _ (s _ _ h))), fun Z' S H s r _ => by rw [p.length]; exact w.stops H (.of (r.sub _ _ (s _ _ h))), fun Z' S H i x H' s r _ hi y => ?_⟩
  obtain ⟨e, hx⟩ := w.yields i H x H' (by rw [← p.length]; exact hi) (.of (r.sub _ _ (s _ _ h))) y
  subst e
  obtain ⟨d, e1, e2⟩ := p.get hx
  exact ⟨Z', d, Same.refl _, r, e1, e2.mono s⟩
theorem wd_tup {Z : Hp} {a : Addr} {xs : List V} {ds : List D} (h : Z a = some (.tup xs)) (p : Reps K Z ds xs) : WalkD K Z (Itt K a) ds (fun _ => True) := by
  have w : Walk (Itt K a) xs.length (fun H => SqT K H a xs) (YAt xs) := walk_tup
  refine ⟨fun Z' S H i s r _ hi => w.goes i H (by rw [← p.length]; exact hi) (Same.sqt r.sub (s _ _ h)), fun Z' S H s r _ => by rw [p.length]; exact w.stops H (Same.sqt r.sub (s _ _ h)), fun Z' S H i x H' s r _ hi y => ?_⟩
  obtain ⟨e, hx⟩ := w.yields i H x H' (by rw [← p.length]; exact hi) (Same.sqt r.sub (s _ _ h)) y
  subst e
  obtain ⟨d, e1, e2⟩ := p.get hx
  exact ⟨Z', d, Same.refl _, r, e1, e2.mono s⟩
theorem wd_listS {Z : Hp} {a : Addr} {ds : List D} : WalkD K Z (Itl K a) ds (fun S => S a = some (.lst ds)) := by
  refine ⟨fun Z' S H i s r g hi => ?_, fun Z' S H s r g => ?_, fun Z' S H i x H' s r g hi y => ?_⟩
  all_goals obtain ⟨xs, h, p⟩ := r.lock g
  · exact (walk_list (xs := xs)).goes i H (by rw [← p.length]; exact hi) (.of h)
  · rw [p.length]; exact (walk_list (xs := xs)).stops H (.of h)
  · obtain ⟨e, hx⟩ := (walk_list (xs := xs)).yields i H x H' (by rw [← p.length]; exact hi) (.of h) y
    subst e
    obtain ⟨d, e1, e2⟩ := p.get hx
    exact ⟨Z', d, Same.refl _, r, e1, e2⟩
theorem li_seq (h : LE K Z0 te te') : LI K Z0 (iSeq K te) (diSeq te') := ⟨fun Z S H env σ R R' s0 re rl hh q =>
  h.run Z S H env σ _ _ s0 re rl hh fun Z1 S1 H1 d v s1 r1 p1 h1 => by
    by_cases hr : ∃ a, d = .raw a
    · obtain ⟨a, rfl⟩ := hr
      cases p1
      have h1' : (match S1 a with
        | some (.lst ds) => R' ds (fun S => S a = some (.lst ds)) S1
        | _ => False) := h1
      split at h1'
      · rename_i ds e
        obtain ⟨xs, h2, p⟩ := r1.lock e
        exact ⟨a, rfl, .inl ⟨⟨xs, .of h2⟩, q _ _ _ _ _ _ s1 r1 wd_listS h1'⟩⟩
      · exact h1'.elim
    · have h1' : (match asQ S1 d with
        | some ds => R' ds (fun _ => True) S1
        | none => False) := by
        cases d with
        | raw a => exact absurd ⟨a, rfl⟩ hr
        | _ => exact h1
      cases p1 with
      | tup h2 h3 => exact ⟨_, rfl, .inr ⟨⟨_, Same.sqt r1.sub h2⟩, q _ _ _ _ _ _ s1 r1 (wd_tup h2 h3) h1'⟩⟩
      | lst h2 h3 => exact ⟨_, rfl, .inl ⟨⟨_, .of (r1.sub _ _ h2)⟩, q _ _ _ _ _ _ s1 r1 (wd_list h2 h3) h1'⟩⟩
      | raw a => exact absurd ⟨a, rfl⟩ hr
      | _ => exact h1'.elim⟩
/-- lo, lo + 1, .. -/
def rngD (lo : Int) (n : Nat) : List D := (List.range n).map fun i => .int (lo + (i : Nat))
theorem rngD_len (lo : Int) (n : Nat) : (rngD lo n).length = n := by unfold rngD; rw [List.length_map, List.length_range]
theorem rngD_get {lo : Int} {n i : Nat} {d : D} : (rngD lo n)[i]? = some d ↔ i < n ∧ d = .int (lo + (i : Nat)) := by
  unfold rngD
  rw [List.getElem?_map]
  by_cases h : i < n
  · rw [List.getElem?_range h]
    simp [h, eq_comm]
  · rw [List.getElem?_eq_none (by rw [List.length_range]; omega)]
    simp [h]
theorem wd_range {Z : Hp} {lo : Int} {n : Nat} : WalkD K Z (Itr lo n) (rngD lo n) (fun _ => True) := by
  refine ⟨fun Z' S H i s r _ hi => by rw [rngD_len] at hi; exact hi, fun Z' S H s r _ => by rw [rngD_len]; exact Nat.le_refl _, fun Z' S H i x H' s r _ hi y => ?_⟩
  rw [rngD_len] at hi
  obtain ⟨rfl, rfl⟩ := y
  exact ⟨Z', _, Same.refl _, r, rngD_get.mpr ⟨hi, rfl⟩, .int _⟩
variable {ar : TA} {ar' : DA}
def diRng1 (t : DA) : DI := fun env S R => t env S fun ds S1 => match ds with
  | [.int j] => -(2 ^ 62) ≤ j ∧ j < 2 ^ 62 ∧ R (rngD 0 j.toNat) (fun _ => True) S1
  | _ => False
def diRng2 (t : DA) : DI := fun env S R => t env S fun ds S1 => match ds with
  | [.int i, .int j] => (-(2 ^ 62) ≤ i ∧ i < 2 ^ 62 ∧ -(2 ^ 62) ≤ j ∧ j < 2 ^ 62) ∧ R (rngD i (j - i).toNat) (fun _ => True) S1
  | _ => False
theorem li_rng1 (h : LA K Z0 ar ar') : LI K Z0 (iRng1 ar) (diRng1 ar') := ⟨fun Z S H env σ R R' s0 re rl hh q =>
  h.run Z S H env σ _ _ s0 re rl hh fun Z1 S1 H1 ds vs s1 r1 p1 h1 => by
    split at h1
    · obtain ⟨v, rfl, p⟩ := one_of p1
      cases p
      exact ⟨_, rfl, h1.1, h1.2.1, q _ _ _ _ _ _ s1 r1 wd_range h1.2.2⟩
    · exact h1.elim⟩
theorem li_rng2 (h : LA K Z0 ar ar') : LI K Z0 (iRng2 ar) (diRng2 ar') := ⟨fun Z S H env σ R R' s0 re rl hh q =>
  h.run Z S H env σ _ _ s0 re rl hh fun Z1 S1 H1 ds vs s1 r1 p1 h1 => by
    split at h1
    · obtain ⟨v, u, rfl, p, p2⟩ := two_of p1
      cases p; cases p2
      exact ⟨_, _, rfl, h1.1, q _ _ _ _ _ _ s1 r1 wd_range h1.2⟩
    · exact h1.elim⟩
/-- (0, x0), (1, x1), .. -/
def enumD (ds : List D) : List D := ds.zipIdx.map fun p => .tup [.int (p.2 : Nat), p.1]
theorem enumD_len (ds : List D) : (enumD ds).length = ds.length := by unfold enumD; rw [List.length_map, List.length_zipIdx]
theorem enumD_get {ds : List D} {i : Nat} {d : D} : (enumD ds)[i]? = some d ↔ ∃ x, ds[i]? = some x ∧ d = .tup [.int (i : Nat), x] := by
  unfold enumD
  rw [List.getElem?_map, List.getElem?_zipIdx]
  cases h : ds[i]? with
  | none => simp
  | some x => simp [eq_comm]
theorem wd_pair {Z : Hp} {J : It} {items : List D} {G : Sto → Prop} (w : ∀ Z' S H, Same Z Z' → Rel K Z' S H → G S → ∃ Gv xs ys, Walk J items.length Gv (YPair xs ys) ∧ Gv H ∧ ∀ i x y, xs i = some x → ys i = some y → ∃ d e, items[i]? = some (.tup [d, e]) ∧ Rep K Z' d x ∧ Rep K Z' e y) :
    WalkD K Z J items G := by
  refine ⟨fun Z' S H i s r g hi => ?_, fun Z' S H s r g => ?_, fun Z' S H i x H' s r g hi y => ?_⟩
  all_goals obtain ⟨Gv, xs, ys, wk, gv, it⟩ := w Z' S H s r g
  · exact wk.goes i H hi gv
  · exact wk.stops H gv
  · obtain ⟨T, x1, y1, rfl, hT, rfl, e1, e2⟩ := wk.yields i H x H' hi gv y
    obtain ⟨d, e, e3, p1, p2⟩ := it i x1 y1 e1 e2
    obtain ⟨r2, s2⟩ := r.laid (o := .tup [x1, y1]) hT
    exact ⟨_, _, s2, r2, e3, .tup upd_same (.cons (p1.mono s2) (.cons (p2.mono s2) .nil))⟩
def diEnum (t : DA) : DI := fun env S R => t env S fun ds S1 => match ds with
  | [.raw a] => (match S1 a with
    | some (.lst es) => R (enumD es) (fun S => S a = some (.lst es)) S1
    | _ => False)
  | [x] => (match asQ S1 x with
    | some es => R (enumD es) (fun _ => True) S1
    | none => False)
  | _ => False
theorem enum_items {Z : Hp} {ds : List D} {xs : List V} (p : Reps K Z ds xs) : ∀ (i : Nat) (x y : V), (fun i : Nat => some (V.int (i : Nat))) i = some x → xs[i]? = some y → ∃ d e, (enumD ds)[i]? = some (.tup [d, e]) ∧ Rep K Z d x ∧ Rep K Z e y := fun i x y e1 e2 => by
  obtain ⟨d, h1, h2⟩ := p.get e2
  cases e1
  exact ⟨_, d, enumD_get.mpr ⟨d, h1, rfl⟩, .int _, h2⟩
theorem li_enum (h : LA K Z0 ar ar') : LI K Z0 (iEnumA K ar) (diEnum ar') := ⟨fun Z S H env σ R R' s0 re rl hh q =>
  h.run Z S H env σ _ _ s0 re rl hh fun Z1 S1 H1 ds vs s1 r1 p1 h1 => by
    split at h1
    · rename_i a
      obtain ⟨v, rfl, p⟩ := one_of p1
      cases p
      split at h1
      · rename_i es e
        obtain ⟨xs, h2, p⟩ := r1.lock e
        refine ⟨a, rfl, .inl ⟨xs, .of h2, q _ _ _ _ _ _ s1 r1 (wd_pair fun Z' S H s r g => ?_) h1⟩⟩
        obtain ⟨xs, h2, p⟩ := r.lock g
        exact ⟨_, _, _, by rw [enumD_len, p.length]; exact walk_enum, SqL.of h2, enum_items p⟩
      · exact h1.elim
    · rename_i x hx
      obtain ⟨v, rfl, p⟩ := one_of p1
      split at h1
      · rename_i es e
        cases p with
        | @tup a xs ds h2 h3 =>
          cases e
          refine ⟨a, rfl, .inr ⟨xs, Same.sqt r1.sub h2, q _ _ _ _ _ _ s1 r1 (wd_pair fun Z' S H s r g => ?_) h1⟩⟩
          exact ⟨_, _, _, by rw [enumD_len, h3.length]; exact walk_enumT, Same.sqt r.sub (s _ _ h2), enum_items (h3.mono s)⟩
        | @lst a xs ds h2 h3 =>
          cases e
          refine ⟨a, rfl, .inl ⟨xs, .of (r1.sub _ _ h2), q _ _ _ _ _ _ s1 r1 (wd_pair fun Z' S H s r g => ?_) h1⟩⟩
          exact ⟨_, _, _, by rw [enumD_len, h3.length]; exact walk_enum, SqL.of (r.sub _ _ (s _ _ h2)), enum_items (h3.mono s)⟩
        | raw a => exact absurd rfl (hx a)
        | _ => cases e
      · exact h1.elim
    · exact h1.elim⟩
end
end DL
end

section
set_option Elab.async false
set_option linter.all false
set_option autoImplicit false
set_option maxRecDepth 100000
set_option maxHeartbeats 2000000
/-! DL7: comprehensions; defs and their calls; exceptions raised and caught. -/
namespace DL
open PySem PySem.Spec PyProof.Rows L2

section
variable {K : PySem.W.Frag} {Z0 : Hp} {ta tb tc te to_ : TE} {ta' tb' tc' te' to' : DE} {tt : TT} {tt' : DT} {t u : TS} {t' u' : DS} {ar : TA} {ar' : DA}
/-! ### comprehensions: what comes is frozen -/
def wipeD (env : DEnv) : List Nat → DEnv
  | [] => env
  | v :: vs => (wipeD env vs).set v none
theorem RelE.wipe {Z : Hp} {env : DEnv} {σ : L2.St} (re : RelE K Z env σ) : ∀ vs : List Nat, RelE K Z (wipeD env vs) (L2.wipe σ vs)
  | [] => re
  | v :: vs => (RelE.wipe re vs).setN v none
/-- P: by the turn, what has been made, the store; at the new list's address (Dd) the store bears o meanwhile -/
def dLc (wi : DI) (g : DG) (tt : DT) (te : DE) (vs : List Nat) : DE := fun env S Q => wi env S fun items G S1 => ∃ P : Nat → List D → Sto → Prop, P 0 [] S1 ∧ (∀ i acc S Dd o, P i acc S → S Dd = none → G (updS S Dd o)) ∧
  (∀ i x acc S Dd o, items[i]? = some x → P i acc S → S Dd = none → g x (wipeD env vs) (updS S Dd o) fun env2 S2 => tt env2 S2 fun b S3 =>
    if b = true then te env2 S3 fun y S4 => acc.length < sizeLine ∧ S4 Dd = some o ∧ P (i + 1) (acc ++ [y]) (delS S4 Dd) else S3 Dd = some o ∧ P (i + 1) acc (delS S3 Dd)) ∧
  (∀ acc S, P items.length acc S → Q (.lst acc) S)
theorem Rel.del {Z : Hp} {S : Sto} {H : Hp} (r : Rel K Z S H) (a : Addr) : Rel K Z (delS S a) H := r.weak fun b o e => by
  by_cases hb : b = a
  · subst hb; rw [delS_same] at e; cases e
  · rw [delS_ne hb] at e; exact e
theorem wipe_sub {ws : List Nat} : ∀ (vs : List Nat) (τ : L2.St), (∀ v ∈ vs, v ∈ ws) → L2.wipe (L2.wipe τ vs) ws = L2.wipe τ ws
  | [], _, _ => rfl
  | v :: vs, τ, h => by
    show L2.wipe ((L2.wipe τ vs).set v none) ws = _
    rw [wipe_set (h v List.mem_cons_self), wipe_sub vs τ fun w hw => h w (List.mem_cons_of_mem _ hw)]
theorem le_lc {wi : TI} {wi' : DI} {g : TG} {g' : DG} {vs : List Nat} (hi : LI K Z0 wi wi') (hg : LG K Z0 vs g g') (ht : LT K Z0 tt tt') (he : LE K Z0 te te') : LE K Z0 (tLc wi g tt te vs) (dLc wi' g' tt' te' vs) := ⟨fun Z S H env σ Q Q' s0 re rl hh q => by
  refine hi.run Z S H env σ _ _ s0 re rl hh fun Z1 S1 H1 J items G s1 r1 wk hx => ?_
  obtain ⟨P, p0, pG, turn, done⟩ := hx
  intro Da hD
  have fixed : ∀ (xs : List V), ∃ o : O, ∀ Z u, RepO K Z o u ↔ u = .lst xs := fun xs => ⟨.abs ⟨fun _ u => u = .lst xs, fun _ _ _ _ h => h⟩, fun Z u => Iff.rfl⟩
  refine ⟨fun i m H => i ≤ items.length ∧ m = items.length - i ∧ ∃ Z' S acc us, Same Z1 Z' ∧ Rel K Z' S H ∧ S Da = none ∧ Z' Da = none ∧ H Da = some (.lst us) ∧ Reps K Z' acc us ∧ P i acc S, ?_, ?_⟩
  · obtain ⟨r2, n2⟩ := r1.new (o := .lst []) (u := .lst []) hD ⟨[], rfl, .nil⟩
    have r3 := r2.del Da
    rw [delS_upd n2] at r3
    exact ⟨items.length, Nat.zero_le _, rfl, Z1, S1, [], [], Same.refl _, r3, n2, r1.sub.free hD, upd_same, .nil, p0⟩
  · rintro i m H2 ⟨hi', rfl, Z2, S2, acc, us, s2, r2, nS, nZ, hDa, pa, p2⟩
    obtain ⟨o, ho⟩ := fixed us
    have r2' : Rel K Z2 (updS S2 Da o) H2 := by
      refine ⟨r2.sub, fun b w e => ?_⟩
      by_cases hb : b = Da
      · subst hb; rw [updS_same] at e; cases e; exact ⟨nZ, _, hDa, (ho _ _).mpr rfl⟩
      · rw [updS_ne hb] at e; exact r2.own b w e
    by_cases hlt : i < items.length
    · refine .inr ⟨wk.goes Z2 _ H2 i s2 r2' (pG i acc S2 Da o p2 nS) hlt, fun H' => ∃ Z' S acc us, Same Z1 Z' ∧ Rel K Z' S H' ∧ S Da = none ∧ Z' Da = none ∧ H' Da = some (.lst us) ∧ Reps K Z' acc us ∧ P (i + 1) acc S,
        fun H' ⟨Z', S, acc, us, z1, z2, z3, z4, z5, z6, z7⟩ => ⟨items.length - (i + 1), by omega, hlt, rfl, Z', S, acc, us, z1, z2, z3, z4, z5, z6, z7⟩, fun x H' y => ?_⟩
      obtain ⟨Z3, d, s3, r3', e3, q3⟩ := wk.yields Z2 _ H2 i x H' s2 r2' (pG i acc S2 Da o p2 nS) hlt y
      have s02 := (s0.trans s1).trans s2
      refine hg.run Z3 (updS S2 Da o) H' (wipeD env vs) (L2.wipe σ vs) d x _ _ (s02.trans s3) (((re.mono ((s1.trans s2).trans s3))).wipe vs) r3' q3 (turn i d acc S2 Da o e3 p2 nS) fun Z4 S4 H4 env4 σ4 s4 re4 r4 w4 h4 => ⟨?_, ?_⟩
      · rw [w4, wipe_sub vs σ fun _ h => h]
      · refine ht.run Z4 S4 H4 env4 σ4 _ _ ((s02.trans s3).trans s4) re4 r4 h4 fun Z5 S5 H5 b s5 r5 h5 => ?_
        have sT := ((s2.trans s3).trans s4).trans s5
        by_cases hb : b = true
        · rw [if_pos hb] at h5 ⊢
          refine he.run Z5 S5 H5 env4 σ4 _ _ (((s02.trans s3).trans s4).trans s5) (re4.mono s5) r5 h5 fun Z6 S6 H6 e v s6 r6 p6 h6 => ?_
          obtain ⟨hl, e6, h6⟩ := h6
          obtain ⟨n6, w6, h7, h8⟩ := r6.own Da o e6
          have e7 := (ho _ _).mp h8
          subst e7
          have sU := ((s3.trans s4).trans s5).trans s6
          refine ⟨us, h7, by rw [← pa.length]; exact hl, Z6, delS S6 Da, acc ++ [e], us ++ [v], s2.trans sU, ?_, delS_same, n6, upd_same, (pa.mono sU).append (.cons p6 .nil), h6⟩
          have r7 := (r6.write (o' := .lst (acc ++ [e])) (u := .lst (us ++ [v])) e6 ⟨_, rfl, (pa.mono sU).append (.cons p6 .nil)⟩).del Da
          have e8 : delS (updS S6 Da (.lst (acc ++ [e]))) Da = delS S6 Da := by
            funext b; unfold delS updS; split <;> rfl
          rw [e8] at r7
          exact r7
        · rw [if_neg hb] at h5 ⊢
          obtain ⟨e6, h6⟩ := h5
          obtain ⟨n6, w6, h7, h8⟩ := r5.own Da o e6
          have e7 := (ho _ _).mp h8
          subst e7
          exact ⟨Z5, delS S5 Da, acc, us, sT, r5.del Da, delS_same, n6, h7, pa.mono ((s3.trans s4).trans s5), h6⟩
    · have ei : i = items.length := by omega
      subst ei
      refine .inl ⟨wk.stops Z2 _ H2 s2 r2' (pG _ acc S2 Da o p2 nS), ?_⟩
      have r2' : Rel K Z2 (updS S2 Da (.lst acc)) H2 := by
        refine ⟨r2.sub, fun b w e => ?_⟩
        by_cases hb : b = Da
        · subst hb; rw [updS_same] at e; cases e; exact ⟨nZ, _, hDa, us, rfl, pa⟩
        · rw [updS_ne hb] at e; exact r2.own b w e
      obtain ⟨u, h1, ⟨xs, e, h2⟩, r3, s3⟩ := r2'.freeze updS_same
      subst e
      rw [delS_upd nS] at r3
      exact q _ _ _ _ _ ((s1.trans s2).trans s3) r3 (.lst upd_same (h2.mono s3)) (done acc S2 p2)⟩

/-! ### defs -/
/-- an exception: its class, its fields -/
abbrev DX := Addr → List (Str × D) → Sto → Prop
/-- what a def does with its arguments and the store: what it hands back, what it raises -/
abbrev DF := List D → Sto → DV → DX → Prop
/-- the fields of an exception, in its dict d -/
def XR (K : PySem.W.Frag) (Z : Hp) (fs : List (Str × D)) (d : Option Addr) : Prop := (d = none ∧ fs = []) ∨ ∃ dd gs, d = some dd ∧ Z dd = some (.xd gs) ∧ RepF K Z fs gs
def spD (K : PySem.W.Frag) (F : DF) : Sp := fun vs H Q E => ∃ (Z : Hp) (S : Sto) (ds : List D) (Q' : DV) (E' : DX), Rel K Z S H ∧ Reps K Z ds vs ∧ F ds S Q' E' ∧
  (∀ (Z' : Hp) (S' : Sto) (H' : Hp) (d : D) (v : V), Same Z Z' → Rel K Z' S' H' → Rep K Z' d v → Q' d S' → Q v H') ∧
  (∀ (Z' : Hp) (S' : Sto) (H' : Hp) (C : Addr) (fs : List (Str × D)) (d : Option Addr), Same Z Z' → Rel K Z' S' H' → XR K Z' fs d → E' C fs S' → E (.ref C) d H')
/-- what is wished of exceptions in a body: by the class, the fields, the names, the store -/
abbrev DW := Addr → List (Str × D) → DEnv → Sto → Prop
structure RW (K : PySem.W.Frag) (Z0 : Hp) (W : WX) (W' : DW) : Prop where
  run : ∀ (Z : Hp) (S : Sto) (H : Hp) (env : DEnv) (σ : L2.St) (C : Addr) (fs : List (Str × D)) (d : Option Addr), Same Z0 Z → RelE K Z env σ → Rel K Z S H → XR K Z fs d → W' C fs env S → W (.ref C) d σ H
def dCall (F : DF) (dvs : List D) (W' : DW) (t : DA) : DE := fun env S Q => t env S fun ds S1 => F (ds ++ dvs) S1 Q (fun C fs S' => W' C fs env S')
theorem le_call {F : DF} {W : WX} {W' : DW} {dvs : List V} {dds : List D} (hd : ∀ Z, Reps K Z dds dvs) (rw' : RW K Z0 W W') (h : LA K Z0 ar ar') : LE K Z0 (tCallSD (spD K F) dvs (WE W) ar) (dCall F dds W' ar') := ⟨fun Z S H env σ Q Q' s0 re rl hh q =>
  h.run Z S H env σ _ _ s0 re rl hh fun Z1 S1 H1 ds vs s1 r1 p1 h1 => ⟨Z1, S1, ds ++ dds, _, _, r1, p1.append (hd Z1), h1, fun Z2 S2 H2 d v s2 => q Z2 S2 H2 d v (s1.trans s2),
    fun Z2 S2 H2 C fs d s2 r2 x2 w2 => rw'.run Z2 S2 H2 env σ C fs d ((s0.trans s1).trans s2) (re.mono (s1.trans s2)) r2 x2 w2⟩⟩
/-- a def that is known: it may be called by its name -/
structure FnD (P : Program) (w : World) (K : PySem.W.Frag) (mg : Str → Option Value) (base : Heap) (k : Nat) (x : Str) (F : DF) (dds : List D) : Prop where
  ex : ∃ (f : Addr) (fd : FuncData) (ps : List Str) (dvs : List V) (ds : List Value), FnOk P w K mg base (L2.CX P w) k f fd ps (spD K F) ∧ mg x = some (.ref f) ∧ PySem.W.keepIn K (.ref f) = true ∧ Binds K fd ps ds ∧ Vals dvs ds ∧ ∀ Z, Reps K Z dds dvs
/-- the start of a body -/
def startD (N : List Str) (ds : List D) : DEnv := ds.map some ++ List.replicate (N.length - ds.length) none
end
end DL
end

section
set_option Elab.async false
set_option linter.all false
set_option autoImplicit false
set_option maxRecDepth 100000
set_option maxHeartbeats 2000000
/-! DL8: the judgements, over families of contexts (a body; a comprehension's block in it; a try's body in it), and their rules. -/
namespace DL
open PySem PySem.Spec PyProof.Rows L2

/-- where a text stands: what is wished of exceptions; inside an except suite the exception's address, class and dict -/
structure HCtx where
  W : WX
  a : Addr
  cls : Value
  d : Option Addr
/-- the same, as data -/
structure DCtx where
  w : DW
  ex : Option (Addr × Addr × List (Str × D))
structure RC (K : PySem.W.Frag) (Z : Hp) (h : HCtx) (c : DCtx) : Prop where
  w : RW K Z h.W c.w
  ex : ∀ (a C : Addr) (fs : List (Str × D)), c.ex = some (a, C, fs) → h.a = a ∧ h.cls = .ref C ∧ XR K Z fs h.d
/-- a family of contexts -/
structure Fm where
  ι : Type
  X : ι → Cx
  ok : ι → HCtx → Prop
  tk : ∀ i h, ok i h → Takes (X i) h.W
/-- contexts of one program -/
class Fam (F : Fm) (P : outParam Program) (w : outParam World) (K : outParam PySem.W.Frag) (mg : outParam (Str → Option Value)) (base : outParam Heap) : Prop where
  prog : ∀ i, (F.X i).prog = P
  w : ∀ i, (F.X i).w = w
  k : ∀ i, (F.X i).K = K
  mg : ∀ i, (F.X i).mg = mg
  base : ∀ i, (F.X i).base = base
section
variable (F : Fm) (K : PySem.W.Frag)
structure PD (e : Expr) (t' : DCtx → DE) : Prop where
  ex : ∃ t : HCtx → TE, (∀ i h, F.ok i h → PE (F.X i) e (t h)) ∧ ∀ Z0 h c, RC K Z0 h c → LE K Z0 (t h) (t' c)
structure PDT (e : Expr) (t' : DCtx → DT) : Prop where
  ex : ∃ t : HCtx → TT, (∀ i h, F.ok i h → PT (F.X i) e (t h)) ∧ ∀ Z0 h c, RC K Z0 h c → LT K Z0 (t h) (t' c)
structure PDW (e : Expr) (t' : DCtx → DT) : Prop where
  ex : ∃ t : HCtx → TT, (∀ i h, F.ok i h → PW (F.X i) e (t h)) ∧ ∀ Z0 h c, RC K Z0 h c → LT K Z0 (t h) (t' c)
structure PDTs (e : List Expr) (t' : DCtx → DT) : Prop where
  ex : ∃ t : HCtx → TT, (∀ i h, F.ok i h → PTs (F.X i) e (t h)) ∧ ∀ Z0 h c, RC K Z0 h c → LT K Z0 (t h) (t' c)
structure PDA (e : List Expr) (t' : DCtx → DA) : Prop where
  ex : ∃ t : HCtx → TA, (∀ i h, F.ok i h → PA (F.X i) e (t h)) ∧ ∀ Z0 h c, RC K Z0 h c → LA K Z0 (t h) (t' c)
structure PDS (e : Stmt) (t' : DCtx → DS) : Prop where
  ex : ∃ t : HCtx → TS, (∀ i h, F.ok i h → PS (F.X i) e (t h)) ∧ ∀ Z0 h c, RC K Z0 h c → LS K Z0 (t h) (t' c)
structure PDSs (e : List Stmt) (t' : DCtx → DS) : Prop where
  ex : ∃ t : HCtx → TS, (∀ i h, F.ok i h → PSs (F.X i) e (t h)) ∧ ∀ Z0 h c, RC K Z0 h c → LS K Z0 (t h) (t' c)
structure PDG (ws : List Nat) (e : Expr) (t' : DCtx → DG) : Prop where
  ex : ∃ t : HCtx → TG, (∀ i h, F.ok i h → PG (F.X i) e (t h)) ∧ ∀ Z0 h c, RC K Z0 h c → LG K Z0 ws (t h) (t' c)
structure PDGs (ws : List Nat) (e : List Expr) (t' : DCtx → DGs) : Prop where
  ex : ∃ t : HCtx → TGs, (∀ i h, F.ok i h → PGs (F.X i) e (t h)) ∧ ∀ Z0 h c, RC K Z0 h c → LGs K Z0 ws (t h) (t' c)
structure PDO (e : Option Expr) (t' : DCtx → DO) : Prop where
  ex : ∃ t : HCtx → TO, (∀ i h, F.ok i h → PO (F.X i) e (t h)) ∧ ∀ Z0 h c, RC K Z0 h c → LO K Z0 (t h) (t' c)
structure PDI (tg iter : Expr) (t' : DCtx → DI) : Prop where
  ex : ∃ t : HCtx → TI, (∀ i h, F.ok i h → PI (F.X i) tg iter (t h)) ∧ ∀ Z0 h c, RC K Z0 h c → LI K Z0 (t h) (t' c)
end
/-- a product of ints, one below 2 ^ 64 -/
def CM (i j : Int) : Prop := (-18446744073709551616 < i ∧ i < 18446744073709551616) ∨ (-18446744073709551616 < j ∧ j < 18446744073709551616)
theorem CM.ok {i j : Int} (h : CM i j) : CMul i j := by
  rcases h with h | h
  · exact .inl ⟨by omega, by omega⟩
  · exact .inr ⟨by omega, by omega⟩
theorem rI_imp {C C' : Int → Int → Prop} {g : Int → Int → D} (h : ∀ i j, C' i j → C i j) : ∀ x y S Q, rI' C' g x y S Q → rI' C g x y S Q := fun x y S Q q => by
  unfold rI' at q ⊢
  split at q
  · exact ⟨h _ _ q.1, q.2⟩
  · exact q.elim
/-- a divisor above 0, below 2 ^ 64 -/
def CD (_ j : Int) : Prop := 0 < j ∧ j < 18446744073709551616
theorem CD.ok {i j : Int} (h : CD i j) : CDivW i j := wide_div (b := 64) h.1 (by have h1 := h.1; have h2 := h.2; omega) (by decide) (by decide)
/-- where nothing may be raised -/
def W0 : DW := fun _ _ _ _ => False
section
variable {F : Fm} {K : PySem.W.Frag} {P : Program} {w : World} {mg : Str → Option Value} {base : Heap} [fam : Fam F P w K mg base]
variable {a b c e : Expr} {es : List Expr} {ta tb tc te : DCtx → DE} {tt uu : DCtx → DT} {t : DCtx → DA} {s : Stmt} {ss : List Stmt} {ds du : DCtx → DS} {pos p p1 p2 : Pos} {x : Str} {ws : List Nat}
include fam

/-! ### expressions -/
theorem pd_v (i : Nat) (hN : ∀ k, (F.X k).N[i]? = some x := by intro _; rfl) (hv : ∀ k, Vis (F.X k).env.scope x := by intro _; first | exact Or.inl rfl | exact Or.inr (Or.inl rfl) | exact Or.inr (Or.inr rfl))
    (hd : (x == ("__debug__" : Str)) = false := by decide) (hcd : (x == ("__classdict__" : Str)) = false := by decide) : PD F K (.Name x pos) (fun c => dVar i) := ⟨fun _ => _, fun k _ _ => pe_var (hN k) (hv k) hd hcd, fun _ _ _ _ => le_var i⟩
theorem pd_int {i : Int} {j : Nat} : PD F K (.Constant (.int i) j pos) (fun c => dC (.int i)) := ⟨fun _ => _, fun _ _ _ => pe_int, fun _ _ _ _ => le_int i⟩
theorem pd_bl {i : Bool} {j : Nat} : PD F K (.Constant (.bool i) j pos) (fun c => dC (.bl i)) := ⟨fun _ => _, fun _ _ _ => pe_bl, fun _ _ _ _ => le_bl i⟩
theorem pd_str {i : Str} {j : Nat} : PD F K (.Constant (.str i) j pos) (fun c => dC (.str i)) := ⟨fun _ => _, fun _ _ _ => pe_str, fun _ _ _ _ => le_str i⟩
theorem pd_non {j : Nat} : PD F K (.Constant .none j pos) (fun c => dC .non) := ⟨fun _ => _, fun _ _ _ => pe_non, fun _ _ _ _ => le_non⟩
/-- a class, a def of the module as a value -/
theorem pd_glob {A : Addr} (hm : mg x = some (.ref A)) (hg : ∀ k, Gl (F.X k) x := by intro _; rfl) (hd : (x == ("__debug__" : Str)) = false := by decide) : PD F K (.Name x pos) (fun c => dC (.raw A)) :=
  ⟨fun _ => _, fun k _ _ => pe_glob (v := .ref A) (hg k) (by rw [fam.mg k]; exact hm) rfl hd, fun _ _ _ _ => le_raw A⟩
/-- a built-in class as a value -/
theorem pd_ty (n : Ty) (hm : mg x = none) (hv : bootBuiltins x = some (.type n.name)) (hg : ∀ k, Gl (F.X k) x := by intro _; rfl) (hn : x ≠ "__name__" := by decide) (hd : (x == ("__debug__" : Str)) = false := by decide) :
    PD F K (.Name x pos) (fun c => dC (.ty n)) := ⟨fun _ => _, fun k _ _ => pe_bltn (v := .ty n.name) (hg k) (by rw [fam.mg k]; exact hm) hv rfl hn hd, fun _ _ _ _ => le_ty n⟩
theorem pd_op {op : Operator} {r : R2} {r' : R2'} (ho : ∀ k, OpR (F.X k) (binaryOp op) r) (hl : ∀ Z0, L2R K Z0 r r') (ha : PD F K a ta) (hb : PD F K b tb) : PD F K (.BinOp a op b pos) (fun c => dOp r' (ta c) (tb c)) := by
  obtain ⟨t1, h1, l1⟩ := ha.ex
  obtain ⟨t2, h2, l2⟩ := hb.ex
  exact ⟨_, fun k h q => pe_op (ho k) (h1 k h q) (h2 k h q), fun Z h c r => le_op (hl Z) (l1 Z h c r) (l2 Z h c r)⟩
theorem opK {f : Value → Value → Sem Value} {r : PySem.W.Frag → R2} (h : ∀ k, OpR (F.X k) f (r (F.X k).K)) : ∀ k, OpR (F.X k) f (r K) := fun k => by
  have := h k
  rw [fam.k k] at this
  exact this
theorem pd_add (ha : PD F K a ta) (hb : PD F K b tb) : PD F K (.BinOp a .Add b pos) (fun c => dOp rAdd' (ta c) (tb c)) := pd_op (opK (r := rAddAll) fun _ => op_addAll) (fun _ => lr_add) ha hb
theorem pd_sub (ha : PD F K a ta) (hb : PD F K b tb) : PD F K (.BinOp a .Sub b pos) (fun c => dOp (rI0' fun i j => .int (i - j)) (ta c) (tb c)) := pd_op (fun _ => op_sub) (fun _ => lr_I0 fun _ _ _ => .int _) ha hb
theorem pd_mul (ha : PD F K a ta) (hb : PD F K b tb) : PD F K (.BinOp a .Mult b pos) (fun c => dOp (rI' CM fun i j => .int (i * j)) (ta c) (tb c)) := pd_op (fun _ => op_mul) (fun _ => (lr_I fun _ _ _ => .int _).imp (rI_imp fun _ _ => CM.ok)) ha hb
theorem pd_div (ha : PD F K a ta) (hb : PD F K b tb) : PD F K (.BinOp a .FloorDiv b pos) (fun c => dOp (rI' CD fun i j => .int (i / j)) (ta c) (tb c)) := pd_op (fun _ => op_fdivW) (fun _ => (lr_I fun _ _ _ => .int _).imp (rI_imp fun _ _ => CD.ok)) ha hb
theorem pd_mod (ha : PD F K a ta) (hb : PD F K b tb) : PD F K (.BinOp a .Mod b pos) (fun c => dOp (rI' (fun _ j => 0 < j) fun i j => .int (i % j)) (ta c) (tb c)) := pd_op (fun _ => op_mod) (fun _ => lr_I fun _ _ _ => .int _) ha hb
theorem pd_pow (ha : PD F K a ta) (hb : PD F K b tb) : PD F K (.BinOp a .Pow b pos) (fun c => dOp (rI' CPow fun i j => .int (i ^ j.toNat)) (ta c) (tb c)) := pd_op (fun _ => op_pow) (fun _ => lr_I fun _ _ _ => .int _) ha hb
theorem pd_neg (ha : PD F K a ta) : PD F K (.UnaryOp .USub a pos) (fun c => dUnI (fun i => -i) (ta c)) := by
  obtain ⟨t1, h1, l1⟩ := ha.ex
  exact ⟨_, fun k h q => pe_un un_neg (h1 k h q), fun Z h c r => le_unI (l1 Z h c r)⟩
/-! ### comparisons -/
theorem pd_cmp {op : CmpOp} {r : R2} {r' : R2'} (ho : ∀ k, OpR (F.X k) (compareOp op) r) (hl : ∀ Z0, L2R K Z0 r r') (ha : PD F K a ta) (hb : PD F K b tb) (hm : behindInMarks op b = false := by first | exact nomark _ | rfl) :
    PD F K (.Compare a [op] [b] pos) (fun c => dOp r' (ta c) (tb c)) := by
  obtain ⟨t1, h1, l1⟩ := ha.ex
  obtain ⟨t2, h2, l2⟩ := hb.ex
  exact ⟨_, fun k h q => pe_cmpR (ho k) (h1 k h q) (h2 k h q) hm, fun Z h c r => le_op (hl Z) (l1 Z h c r) (l2 Z h c r)⟩
theorem pdt_cmp {op : CmpOp} {r : R2} {r' : R2'} (ho : ∀ k, OpR (F.X k) (compareOp op) r) (hl : ∀ Z0, L2R K Z0 r r') (ha : PD F K a ta) (hb : PD F K b tb) (hm : behindInMarks op b = false := by first | exact nomark _ | rfl) :
    PDT F K (.Compare a [op] [b] pos) (fun c => dB (dOp r' (ta c) (tb c))) := by
  obtain ⟨t1, h1, l1⟩ := ha.ex
  obtain ⟨t2, h2, l2⟩ := hb.ex
  exact ⟨_, fun k h q => pt_cmpR (ho k) (h1 k h q) (h2 k h q) hm, fun Z h c r => lt_Test (le_op (hl Z) (l1 Z h c r) (l2 Z h c r))⟩
/-- an operator's rule and its data -/
structure CmpD (F : Fm) (K : PySem.W.Frag) (op : CmpOp) (r' : R2') : Prop where
  ex : ∃ r, (∀ k, OpR (F.X k) (compareOp op) r) ∧ ∀ Z0, L2R K Z0 r r'
theorem c_lt : CmpD F K .Lt (rI0' fun i j => .bl (decide (i < j))) := ⟨_, fun _ => op_lt, fun _ => lr_I0 fun _ _ _ => .bl _⟩
theorem c_le : CmpD F K .LtE (rI0' fun i j => .bl (decide (i ≤ j))) := ⟨_, fun _ => op_le, fun _ => lr_I0 fun _ _ _ => .bl _⟩
theorem c_gt : CmpD F K .Gt (rI0' fun i j => .bl (decide (j < i))) := ⟨_, fun _ => op_gt, fun _ => lr_I0 fun _ _ _ => .bl _⟩
theorem c_ge : CmpD F K .GtE (rI0' fun i j => .bl (decide (j ≤ i))) := ⟨_, fun _ => op_ge, fun _ => lr_I0 fun _ _ _ => .bl _⟩
theorem c_eq {j : Nat} (hr : ∀ k, Room j (F.X k).A) : CmpD F K .Eq rEq' := ⟨_, opK (r := rEqD) fun k => op_eqD (hr k).units, fun _ => lr_eq⟩
theorem c_ne {j : Nat} (hr : ∀ k, Room j (F.X k).A) : CmpD F K .NotEq rNe' := ⟨_, opK (r := rNeD) fun k => op_neD (hr k).units, fun _ => lr_ne⟩
theorem c_is : CmpD F K .Is rIsN' := ⟨_, fun _ => op_isN, fun _ => lr_isN⟩
theorem c_isn : CmpD F K .IsNot rNotN' := ⟨_, fun _ => op_notN, fun _ => lr_notN⟩
theorem c_in : CmpD F K .In (rIn' false) := ⟨_, opK (r := fun K => rIn K false) fun _ => op_in_seq, fun _ => lr_in⟩
theorem c_nin : CmpD F K .NotIn (rIn' true) := ⟨_, opK (r := fun K => rIn K true) fun _ => op_notIn_seq, fun _ => lr_in⟩
theorem pd_c {op : CmpOp} {r' : R2'} (h : CmpD F K op r') (ha : PD F K a ta) (hb : PD F K b tb) (hm : behindInMarks op b = false := by first | exact nomark _ | rfl) : PD F K (.Compare a [op] [b] pos) (fun c => dOp r' (ta c) (tb c)) := by
  obtain ⟨r, h1, h2⟩ := h.ex
  exact pd_cmp h1 h2 ha hb hm
theorem pdt_c {op : CmpOp} {r' : R2'} (h : CmpD F K op r') (ha : PD F K a ta) (hb : PD F K b tb) (hm : behindInMarks op b = false := by first | exact nomark _ | rfl) : PDT F K (.Compare a [op] [b] pos) (fun c => dB (dOp r' (ta c) (tb c))) := by
  obtain ⟨r, h1, h2⟩ := h.ex
  exact pdt_cmp h1 h2 ha hb hm
theorem pd_chain {op op' : CmpOp} {r r' : R2'} (h : CmpD F K op r) (h' : CmpD F K op' r') (ha : PD F K a ta) (hb : PD F K b tb) (hc : PD F K c tc) (hm : lastMarks [op, op'] [b, c] = false := by with_unfolding_all rfl) :
    PD F K (.Compare a [op, op'] [b, c] pos) (fun c => dChain r r' (ta c) (tb c) (tc c)) := by
  obtain ⟨q1, o1, k1⟩ := h.ex
  obtain ⟨q2, o2, k2⟩ := h'.ex
  obtain ⟨t1, h1, l1⟩ := ha.ex
  obtain ⟨t2, h2, l2⟩ := hb.ex
  obtain ⟨t3, h3, l3⟩ := hc.ex
  exact ⟨_, fun k h q => pe_chain (o1 k) (o2 k) (h1 k h q) (h2 k h q) (h3 k h q) hm, fun Z h c r => le_chain (k1 Z) (k2 Z) (l1 Z h c r) (l2 Z h c r) (l3 Z h c r)⟩
theorem pdt_chain {op op' : CmpOp} {r r' : R2'} (h : CmpD F K op r) (h' : CmpD F K op' r') (ha : PD F K a ta) (hb : PD F K b tb) (hc : PD F K c tc) (hm : lastMarks [op, op'] [b, c] = false := by with_unfolding_all rfl) :
    PDT F K (.Compare a [op, op'] [b, c] pos) (fun c => dB (dChain r r' (ta c) (tb c) (tc c))) := by
  obtain ⟨q1, o1, k1⟩ := h.ex
  obtain ⟨q2, o2, k2⟩ := h'.ex
  obtain ⟨t1, h1, l1⟩ := ha.ex
  obtain ⟨t2, h2, l2⟩ := hb.ex
  obtain ⟨t3, h3, l3⟩ := hc.ex
  exact ⟨_, fun k h q => pt_chain (o1 k) (o2 k) (h1 k h q) (h2 k h q) (h3 k h q) hm, fun Z h c r => lt_Test (le_chain (k1 Z) (k2 Z) (l1 Z h c r) (l2 Z h c r) (l3 Z h c r))⟩
/-! ### tests -/
theorem pdt_tru (ha : PD F K a ta) (he : ∀ k whole, isTrue a (F.X k).env whole = (do let v ← whole; standAt a.pos; holding [v] (truthy v)) := by intro _ _; rfl) : PDT F K a (fun c => dTru (ta c)) := by
  obtain ⟨t1, h1, l1⟩ := ha.ex
  exact ⟨_, fun k h q => by have hh := pt_truth (h1 k h q) (he k); rw [fam.k k] at hh; exact hh, fun Z h c r => lt_Tru (l1 Z h c r)⟩
theorem pdt_not (ha : PDT F K a tt) : PDT F K (.UnaryOp .Not a pos) (fun c => dNot (tt c)) := by
  obtain ⟨t1, h1, l1⟩ := ha.ex
  exact ⟨_, fun k h q => pt_not (h1 k h q), fun Z h c r => lt_Not (l1 Z h c r)⟩
theorem pdw_and1 (ha : PDT F K a tt) : PDW F K (.BoolOp .And [a] pos) tt := by
  obtain ⟨t1, h1, l1⟩ := ha.ex
  exact ⟨_, fun k h q => pw_and1 (h1 k h q), fun Z h c r => (l1 Z h c r)⟩
theorem pdw_or1 (ha : PDT F K a tt) : PDW F K (.BoolOp .Or [a] pos) tt := by
  obtain ⟨t1, h1, l1⟩ := ha.ex
  exact ⟨_, fun k h q => pw_or1 (h1 k h q), fun Z h c r => (l1 Z h c r)⟩
theorem pdw_and (ha : PDT F K a tt) (hb : PDW F K (.BoolOp .And (b :: es) pos) uu) : PDW F K (.BoolOp .And (a :: b :: es) pos) (fun c => dAnd (tt c) (uu c)) := by
  obtain ⟨t1, h1, l1⟩ := ha.ex
  obtain ⟨t2, h2, l2⟩ := hb.ex
  exact ⟨_, fun k h q => pw_and (h1 k h q) (h2 k h q), fun Z h c r => lt_And (l1 Z h c r) (l2 Z h c r)⟩
theorem pdw_or (ha : PDT F K a tt) (hb : PDW F K (.BoolOp .Or (b :: es) pos) uu) : PDW F K (.BoolOp .Or (a :: b :: es) pos) (fun c => dOr (tt c) (uu c)) := by
  obtain ⟨t1, h1, l1⟩ := ha.ex
  obtain ⟨t2, h2, l2⟩ := hb.ex
  exact ⟨_, fun k h q => pw_or (h1 k h q) (h2 k h q), fun Z h c r => lt_Or (l1 Z h c r) (l2 Z h c r)⟩
theorem PDW.pdt (ha : PDW F K a tt) : PDT F K a tt := by
  obtain ⟨t1, h1, l1⟩ := ha.ex
  exact ⟨_, fun k h q => (h1 k h q).pt, fun Z h c r => (l1 Z h c r)⟩
theorem pd_one {op : BoolOp} (ha : PD F K a ta) : PD F K (.BoolOp op [a] pos) ta := by
  obtain ⟨t1, h1, l1⟩ := ha.ex
  exact ⟨_, fun k h q => pe_one (h1 k h q), fun Z h c r => (l1 Z h c r)⟩
theorem pd_and (ha : PD F K a ta) (hb : PD F K (.BoolOp .And (b :: es) pos) tb) : PD F K (.BoolOp .And (a :: b :: es) pos) (fun c => dAndT (ta c) (tb c)) := by
  obtain ⟨t1, h1, l1⟩ := ha.ex
  obtain ⟨t2, h2, l2⟩ := hb.ex
  exact ⟨_, fun k h q => by have hh := pe_andT (h1 k h q) (h2 k h q); rw [fam.k k] at hh; exact hh, fun Z h c r => le_AndT (l1 Z h c r) (l2 Z h c r)⟩
theorem pd_or (ha : PD F K a ta) (hb : PD F K (.BoolOp .Or (b :: es) pos) tb) : PD F K (.BoolOp .Or (a :: b :: es) pos) (fun c => dOrT (ta c) (tb c)) := by
  obtain ⟨t1, h1, l1⟩ := ha.ex
  obtain ⟨t2, h2, l2⟩ := hb.ex
  exact ⟨_, fun k h q => by have hh := pe_orT (h1 k h q) (h2 k h q); rw [fam.k k] at hh; exact hh, fun Z h c r => le_OrT (l1 Z h c r) (l2 Z h c r)⟩
theorem pd_not (ha : PD F K a ta) : PD F K (.UnaryOp .Not a pos) (fun c => dNotT (ta c)) := by
  obtain ⟨t1, h1, l1⟩ := ha.ex
  exact ⟨_, fun k h q => by have hh := pe_notT (h1 k h q) (pos := pos); rw [fam.k k] at hh; exact hh, fun Z h c r => le_NotT (l1 Z h c r)⟩
theorem pd_if (h : PDT F K c tt) (ha : PD F K a ta) (hb : PD F K b tb) : PD F K (.IfExp c a b pos) (fun c => dIf (tt c) (ta c) (tb c)) := by
  obtain ⟨t0, h0, l0⟩ := h.ex
  obtain ⟨t1, h1, l1⟩ := ha.ex
  obtain ⟨t2, h2, l2⟩ := hb.ex
  exact ⟨_, fun k h q => pe_ifExp (h0 k h q) (h1 k h q) (h2 k h q), fun Z h c r => le_If (l0 Z h c r) (l1 Z h c r) (l2 Z h c r)⟩
/-! ### arguments, displays, calls -/
theorem pa_n : PDA F K [] (fun c => dNil) := ⟨fun _ => _, fun _ _ _ => pa_nil, fun _ _ _ _ => la_nil⟩
theorem pa_c (ha : PD F K e te) (hr : PDA F K es t) (hs : ∀ k, starEach (e :: es) (F.X k).env = (false, eval e (F.X k).env) :: starEach es (F.X k).env := by intro _; rfl) : PDA F K (e :: es) (fun c => dCons (te c) (t c)) := by
  obtain ⟨t1, h1, l1⟩ := ha.ex
  obtain ⟨t2, h2, l2⟩ := hr.ex
  exact ⟨_, fun k h q => pa_cons (h1 k h q) (h2 k h q) (hs k), fun Z h c r => la_cons (l1 Z h c r) (l2 Z h c r)⟩
theorem pd_tup {n : Nat} (h : PDA F K es t) : PD F K (.Tuple es n pos) (fun c => dTup (t c)) := by
  obtain ⟨t1, h1, l1⟩ := h.ex
  exact ⟨_, fun k h q => pe_tup (h1 k h q), fun Z h c r => le_Tup (l1 Z h c r)⟩
theorem pd_lst (h : PDA F K es t) : PD F K (.List es pos) (fun c => dLst (t c)) := by
  obtain ⟨t1, h1, l1⟩ := h.ex
  exact ⟨_, fun k h q => pe_lst (h1 k h q), fun Z h c r => le_Lst (l1 Z h c r)⟩
theorem pd_lstM (h : PDA F K es t) : PD F K (.List es pos) (fun c => dLstM (t c)) := by
  obtain ⟨t1, h1, l1⟩ := h.ex
  exact ⟨_, fun k h q => pe_lst (h1 k h q), fun Z h c r => le_LstM (l1 Z h c r)⟩
theorem pd_callB {id : String} {r : List V → Hp → VK → Prop} {r' : RL'} (hc : ∀ k, CallR (F.X k) (.builtin id) r) (hl : ∀ Z0, LR K Z0 r r') (hm : mg x = none) (hv : bootBuiltins x = some (.builtin id)) (ha : PDA F K (e :: es) t) (hg : ∀ k, Gl (F.X k) x := by intro _; rfl)
    (hn : x ≠ "__name__" := by decide) (hdb : (x == ("__debug__" : Str)) = false := by decide) (he : ∀ k, starEach (e :: es) (F.X k).env = (false, eval e (F.X k).env) :: starEach es (F.X k).env := by intro _; rfl) (hpl : ∀ k, (backTo pos (starEach es (F.X k).env)).any (·.1) = false := by intro _; rfl) :
    PD F K (.Call (.Name x p) (e :: es) [] pos) (fun c => dCB r' (t c)) := by
  obtain ⟨t1, h1, l1⟩ := ha.ex
  exact ⟨_, fun k h q => pe_callB (hc k) (hg k) (by rw [fam.mg k]; exact hm) hv (h1 k h q) hn hdb (he k) (hpl k), fun Z h c r => le_CB (hl Z) (l1 Z h c r)⟩
theorem pd_callTy {T : String} {r : List V → Hp → VK → Prop} {r' : RL'} (hc : ∀ k, CallR (F.X k) (.type T) r) (hl : ∀ Z0, LR K Z0 r r') (hm : mg x = none) (hv : bootBuiltins x = some (.type T)) (ha : PDA F K (e :: es) t) (hg : ∀ k, Gl (F.X k) x := by intro _; rfl)
    (hn : x ≠ "__name__" := by decide) (hdb : (x == ("__debug__" : Str)) = false := by decide) (he : ∀ k, starEach (e :: es) (F.X k).env = (false, eval e (F.X k).env) :: starEach es (F.X k).env := by intro _; rfl) (hpl : ∀ k, (backTo pos (starEach es (F.X k).env)).any (·.1) = false := by intro _; rfl) :
    PD F K (.Call (.Name x p) (e :: es) [] pos) (fun c => dCB r' (t c)) := by
  obtain ⟨t1, h1, l1⟩ := ha.ex
  exact ⟨_, fun k h q => pe_callTy (hc k) (hg k) (by rw [fam.mg k]; exact hm) hv (h1 k h q) hn hdb (he k) (hpl k), fun Z h c r => le_CB (hl Z) (l1 Z h c r)⟩
theorem callK {f : Value} {r : PySem.W.Frag → List V → Hp → VK → Prop} (h : ∀ k, CallR (F.X k) f (r (F.X k).K)) : ∀ k, CallR (F.X k) f (r K) := fun k => by
  have := h k
  rw [fam.k k] at this
  exact this
/-- a def of the module -/
theorem pd_call {k : Nat} {G : DF} {dds : List D} (c : FnD P w K mg base k x G dds) {j : Nat} (hr : ∀ k, Room j (F.X k).A) (hk : k ≤ j) (ha : PDA F K (e :: es) t) (hg : ∀ k, Gl (F.X k) x := by intro _; rfl)
    (hdb : (x == ("__debug__" : Str)) = false := by decide) (he : ∀ k, starEach (e :: es) (F.X k).env = (false, eval e (F.X k).env) :: starEach es (F.X k).env := by intro _; rfl) (hpl : ∀ k, (backTo pos (starEach es (F.X k).env)).any (·.1) = false := by intro _; rfl) :
    PD F K (.Call (.Name x p) (e :: es) [] pos) (fun c => dCall G dds c.w (t c)) := by
  obtain ⟨f, fd, ps, dvs, ds, h1, h2, h3, h4, h5, h6⟩ := c.ex
  obtain ⟨ta, a1, a2⟩ := ha.ex
  refine ⟨_, fun i h q => ?_, fun Z h c r => le_call h6 r.w (a2 Z h c r)⟩
  have e1 := fam.prog i
  have e2 := fam.w i
  have e3 := fam.k i
  have e4 := fam.mg i
  have e5 := fam.base i
  exact pe_callSD (X := F.X i) (CX := L2.CX (F.X i).prog (F.X i).w) (by rw [e1, e2, e3, e4, e5]; exact h1) ((hr i).mono hk) (hg i) (by rw [e4]; exact h2) (by rw [e3]; exact h3) (by rw [e3]; exact h4) h5 (fun σ => passAt (F.tk i h q) σ) (a1 i h q) hdb (he i) (hpl i)
/-! ### methods, subscripts, slices, fields -/
theorem pd_bm {o : Expr} {to : DCtx → DE} {name : Str} {id : String} {r : V → List V → Hp → VK → Prop} {r' : RM'} {apos cpos : Pos} (slot : Slot "list" name id) (hty : typeOf (.builtin id) = pure (.type "method_descriptor")) (hm : ∀ k, MtR (F.X k) id r) (hl : ∀ Z0, LM K Z0 r r')
    (ho : PD F K o to) (ha : PDA F K (e :: es) t) (hbase : ∀ k, attributeBase o name (F.X k).env (eval o (F.X k).env) = eval o (F.X k).env := by intro _; rfl)
    (hfew : ∀ k, ((backTo cpos (starEach (e :: es) (F.X k).env)).all (fun x => !x.1) && (backToKw cpos (keywordEach [] (F.X k).env)).all (fun x => x.1.isSome)
      && decide ((e :: es).length + ([] : List Keyword).length + (if ([] : List Keyword).isEmpty then 0 else 1) < 30)) = true := by intro _; rfl)
    (hline : (apos.endLine == cpos.line) = true := by rfl) (hs : ∀ k, starEach (e :: es) (F.X k).env = (false, eval e (F.X k).env) :: starEach es (F.X k).env := by intro _; rfl) (hplain : ∀ k, (backTo cpos (starEach es (F.X k).env)).any (·.1) = false := by intro _; rfl) :
    PD F K (.Call (.Attribute o name apos) (e :: es) [] cpos) (fun c => dBM r' (to c) (t c)) := by
  obtain ⟨t1, h1, l1⟩ := ho.ex
  obtain ⟨t2, h2, l2⟩ := ha.ex
  exact ⟨_, fun k h q => by have hh := pe_bm PySem.F.plainAttrs_list slot hty (hm k) (h1 k h q) (h2 k h q) (hbase k) (hfew k) hline (hs k) (hplain k); rw [fam.k k] at hh; exact hh, fun Z h c r => le_BM (hl Z) (l1 Z h c r) (l2 Z h c r)⟩
theorem pd_bm0 {o : Expr} {to : DCtx → DE} {name : Str} {id : String} {r : V → List V → Hp → VK → Prop} {r' : RM'} {apos cpos : Pos} (slot : Slot "list" name id) (hty : typeOf (.builtin id) = pure (.type "method_descriptor")) (hm : ∀ k, MtR (F.X k) id r) (hl : ∀ Z0, LM K Z0 r r')
    (ho : PD F K o to) (hbase : ∀ k, attributeBase o name (F.X k).env (eval o (F.X k).env) = eval o (F.X k).env := by intro _; rfl) (hline : (apos.endLine == cpos.line) = true := by rfl) : PD F K (.Call (.Attribute o name apos) [] [] cpos) (fun c => dBM r' (to c) dNil) := by
  obtain ⟨t1, h1, l1⟩ := ho.ex
  exact ⟨_, fun k h q => by have hh := pe_bm0 PySem.F.plainAttrs_list slot hty (hm k) (h1 k h q) (hbase k) hline; rw [fam.k k] at hh; exact hh, fun Z h c r => le_BM0 (hl Z) (l1 Z h c r)⟩
theorem pd_ix (ha : PD F K a ta) (hb : PD F K b tb) (hs : PlainIx b := by intro _ _; rfl) : PD F K (.Subscript a b pos) (fun c => dOp rIx' (ta c) (tb c)) := by
  obtain ⟨t1, h1, l1⟩ := ha.ex
  obtain ⟨t2, h2, l2⟩ := hb.ex
  exact ⟨_, fun k h q => by have hh := pe_ix (X := F.X k) ix_seq (h1 k h q) (h2 k h q) hs (pos := pos); rw [fam.k k] at hh; exact hh, fun Z h c r => le_op lr_ix (l1 Z h c r) (l2 Z h c r)⟩
theorem po_n : PDO F K none (fun c => dNoPart) := ⟨fun _ => _, fun _ _ _ => po_none, fun _ _ _ _ => lo_none⟩
theorem po_s (h : PD F K a ta) : PDO F K (some a) (fun c => dPart (ta c)) := by
  obtain ⟨t1, h1, l1⟩ := h.ex
  exact ⟨_, fun k h q => po_some (h1 k h q), fun Z h c r => lo_some (l1 Z h c r)⟩
theorem pd_slice {lo hi : Option Expr} {tl th : DCtx → DO} (he : PD F K e te) (hl : PDO F K lo tl) (hu : PDO F K hi th) : PD F K (.Subscript e (.Slice lo hi none p2) pos) (fun c => dSl (te c) (tl c) (th c)) := by
  obtain ⟨t1, h1, l1⟩ := he.ex
  obtain ⟨t2, h2, l2⟩ := hl.ex
  obtain ⟨t3, h3, l3⟩ := hu.ex
  exact ⟨_, fun k h q => by have hh := pe_slice (X := F.X k) sl_all (h1 k h q) (h2 k h q) (h3 k h q) (p2 := p2) (pos := pos); rw [fam.k k] at hh; exact hh, fun Z h c r => le_Sl (l1 Z h c r) (l2 Z h c r) (l3 Z h c r)⟩
theorem pd_fld {C : Addr} {f : Str} (hC : Cls K C) (hn : NoAttr K C f) (h : PD F K e te) (hb : ∀ k, attributeBase e f (F.X k).env (eval e (F.X k).env) = eval e (F.X k).env := by intro _; rfl) : PD F K (.Attribute e f pos) (fun c => dFld C f (te c)) := by
  obtain ⟨t1, h1, l1⟩ := h.ex
  exact ⟨_, fun k h q => by have hh := pe_fld (h1 k h q) (hb k) (pos := pos); rw [fam.k k] at hh; exact hh, fun Z h c r => le_Fld hC hn (l1 Z h c r)⟩
theorem pd_gh (h : PD F K e te) : PD F K e (fun c => dGhE (te c)) := by
  obtain ⟨t1, h1, l1⟩ := h.ex
  exact ⟨_, h1, fun Z h c r => le_gh (l1 Z h c r)⟩
/-! ### targets -/
theorem pg_n {i : Nat} (hN : ∀ k, (F.X k).N.Nodup) (hw : i ∈ ws := by decide) (hi : ∀ k, (F.X k).N[i]? = some x := by intro _; rfl) (hx : ∀ k, Loc (F.X k).env.scope x := by intro _; first | exact .inl rfl | exact .inr rfl)
    (hf : ∀ k, (F.X k).fn x = true ∨ (F.X k).env.scope.names.lookup x = some .local := by intro _; first | exact .inl rfl | exact .inr rfl) : PDG F K ws (.Name x pos) (fun c => dgName i) := ⟨fun _ => _, fun k _ _ => pg_name (hN k) (hi k) (hx k) (hf k), fun _ _ _ _ => lg_name hw⟩
theorem pgs_n : PDGs F K ws [] (fun _ => dgNil) := ⟨fun _ => _, fun _ _ _ => pgs_nil, fun _ _ _ _ => lgs_nil⟩
theorem pgs_c {g : DCtx → DG} {gs : DCtx → DGs} (h1 : PDG F K ws e g) (h2 : PDGs F K ws es gs)
    (hs : ∀ k, (assignEach (e :: es) (F.X k).env).map (·.2) = assign e (F.X k).env :: (assignEach es (F.X k).env).map (·.2) := by intro _; rfl) : PDGs F K ws (e :: es) (fun c => dgCons (g c) (gs c)) := by
  obtain ⟨t1, a1, l1⟩ := h1.ex
  obtain ⟨t2, a2, l2⟩ := h2.ex
  exact ⟨_, fun k h q => pgs_cons (a1 k h q) (a2 k h q) (hs k), fun Z h c r => lgs_cons (l1 Z h c r) (l2 Z h c r)⟩
theorem pg_t {n m : Nat} {gs : DCtx → DGs} (h : PDGs F K ws es gs) (hc : ∀ k, (F.X k).calm = true := by intro _; rfl) (hn : ∀ k, (assignEach es (F.X k).env).length = n := by intro _; rfl) (hst : ∀ k, (assignEach es (F.X k).env).findIdx? (·.1) = none := by intro _; rfl) :
    PDG F K ws (.Tuple es m pos) (fun c => dgTup n (gs c)) := by
  obtain ⟨t1, a1, l1⟩ := h.ex
  exact ⟨_, fun k h q => by have hh := pg_tup (hc k) (a1 k h q) (hn k) (hst k) (k := m) (pos := pos); rw [fam.k k] at hh; exact hh, fun Z h c r => lg_tup (l1 Z h c r)⟩
theorem pg_s {o i : Expr} {to ti : DCtx → DE} (ho : PD F K o to) (hi : PD F K i ti)
    (ha : ∀ k v, assign (.Subscript o i pos) (F.X k).env v = (do
      let ov ← holding [v] (eval o (F.X k).env)
      let iv ← holding [v, ov] (eval i (F.X k).env)
      standAt pos
      holding [v, ov, iv] (setItem ov iv v)
      release [v, ov, iv] []) := by intro _ _; rfl) : PDG F K ws (.Subscript o i pos) (fun c => dgSub (to c) (ti c)) := by
  obtain ⟨t1, h1, l1⟩ := ho.ex
  obtain ⟨t2, h2, l2⟩ := hi.ex
  exact ⟨_, fun k h q => pg_sub (h1 k h q) (h2 k h q) set_list (ha k), fun Z h c r => lg_sub (l1 Z h c r) (l2 Z h c r)⟩
end
end DL
end

section
set_option Elab.async false
set_option linter.all false
set_option autoImplicit false
set_option maxRecDepth 100000
set_option maxHeartbeats 2000000
/-! DL9: statements, loops, comprehensions, a def by its body, raise, try. -/
namespace DL
open PySem PySem.Spec PyProof.Rows L2

section
variable {F : Fm} {K : PySem.W.Frag} {P : Program} {w : World} {mg : Str → Option Value} {base : Heap} [fam : Fam F P w K mg base]
variable {a b c e : Expr} {es : List Expr} {ta tb tc te : DCtx → DE} {tt uu : DCtx → DT} {t : DCtx → DA} {s : Stmt} {ss : List Stmt} {ds du : DCtx → DS} {pos p p1 p2 : Pos} {x : Str} {ws : List Nat}
include fam
/-! ### blocks -/
theorem ss_nil : PDSs F K [] (fun c => dNext) := ⟨fun _ => _, fun _ _ _ => pss_nil, fun _ _ _ _ => ls_next⟩
theorem ss_c (h1 : PDS F K s ds) (h2 : PDSs F K ss du) : PDSs F K (s :: ss) (fun c => dSeq (ds c) (du c)) := by
  obtain ⟨t1, a1, l1⟩ := h1.ex
  obtain ⟨t2, a2, l2⟩ := h2.ex
  exact ⟨_, fun k h q => pss_cons (a1 k h q) (a2 k h q), fun Z h c r => ls_seq (l1 Z h c r) (l2 Z h c r)⟩
theorem ss_1 (h1 : PDS F K s ds) : PDSs F K [s] ds := by
  obtain ⟨t1, a1, l1⟩ := h1.ex
  exact ⟨_, fun k h q => pss_one (a1 k h q), fun Z h c r => (l1 Z h c r)⟩
/-- ahead of a block: something is told otherwise -/
theorem ss_gh (h : PDSs F K ss du) : PDSs F K ss (fun c => dGh (du c)) := by
  obtain ⟨t2, a2, l2⟩ := h.ex
  exact ⟨_, a2, fun Z h c r => ls_gh (l2 Z h c r)⟩
theorem s_pass : PDS F K (.Pass pos) (fun c => dNext) := ⟨fun _ => _, fun _ _ _ => ps_pass, fun _ _ _ _ => ls_next⟩
theorem s_break : PDS F K (.Break pos) (fun c => dBreak) := ⟨fun _ => _, fun _ _ _ => ps_break, fun _ _ _ _ => ls_break⟩
theorem s_cont : PDS F K (.Continue pos) (fun c => dCont) := ⟨fun _ => _, fun _ _ _ => ps_continue, fun _ _ _ _ => ls_cont⟩
theorem s_never : PDS F K s (fun c => dNever) := ⟨fun _ => _, fun _ _ _ => ps_never, fun _ _ _ _ => ls_never⟩
theorem s_expr (h : PD F K e te) (hs : ∀ k, swapsWith e none pos.line (F.X k).env = pure false := by intro _; rfl) : PDS F K (.Expr e pos) (fun c => dDrop (te c)) := by
  obtain ⟨t1, a1, l1⟩ := h.ex
  exact ⟨_, fun k h q => ps_expr (a1 k h q) (hs k), fun Z h c r => ls_drop (l1 Z h c r)⟩
theorem s_ret (h : PD F K e te) : PDS F K (.Return (some e) pos) (fun c => dRet (te c)) := by
  obtain ⟨t1, a1, l1⟩ := h.ex
  exact ⟨_, fun k h q => ps_ret (a1 k h q), fun Z h c r => ls_ret (l1 Z h c r)⟩
theorem s_retG (h : PD F K e te) : PDS F K (.Return (some e) pos) (fun c => dRetG (te c)) := by
  obtain ⟨t1, a1, l1⟩ := h.ex
  exact ⟨_, fun k h q => ps_ret (a1 k h q), fun Z h c r => ls_retG (l1 Z h c r)⟩
theorem s_retN : PDS F K (.Return none pos) (fun c => dRetN) := ⟨fun _ => _, fun _ _ _ => ps_retN, fun _ _ _ _ => ls_retN⟩
theorem s_if {sa sb : List Stmt} (hc : PDT F K c tt) (ha : PDSs F K sa ds) (hb : PDSs F K sb du) : PDS F K (.If c sa sb pos) (fun c => dIfS (tt c) (ds c) (du c)) := by
  obtain ⟨t0, a0, l0⟩ := hc.ex
  obtain ⟨t1, a1, l1⟩ := ha.ex
  obtain ⟨t2, a2, l2⟩ := hb.ex
  exact ⟨_, fun k h q => ps_if (a0 k h q) (a1 k h q) (a2 k h q), fun Z h c r => ls_if (l0 Z h c r) (l1 Z h c r) (l2 Z h c r)⟩
/-- target = e -/
theorem s_asg {tg : Expr} {g : DCtx → DG} (he : PD F K e te) (hg : PDG F K ws tg g) (hs : ∀ k, swapsWithSole [tg] e pos.line (F.X k).env = pure false := by intro _; rfl) (hw : ∀ k, swappedStores [tg] e (F.X k).env = pure none := by intro _; rfl)
    (h1 : ∀ k, (assignEach [tg] (F.X k).env).map (·.2) = [assign tg (F.X k).env] := by intro _; rfl) : PDS F K (.Assign [tg] e pos) (fun c => dAsg (te c) (g c)) := by
  obtain ⟨t1, a1, l1⟩ := he.ex
  obtain ⟨t2, a2, l2⟩ := hg.ex
  exact ⟨_, fun k h q => ps_asg (a1 k h q) (a2 k h q) (hs k) (hw k) (h1 := h1 k), fun Z h c r => ls_asg (l1 Z h c r) (l2 Z h c r)⟩
/-- x = e -/
theorem s_set {i : Nat} {pos' : Pos} (hN : ∀ k, (F.X k).N.Nodup) (he : PD F K e te) (hi : ∀ k, (F.X k).N[i]? = some x := by intro _; rfl) (hx : ∀ k, Loc (F.X k).env.scope x := by intro _; first | exact .inl rfl | exact .inr rfl)
    (hs : ∀ k, swapsWith e (some (.Name x pos')) pos.line (F.X k).env = pure false := by intro _; rfl) (hf : ∀ k, (F.X k).fn x = true ∨ (F.X k).env.scope.names.lookup x = some .local := by intro _; first | exact .inl rfl | exact .inr rfl) :
    PDS F K (.Assign [.Name x pos'] e pos) (fun c => dAsg (te c) (dgName i)) := by
  obtain ⟨t1, a1, l1⟩ := he.ex
  exact ⟨_, fun k h q => ps_set (hN k) (hi k) (hx k) (a1 k h q) (hs k) (hf k), fun Z h c r => ls_asg (l1 Z h c r) (lg_name (ws := [i]) (List.mem_singleton.mpr rfl))⟩
/-- a, b = x, y -/
theorem s_par {i j : Nat} {y : Str} {px py pt : Pos} {kt k2 : Nat} {pt2 : Pos} (hN : ∀ k, (F.X k).N.Nodup) (ha : PDA F K [a, b] t) (hc : ∀ k, (F.X k).calm = true := by intro _; rfl) (hi : ∀ k, (F.X k).N[i]? = some x := by intro _; rfl) (hj : ∀ k, (F.X k).N[j]? = some y := by intro _; rfl) (hij : i ≠ j := by decide)
    (hx : ∀ k, (F.X k).env.scope.names.lookup x = some .local := by intro _; rfl) (hy : ∀ k, (F.X k).env.scope.names.lookup y = some .local := by intro _; rfl)
    (hw : ∀ k, swappedStores [.Tuple [.Name x px, .Name y py] kt pt] (.Tuple [a, b] k2 pt2) (F.X k).env = pure (some [x, y]) := by intro _; rfl)
    (hs : ∀ k, swapsWithSole [.Tuple [.Name x px, .Name y py] kt pt] (.Tuple [a, b] k2 pt2) pos.line (F.X k).env = pure false := by intro _; rfl) :
    PDS F K (.Assign [.Tuple [.Name x px, .Name y py] kt pt] (.Tuple [a, b] k2 pt2) pos) (fun c => dPar i j (t c)) := by
  obtain ⟨t1, a1, l1⟩ := ha.ex
  exact ⟨_, fun k h q => ps_par (hc k) (hN k) (hi k) (hj k) hij (hx k) (hy k) (a1 k h q) (hw k) (hs k), fun Z h c r => ls_par (l1 Z h c r)⟩
theorem s_augA {i : Nat} {pos' : Pos} (hN : ∀ k, (F.X k).N.Nodup) (he : PD F K e te) (hi : ∀ k, (F.X k).N[i]? = some x := by intro _; rfl) (hx : ∀ k, Loc (F.X k).env.scope x := by intro _; first | exact .inl rfl | exact .inr rfl)
    (hf : ∀ k, (F.X k).fn x = true ∨ (F.X k).env.scope.names.lookup x = some .local := by intro _; first | exact .inl rfl | exact .inr rfl) : PDS F K (.AugAssign (.Name x pos') .Add e pos) (fun c => dAugI (fun i j => i + j) i (te c)) := by
  obtain ⟨t1, a1, l1⟩ := he.ex
  exact ⟨_, fun k h q => ps_aug (hN k) (hi k) (hx k) (a1 k h q) ip_add (hf k), fun Z h c r => ls_augI (l1 Z h c r)⟩
theorem s_augS {i : Nat} {pos' : Pos} (hN : ∀ k, (F.X k).N.Nodup) (he : PD F K e te) (hi : ∀ k, (F.X k).N[i]? = some x := by intro _; rfl) (hx : ∀ k, Loc (F.X k).env.scope x := by intro _; first | exact .inl rfl | exact .inr rfl)
    (hf : ∀ k, (F.X k).fn x = true ∨ (F.X k).env.scope.names.lookup x = some .local := by intro _; first | exact .inl rfl | exact .inr rfl) : PDS F K (.AugAssign (.Name x pos') .Sub e pos) (fun c => dAugI (fun i j => i - j) i (te c)) := by
  obtain ⟨t1, a1, l1⟩ := he.ex
  exact ⟨_, fun k h q => ps_aug (hN k) (hi k) (hx k) (a1 k h q) ip_sub (hf k), fun Z h c r => ls_augI (l1 Z h c r)⟩
theorem s_fld {C : Addr} {f : Str} {o : Expr} {to : DCtx → DE} {pos' : Pos} (hC : Cls K C) (hn : NoAttr K C f) (ho : PD F K o to) (he : PD F K e te) (hs : ∀ k, swapsWith e (some (.Attribute o f pos')) pos.line (F.X k).env = pure false := by intro _; rfl) :
    PDS F K (.Assign [.Attribute o f pos'] e pos) (fun c => dFldS C f (to c) (te c)) := by
  obtain ⟨t1, a1, l1⟩ := he.ex
  obtain ⟨t2, a2, l2⟩ := ho.ex
  exact ⟨_, fun k h q => by have hh := ps_fld (a2 k h q) (a1 k h q) (hs k); rw [fam.k k] at hh; exact hh, fun Z h c r => ls_fld hC hn (l2 Z h c r) (l1 Z h c r)⟩
/-! ### loops -/
def PsO (F : Fm) : Prop := ∀ k, PassesOwn (model (F.X k).prog (F.X k).w) (F.X k).A (F.X k).env (F.X k).xe
theorem s_while (hp : PsO F) (hc : PDT F K c tt) (hb : PDSs F K ss ds) : PDS F K (.While c ss [] pos) (fun c => dWhile (tt c) (ds c)) := by
  obtain ⟨t1, a1, l1⟩ := hc.ex
  obtain ⟨t2, a2, l2⟩ := hb.ex
  exact ⟨_, fun k h q => ps_while (hp k) (a1 k h q) (a2 k h q), fun Z h c r => ls_while (l1 Z h c r) (l2 Z h c r)⟩
theorem i_seq {tg : Expr} (h : PD F K e te) : PDI F K tg e (fun c => diSeq (te c)) := by
  obtain ⟨t1, a1, l1⟩ := h.ex
  exact ⟨_, fun k h q => by have hh := pi_seq (tg := tg) (a1 k h q); rw [fam.k k] at hh; exact hh, fun Z h c r => li_seq (l1 Z h c r)⟩
theorem i_r1 {tg : Expr} (hm : mg "range" = none) (ha : PDA F K [a] t) (hg : ∀ k, Gl (F.X k) "range" := by intro _; rfl) (hs : ∀ k, starEach [a] (F.X k).env = [(false, eval a (F.X k).env)] := by intro _; rfl) :
    PDI F K tg (.Call (.Name "range" p) [a] [] pos) (fun c => diRng1 (t c)) := by
  obtain ⟨t1, a1, l1⟩ := ha.ex
  exact ⟨_, fun k h q => pi_range1 (hg k) (by rw [fam.mg k]; exact hm) (a1 k h q) (hs k), fun Z h c r => li_rng1 (l1 Z h c r)⟩
theorem i_r2 {tg : Expr} (hm : mg "range" = none) (ha : PDA F K [a, b] t) (hg : ∀ k, Gl (F.X k) "range" := by intro _; rfl) (hs : ∀ k, starEach [a, b] (F.X k).env = [(false, eval a (F.X k).env), (false, eval b (F.X k).env)] := by intro _; rfl)
    (hs2 : ∀ k, starEach [b] (F.X k).env = [(false, eval b (F.X k).env)] := by intro _; rfl) : PDI F K tg (.Call (.Name "range" p) [a, b] [] pos) (fun c => diRng2 (t c)) := by
  obtain ⟨t1, a1, l1⟩ := ha.ex
  exact ⟨_, fun k h q => pi_range2 (hg k) (by rw [fam.mg k]; exact hm) (a1 k h q) (hs k) (hs2 k), fun Z h c r => li_rng2 (l1 Z h c r)⟩
theorem i_enum {elts : List Expr} {kk : Nat} {tpos : Pos} (hm : mg "enumerate" = none) (ha : PDA F K [e] t) (hg : ∀ k, Gl (F.X k) "enumerate" := by intro _; rfl) (hs : ∀ k, starEach [e] (F.X k).env = [(false, eval e (F.X k).env)] := by intro _; rfl) :
    PDI F K (.Tuple elts kk tpos) (.Call (.Name "enumerate" p) [e] [] pos) (fun c => diEnum (t c)) := by
  obtain ⟨t1, a1, l1⟩ := ha.ex
  exact ⟨_, fun k h q => by have hh := pi_enumA (X := F.X k) (hg k) (by rw [fam.mg k]; exact hm) (a1 k h q) (hs k) (elts := elts) (kk := kk) (tpos := tpos) (p := p) (pos := pos); rw [fam.k k] at hh; exact hh, fun Z h c r => li_enum (l1 Z h c r)⟩
theorem s_for {tg iter : Expr} {wi : DCtx → DI} {g : DCtx → DG} (hp : PsO F) (hi : PDI F K tg iter wi) (hg : PDG F K ws tg g) (hb : PDSs F K ss ds) (hc : ∀ k, (F.X k).calm = true := by intro _; rfl) (hs : ∀ k x, foldedSetIterable iter (F.X k).env x = pure x := by intro _ _; rfl) :
    PDS F K (.For tg iter ss [] pos) (fun c => dFor (wi c) (g c) (ds c)) := by
  obtain ⟨t1, a1, l1⟩ := hi.ex
  obtain ⟨t2, a2, l2⟩ := hg.ex
  obtain ⟨t3, a3, l3⟩ := hb.ex
  exact ⟨_, fun k h q => ps_for (hp k) (hc k) (a1 k h q) (a2 k h q) (a3 k h q) (hs k), fun Z h c r => ls_for (l1 Z h c r) (l2 Z h c r) (l3 Z h c r)⟩
end

/-! ### comprehensions -/
/-- the blocks of a comprehension -/
def BlkI (ι : Type) : Type := ι × Shared × Hp × Addr × List (Str × Addr) × List Addr
def h0 : HCtx := ⟨fun _ _ _ _ => False, 0, .none, none⟩
def c0 : DCtx := ⟨W0, none⟩
def blkF (F : Fm) (scope : Scope) : Fm where
  ι := BlkI F.ι
  X := fun q => (F.X q.1).blk q.2.1 q.2.2.1 scope (compEnvC scope q.2.2.2.2.1 q.2.2.2.1 (F.X q.1).env) q.2.2.2.2.2
  ok := fun _ h => h = h0
  tk := fun _ _ e => by rw [e]; exact takes0
theorem rc0 {K : PySem.W.Frag} {Z : Hp} : RC K Z h0 c0 := ⟨⟨fun _ _ _ _ _ _ _ _ _ _ _ _ h => h⟩, fun _ _ _ h => by cases h⟩
instance {F : Fm} {P : Program} {w : World} {K : PySem.W.Frag} {mg : Str → Option Value} {base : Heap} {scope : Scope} [fam : Fam F P w K mg base] : Fam (blkF F scope) P w K mg base :=
  ⟨fun q => fam.prog q.1, fun q => fam.w q.1, fun q => fam.k q.1, fun q => fam.mg q.1, fun q => fam.base q.1⟩
section
variable {F : Fm} {K : PySem.W.Frag} {P : Program} {w : World} {mg : Str → Option Value} {base : Heap} [fam : Fam F P w K mg base]
variable {elt tg iter c : Expr} {ifs : List Expr} {scope : Scope} {own : List (Str × Nat)} {pos spos : Pos} {wi : DCtx → DI} {g : DCtx → DG} {tt : DCtx → DT} {te : DCtx → DE}
def dYes : DT := fun _ S Q => Q true S
omit fam in
theorem lt_yes {Z0 : Hp} : LT K Z0 tYes dYes := ⟨fun Z S H env σ Q Q' s0 re rl hh q => q _ _ _ _ (Same.refl _) rl hh⟩
include fam
theorem ts_nil : PDTs F K [] (fun c => dYes) := ⟨fun _ => _, fun _ _ _ => pts_nil, fun _ _ _ _ => lt_yes⟩
theorem ts_one (h : PDT F K c tt) : PDTs F K [c] tt := by
  obtain ⟨t1, a1, l1⟩ := h.ex
  exact ⟨_, fun k h q => pts_one (a1 k h q), fun Z h c r => (l1 Z h c r)⟩
theorem pd_lc (hN : ∀ k, (F.X k).N.Nodup) (hi : PDI F K tg iter wi) (ok : ∀ k, BlkOk (F.X k).N (F.X k).env.scope scope own) (hg : PDG (blkF F scope) K (own.map (·.2)) tg g) (ht : PDTs (blkF F scope) K ifs tt) (he : PD (blkF F scope) K elt te)
    (hc : ∀ k, (F.X k).calm = true := by intro _; rfl) (hs : ∀ k x, foldedSetIterable iter (F.X k).env x = pure x := by intro _ _; rfl) : PD F K (.ListComp elt [⟨tg, iter, ifs, 0⟩] scope pos) (fun c => dLc (wi c) (g c0) (tt c0) (te c0) (own.map (·.2))) := by
  obtain ⟨t1, a1, l1⟩ := hi.ex
  obtain ⟨t2, a2, l2⟩ := hg.ex
  obtain ⟨t3, a3, l3⟩ := ht.ex
  obtain ⟨t4, a4, l4⟩ := he.ex
  exact ⟨_, fun k h q => pe_lc (hc k) (hN k) (a1 k h q) (ok k) (fun s H C cl fp => a2 (k, s, H, C, cl, fp) h0 rfl) (fun s H C cl fp => a3 (k, s, H, C, cl, fp) h0 rfl) (fun s H C cl fp => a4 (k, s, H, C, cl, fp) h0 rfl) (hs k), fun Z h c r => le_lc (l1 Z h c r) (l2 Z h0 c0 rc0) (l3 Z h0 c0 rc0) (l4 Z h0 c0 rc0)⟩
theorem s_setLc {i : Nat} {y : Str} {py : Pos} (hN : ∀ k, (F.X k).N.Nodup) (hsw : ∀ k, swapsWith (.ListComp elt [⟨tg, iter, ifs, 0⟩] scope pos) (some (.Name y py)) spos.line (F.X k).env = pure true) (hi : PDI F K tg iter wi) (ok : ∀ k, BlkOk (F.X k).N (F.X k).env.scope scope own)
    (hg : PDG (blkF F scope) K (own.map (·.2)) tg g) (ht : PDTs (blkF F scope) K ifs tt) (he : PD (blkF F scope) K elt te) (hy : ∀ k, (F.X k).N[i]? = some y := by intro _; rfl) (hyl : ∀ k, (F.X k).env.scope.names.lookup y = some .local := by intro _; rfl)
    (hc : ∀ k, (F.X k).calm = true := by intro _; rfl) (hs : ∀ k x, foldedSetIterable iter (F.X k).env x = pure x := by intro _ _; rfl) : PDS F K (.Assign [.Name y py] (.ListComp elt [⟨tg, iter, ifs, 0⟩] scope pos) spos) (fun c => dAsg (dLc (wi c) (g c0) (tt c0) (te c0) (own.map (·.2))) (dgName i)) := by
  obtain ⟨t1, a1, l1⟩ := hi.ex
  obtain ⟨t2, a2, l2⟩ := hg.ex
  obtain ⟨t3, a3, l3⟩ := ht.ex
  obtain ⟨t4, a4, l4⟩ := he.ex
  exact ⟨_, fun k h q => ps_setLc (hc k) (hN k) (hy k) (hyl k) (hsw k) (a1 k h q) (ok k) (fun s H C cl fp => a2 (k, s, H, C, cl, fp) h0 rfl) (fun s H C cl fp => a3 (k, s, H, C, cl, fp) h0 rfl) (fun s H C cl fp => a4 (k, s, H, C, cl, fp) h0 rfl) (hs k), fun Z h c r => ls_asg (le_lc (l1 Z h c r) (l2 Z h0 c0 rc0) (l3 Z h0 c0 rc0) (l4 Z h0 c0 rc0)) (lg_name (ws := [i]) (List.mem_singleton.mpr rfl))⟩
end

/-! ### a def by its body -/
section
variable {P : Program} {w : World} {K : PySem.W.Frag} {mg : Str → Option Value} {base : Heap}
/-- where a def's body may run -/
structure BI (qual : Str) (scope : Scope) (f : Addr) (k : Nat) where
  cdv : Value
  A : Around
  outer : List Env
  s : Shared
  H : Hp
  E : XK
  room : Room k (A.deeper (envOfC qual scope s.heap.objs.size f cdv))
/-- the contexts of a def's body -/
def BF (P : Program) (w : World) (K : PySem.W.Frag) (mg : Str → Option Value) (base : Heap) (N : List Str) (qual : Str) (scope : Scope) (f : Addr) (k : Nat) : Fm where
  ι := BI qual scope f k
  X := fun i => cxOf (L2.CX P w) P w K mg base N qual scope f i.cdv i.A i.outer i.s i.H i.E
  ok := fun i h => h.W = fun cls d _ H => i.E cls d H
  tk := fun i h e => by rw [e]; exact takes_of rfl rfl rfl rfl
instance {N : List Str} {qual : Str} {scope : Scope} {f : Addr} {k : Nat} : Fam (BF P w K mg base N qual scope f k) P w K mg base :=
  ⟨fun _ => rfl, fun _ => rfl, fun _ => rfl, fun _ => rfl, fun _ => rfl⟩
theorem bf_room {N : List Str} {qual : Str} {scope : Scope} {f : Addr} {k : Nat} : ∀ i, Room k ((BF P w K mg base N qual scope f k).X i).A := fun i => i.room
theorem bf_pso {N : List Str} {qual : Str} {scope : Scope} {f : Addr} {k : Nat} : PsO (BF P w K mg base N qual scope f k) := fun i => passes_of (K := fun e s'' => CX P w i.outer i.H i.s i.E e s'') rfl
theorem relE_start {Z : Hp} {N : List Str} : ∀ {ds : List D} {vs : List V}, Reps K Z ds vs → RelE K Z (startD N ds) (L2.start N vs) := fun {ds vs} r => by
  refine ⟨by unfold startD L2.start; simp [r.length], fun i d e => ?_⟩
  unfold startD at e
  unfold L2.start
  by_cases hi : i < ds.length
  · rw [List.getElem?_append_left (by rw [List.length_map]; exact hi), List.getElem?_map] at e
    obtain ⟨d', h1, h2⟩ := Option.map_eq_some_iff.mp e
    cases h2
    obtain ⟨v, h3, h4⟩ := r.getD h1
    refine ⟨v, ?_, h4⟩
    rw [List.getElem?_append_left (by rw [List.length_map, ← r.length]; exact hi), List.getElem?_map, h3]
    rfl
  · rw [List.getElem?_append_right (by rw [List.length_map]; omega)] at e
    obtain ⟨h1, h2⟩ := List.getElem?_eq_some_iff.mp e
    rw [List.getElem_replicate] at h2
    cases h2
/-- a def, by its body: for every wish E' about exceptions the body's reading follows from G -/
theorem fn_ok {x qual : Str} {params : Arguments} {body : List Stmt} {scope : Scope} {dvs : List V} {kws : List (Str × V)} {f : Addr} {fd : FuncData} {N ps : List Str} {k : Nat} {G : DF} (F0 : FunD K x qual params body scope dvs kws f fd) (S : FnScope N ps scope)
    (len : ∀ ds S Q E, G ds S Q E → ds.length = ps.length) {t' : DCtx → DS} (hbody : PDSs (BF P w K mg base N qual scope f k) K body t')
    (rd : ∀ ds S Q E, G ds S Q E → t' ⟨fun C fs _ S => E C fs S, none⟩ { nx := fun _ S' => Q .non S', rt := Q } (startD N ds) S) : FnOk P w K mg base (L2.CX P w) (k + 1) f fd ps (spD K G) := by
  refine F0.ok S (fun vs H Q E h => ?_) fun cdv A outer s H vs Q E hr h => ?_
  · obtain ⟨Z, St, ds, Q', E', _, r, hF, _⟩ := h
    rw [← r.length]
    exact len _ _ _ _ hF
  · obtain ⟨Z, St, ds, Q', E', rl, r, hF, hQ, hE⟩ := h
    obtain ⟨t, a1, l1⟩ := hbody
    refine ⟨t ⟨fun cls d _ H => E cls d H, 0, .none, none⟩, a1 ⟨cdv, A, outer, s, H, E, hr⟩ _ rfl, (l1 Z _ _ ⟨⟨fun Z1 S1 H1 env σ C fs d s1 _ r1 x1 w1 => hE Z1 S1 H1 C fs d s1 r1 x1 w1⟩, fun _ _ _ h => by cases h⟩).run Z St H _ _ _ _ (Same.refl Z) (relE_start r) rl (rd ds St Q' E' hF)
      ⟨fun Z1 S1 H1 env1 σ1 s1 _ r1 h1 => hQ Z1 S1 H1 .non .non s1 r1 .non h1, fun Z1 S1 H1 d v s1 r1 p1 h1 => hQ Z1 S1 H1 d v s1 r1 p1 h1, fun _ _ _ _ _ _ _ _ h => h.elim, fun _ _ _ _ _ _ _ _ h => h.elim⟩⟩
/-- known under its name -/
theorem FnOk.fnD {x : Str} {f : Addr} {fd : FuncData} {ps : List Str} {k : Nat} {G : DF} (h : FnOk P w K mg base (L2.CX P w) k f fd ps (spD K G)) (hm : mg x = some (.ref f)) (hk : PySem.W.keepIn K (.ref f) = true) (hb : Binds K fd ps []) : FnD P w K mg base k x G [] :=
  ⟨f, fd, ps, [], [], h, hm, hk, hb, .nil, fun _ => .nil⟩
/-- more is asked -/
theorem FnD.imp {x : Str} {k : Nat} {F G : DF} {dds : List D} (h : FnD P w K mg base k x F dds) (q : ∀ ds S Q E, G ds S Q E → F ds S Q E) : FnD P w K mg base k x G dds := by
  obtain ⟨f, fd, ps, dvs, ds, h1, h2⟩ := h.ex
  refine ⟨f, fd, ps, dvs, ds, h1.imp fun vs H Q E z => ?_, h2⟩
  obtain ⟨Z, S, ds, Q', E', a, b, c, d⟩ := z
  exact ⟨Z, S, ds, Q', E', a, b, q _ _ _ _ c, d⟩
end
end DL
end

section
set_option Elab.async false
set_option linter.all false
set_option autoImplicit false
set_option maxRecDepth 100000
set_option maxHeartbeats 2000000
/-! DL10: isinstance; exceptions raised and caught. -/
namespace DL
open PySem PySem.Spec PyProof.Rows L2

/-! ### isinstance -/
def subT : Ty → Ty → Bool
  | .bool, .int => true
  | a, b => decide (a = b)
theorem kitB_ty : ∀ a b : Ty, b ≠ .none → kitB a.name b.name = some (subT a b)
  | .int, .int, _ => by decide +kernel
  | .int, .bool, _ => by decide +kernel
  | .int, .str, _ => by decide +kernel
  | .int, .tuple, _ => by decide +kernel
  | .int, .list, _ => by decide +kernel
  | .int, .dict, _ => by decide +kernel
  | .bool, .int, _ => by decide +kernel
  | .bool, .bool, _ => by decide +kernel
  | .bool, .str, _ => by decide +kernel
  | .bool, .tuple, _ => by decide +kernel
  | .bool, .list, _ => by decide +kernel
  | .bool, .dict, _ => by decide +kernel
  | .str, .int, _ => by decide +kernel
  | .str, .bool, _ => by decide +kernel
  | .str, .str, _ => by decide +kernel
  | .str, .tuple, _ => by decide +kernel
  | .str, .list, _ => by decide +kernel
  | .str, .dict, _ => by decide +kernel
  | .tuple, .int, _ => by decide +kernel
  | .tuple, .bool, _ => by decide +kernel
  | .tuple, .str, _ => by decide +kernel
  | .tuple, .tuple, _ => by decide +kernel
  | .tuple, .list, _ => by decide +kernel
  | .tuple, .dict, _ => by decide +kernel
  | .list, .int, _ => by decide +kernel
  | .list, .bool, _ => by decide +kernel
  | .list, .str, _ => by decide +kernel
  | .list, .tuple, _ => by decide +kernel
  | .list, .list, _ => by decide +kernel
  | .list, .dict, _ => by decide +kernel
  | .dict, .int, _ => by decide +kernel
  | .dict, .bool, _ => by decide +kernel
  | .dict, .str, _ => by decide +kernel
  | .dict, .tuple, _ => by decide +kernel
  | .dict, .list, _ => by decide +kernel
  | .dict, .dict, _ => by decide +kernel
  | .none, .int, _ => by decide +kernel
  | .none, .bool, _ => by decide +kernel
  | .none, .str, _ => by decide +kernel
  | .none, .tuple, _ => by decide +kernel
  | .none, .list, _ => by decide +kernel
  | .none, .dict, _ => by decide +kernel
  | _, .none, h => absurd rfl h
/-- the built-in class of a thing -/
def tyD (S : Sto) : D → Option Ty
  | .non => some .none
  | .bl _ => some .bool
  | .int _ => some .int
  | .str _ => some .str
  | .tup _ => some .tuple
  | .lst _ => some .list
  | .dk _ => some .dict
  | .raw a => (match S a with
    | some (.lst _) => some .list
    | some (.dk _) => some .dict
    | _ => none)
  | _ => none
/-- what the written part says of an own class for isinstance -/
structure InsC (K : PySem.W.Frag) (C : Addr) : Prop where
  cl : Cls K C
  ha : PySem.W.findIn K (.ref C) "__class__" = some (some (.builtin "object.__class__"))
  hn : PySem.W.specialIn K (.builtin "object.__class__") "__get__" = some (some (.builtin "getset_descriptor.__get__"))
  htk : PySem.W.takesIn K (.builtin "object.__class__") = some true
  hm : PySem.W.mroIn K C (.type "object") = some true
/-- isinstance where own classes stand: d is of the class c (b: whether) -/
inductive OwnI (K : PySem.W.Frag) (S : Sto) : D → D → Bool → Prop
  | blt {d : D} {C : Addr} {a : Ty} {b : Bool} (h : tyD S d = some a) (q : PySem.W.kitOne K (.type a.name) (.ref C) = some b) : OwnI K S d (.raw C) b
  | insT {d : D} {C : Addr} {fs : List (Str × D)} {n : Ty} {b : Bool} (h : insOf S d = some (C, fs)) (i : InsC K C) (q : PySem.W.kitOne K (.ref C) (.type n.name) = some b) : OwnI K S d (.ty n) b
  | insC {d : D} {C C2 : Addr} {fs : List (Str × D)} {b : Bool} (h : insOf S d = some (C, fs)) (i : InsC K C) (q : PySem.W.kitOne K (.ref C) (.ref C2) = some b) : OwnI K S d (.raw C2) b
def rIsi' (K : PySem.W.Frag) : RL' := fun ds S Q => match ds with
  | [d, .ty n] => (match tyD S d with
    | some a => n ≠ .none ∧ Q (.bl (subT a n)) S
    | none => ∃ b, OwnI K S d (.ty n) b ∧ Q (.bl b) S)
  | [d, c] => ∃ b, OwnI K S d c b ∧ Q (.bl b) S
  | _ => False
section
variable {K : PySem.W.Frag} {Z0 : Hp}
theorem Rel.tyX {Z : Hp} {S : Sto} {H : Hp} (r : Rel K Z S H) {d : D} {v : V} {a : Ty} (h : Rep K Z d v) (e : tyD S d = some a) : TyX K H v (.type a.name) := by
  cases h with
  | non => cases e; exact .base .non
  | bl b => cases e; exact .base (.bl b)
  | int i => cases e; exact .base (.int i)
  | str x => cases e; exact .base (.str x)
  | tup h1 h2 =>
    cases e
    rcases Same.sqt r.sub h1 with (h3 | ⟨o, h3⟩) | ⟨o, its, n, h3, h4, _⟩
    · exact .base (.tup h3)
    · exact .fTuple h3
    · exact .kTuple h3 h4
  | lst h1 h2 => cases e; exact .base (.lst (r.sub _ _ h1))
  | dk h1 h2 => cases e; exact .base (.dK (r.sub _ _ h1))
  | raw a' =>
    have e' : (match S a' with
    | some (.lst _) => some Ty.list
    | some (.dk _) => some Ty.dict
    | _ => none) = some a := e
    split at e'
    · rename_i q
      cases e'
      obtain ⟨_, u, h1, xs, e2, _⟩ := r.own _ _ q
      subst e2
      exact .base (.lst h1)
    · rename_i q
      cases e'
      obtain ⟨_, u, h1, xs, e2, _⟩ := r.own _ _ q
      subst e2
      exact .base (.dK h1)
    · cases e'
  | _ => cases e
theorem Rel.isC {Z : Hp} {S : Sto} {H : Hp} (r : Rel K Z S H) {d c : D} {v u : V} {b : Bool} (h : Rep K Z d v) (h2 : Rep K Z c u) (o : OwnI K S d c b) : ∃ t uv, ClsV u uv ∧ TyX K H v t ∧ PySem.W.kitOne K t uv = some b := by
  cases o with
  | blt e q => cases h2; exact ⟨_, _, .own _, r.tyX h e, q⟩
  | insT e i q =>
    cases h2
    obtain ⟨a, dx, gs, rfl, h3, _⟩ := r.ins h e
    exact ⟨_, _, .ty _, .base (.ins h3 i.cl i.ha i.hn i.htk i.hm), q⟩
  | insC e i q =>
    cases h2
    obtain ⟨a, dx, gs, rfl, h3, _⟩ := r.ins h e
    exact ⟨_, _, .own _, .base (.ins h3 i.cl i.ha i.hn i.htk i.hm), q⟩
theorem lr_isi : LR K Z0 (rIsi K) (rIsi' K) := ⟨fun Z S H xs ds Q Q' s0 rl pr h q => by
  unfold rIsi' at h
  split at h
  · obtain ⟨v, u, rfl, p, p2⟩ := two_of pr
    split at h
    · rename_i e
      cases p2
      exact ⟨v, _, _, _, _, rfl, .ty _, rl.tyX p e, kit_ty (kitB_ty _ _ h.1), q _ _ _ _ _ (Same.refl _) rl (.bl _) h.2⟩
    · obtain ⟨b, o, h⟩ := h
      obtain ⟨t, uv, k1, k2, k3⟩ := rl.isC p p2 o
      exact ⟨v, _, t, uv, b, rfl, k1, k2, k3, q _ _ _ _ _ (Same.refl _) rl (.bl _) h⟩
  · obtain ⟨v, u, rfl, p, p2⟩ := two_of pr
    obtain ⟨b, o, h⟩ := h
    obtain ⟨t, uv, k1, k2, k3⟩ := rl.isC p p2 o
    exact ⟨v, _, t, uv, b, rfl, k1, k2, k3, q _ _ _ _ _ (Same.refl _) rl (.bl _) h⟩
  · exact h.elim⟩
/-- isinstance(x, (A, B, ..)), built-in classes -/
def dIsiT (ns : List Ty) (ta : DE) : DE := fun env S Q => ta env S fun x S1 => match tyD S1 x with
  | some a => Q (.bl (ns.any fun n => subT a n)) S1
  | none => False
theorem kitAny_tys (a : Ty) : ∀ ns : List Ty, Ty.none ∉ ns → PySem.W.kitAny K (.type a.name) (ns.map fun n => Value.type n.name) = some (ns.any fun n => subT a n)
  | [], _ => rfl
  | n :: ns, h => by
    have hn : n ≠ .none := fun e => h (by rw [e]; exact List.mem_cons_self)
    have k1 := kit_ty (K := K) (kitB_ty a n hn)
    rw [List.map_cons, List.any_cons]
    cases e : subT a n with
    | true => rw [e] at k1; exact kitAny_cons k1 (fun z => by cases z) fun _ => by simp
    | false => rw [e] at k1; exact kitAny_cons k1 (fun _ => by rw [kitAny_tys a ns fun z => h (List.mem_cons_of_mem _ z)]; simp) fun z => by cases z
def tTys : List Ty → TA
  | [] => tNil
  | n :: ns => tCons (tC (.ty n.name)) (tTys ns)
theorem tTys_run : ∀ (ns : List Ty) (σ : L2.St) (H : Hp) (Q : List V → Hp → Prop), Q (ns.map fun n => V.ty n.name) H → tTys ns σ H Q
  | [], _, _, _, h => h
  | n :: ns, σ, H, Q, h => tTys_run ns σ H (fun xs H2 => Q (.ty n.name :: xs) H2) h
theorem clsV_tys : ∀ ns : List Ty, Paired ClsV (ns.map fun n => V.ty n.name) (ns.map fun n => Value.type n.name)
  | [] => .nil
  | n :: ns => .cons (.ty _) (clsV_tys ns)
theorem le_isiT {ta : TE} {ta' : DE} (ns : List Ty) (hn : Ty.none ∉ ns) (hl : ns.length ≤ 100) (h : LE K Z0 ta ta') : LE K Z0 (tCB (rIsiT K) (tCons ta (tCons (tTup (tTys ns)) tNil))) (dIsiT ns ta') := ⟨fun Z S H env σ Q Q' s0 re rl hh q =>
  h.run Z S H env σ _ _ s0 re rl hh fun Z1 S1 H1 d v s1 r1 p1 h1 => by
    split at h1
    · rename_i a e
      refine tTys_run ns σ H1 _ ⟨by rw [List.length_map, sizeLine_eq]; omega, fun p hp => ?_⟩
      obtain ⟨r2, s2⟩ := r1.laid (o := .tup (ns.map fun n => V.ty n.name)) hp
      exact ⟨v, p, _, _, _, _, rfl, upd_same, clsV_tys ns, r2.tyX (p1.mono s2) e, kitAny_tys a ns hn, q _ _ _ _ _ (s1.trans s2) r2 (.bl _) h1⟩
    · exact h1.elim⟩
end
section
variable {F : Fm} {K : PySem.W.Frag} {P : Program} {w : World} {mg : Str → Option Value} {base : Heap} [fam : Fam F P w K mg base]
variable {a b e : Expr} {es : List Expr} {ta tb te : DCtx → DE} {t : DCtx → DA} {pos p p1 p2 p3 : Pos} {x : Str}
include fam
theorem pd_isi (hm : mg "isinstance" = none) (ha : PDA F K (e :: es) t) (hg : ∀ k, Gl (F.X k) "isinstance" := by intro _; rfl)
    (he : ∀ k, starEach (e :: es) (F.X k).env = (false, eval e (F.X k).env) :: starEach es (F.X k).env := by intro _; rfl) (hpl : ∀ k, (backTo pos (starEach es (F.X k).env)).any (·.1) = false := by intro _; rfl) :
    PD F K (.Call (.Name "isinstance" p) (e :: es) [] pos) (fun c => dCB (rIsi' K) (t c)) := pd_callB (callK (r := rIsi) fun _ => call_isi) (fun _ => lr_isi) hm (by decide +kernel) ha hg (by decide) (by decide) he hpl
theorem pd_isiT (ns : List Ty) {n : Nat} (hm : mg "isinstance" = none) (ha : PD F K a ta) (hts : ∀ k, PA (F.X k) es (tTys ns)) (hn : Ty.none ∉ ns := by decide) (hl : ns.length ≤ 100 := by decide) (hg : ∀ k, Gl (F.X k) "isinstance" := by intro _; rfl)
    (he : ∀ k, starEach [a, .Tuple es n p2] (F.X k).env = (false, eval a (F.X k).env) :: starEach [.Tuple es n p2] (F.X k).env := by intro _; rfl) (he2 : ∀ k, starEach [.Tuple es n p2] (F.X k).env = (false, eval (.Tuple es n p2) (F.X k).env) :: starEach [] (F.X k).env := by intro _; rfl)
    (hpl : ∀ k, (backTo pos (starEach [.Tuple es n p2] (F.X k).env)).any (·.1) = false := by intro _; rfl) :
    PD F K (.Call (.Name "isinstance" p) [a, .Tuple es n p2] [] pos) (fun c => dIsiT ns (ta c)) := by
  obtain ⟨t1, a1, l1⟩ := ha.ex
  exact ⟨_, fun k h q => by
    have h := pe_callB (X := F.X k) call_isiT (hg k) (by rw [fam.mg k]; exact hm) (by decide +kernel) (pa_cons (a1 k h q) (pa_cons (pe_tup (hts k)) pa_nil (he2 k)) (he k)) (p := p) (pos := pos) (by decide) (by decide) (he k) (hpl k)
    rw [fam.k k] at h
    exact h, fun Z h c r => le_isiT ns hn hl (l1 Z h c r)⟩
end

/-! ### an exception's making -/
/-- an exception class with __init__(self, f1, ..): self.f1 = f1; .. -/
def spX (C : Addr) (names : List Str) : Sp := fun vs H Q _ => ∃ a ws, vs = .ref a :: ws ∧ ws.length = names.length ∧ H a = some (exo a C none) ∧
  ∀ dx H', H dx = none → dx ≠ a → (∀ b o, H b = some o → b ≠ a → H' b = some o) → H' a = some (exo a C (some dx)) → H' dx = some (exd dx (names.zip ws).reverse) → Q .non H'
structure ExC (P : Program) (w : World) (K : PySem.W.Frag) (mg : Str → Option Value) (base : Heap) (x : Str) (C : Addr) (names : List Str) : Prop where
  ex : ∃ (fI : Addr) (fd : FuncData) (ps : List Str), OexC K C ∧ PySem.W.findIn K (.ref C) "__init__" = some (some (.ref fI)) ∧ PySem.W.typeIn K (.ref fI) = some (.type "function") ∧ FnOk P w K mg base (L2.CX P w) 1 fI fd ps (spX C names) ∧ Binds K fd ps [] ∧ mg x = some (.ref C)
def dRaise (C : Addr) (names : List Str) (W' : DW) (t : DA) : DS := fun _ env S => t env S fun ds S1 => ds.length = names.length ∧ W' C ((names.zip ds).reverse) env S1
section
variable {K : PySem.W.Frag} {Z0 : Hp}
theorem RepF.append {Z : Hp} : ∀ {f1 f2 : List (Str × D)} {g1 g2 : List (Str × V)}, RepF K Z f1 g1 → RepF K Z f2 g2 → RepF K Z (f1 ++ f2) (g1 ++ g2)
  | _, _, _, _, .nil, h => h
  | _, _, _, _, .cons a r, h => .cons a (RepF.append r h)
theorem RepF.reverse {Z : Hp} : ∀ {f1 : List (Str × D)} {g1 : List (Str × V)}, RepF K Z f1 g1 → RepF K Z f1.reverse g1.reverse
  | _, _, .nil => .nil
  | _, _, .cons a r => by rw [List.reverse_cons, List.reverse_cons]; exact (RepF.reverse r).append (.cons a .nil)
theorem RepF.zip {Z : Hp} : ∀ (names : List Str) {ds : List D} {vs : List V}, Reps K Z ds vs → RepF K Z (names.zip ds) (names.zip vs)
  | [], _, _, _ => by rw [List.zip_nil_left, List.zip_nil_left]; exact .nil
  | n :: ns, _, _, .nil => by rw [List.zip_nil_right, List.zip_nil_right]; exact .nil
  | n :: ns, _, _, .cons a r => .cons a (RepF.zip ns r)
theorem ls_raise {W : WX} {W' : DW} {C : Addr} {names : List Str} {t : TA} {t' : DA} (hn : names.length ≤ 900) (rw' : RW K Z0 W W') (h : LA K Z0 t t') :
    LS K Z0 (fun _ σ H => tMkO C (spX C names) [] t σ H fun cls d H' => W cls d σ H') (dRaise C names W' t') := ⟨fun Z S H env σ D D' s0 re rl hh e =>
  h.run Z S H env σ _ _ s0 re rl hh fun Z1 S1 H1 ds vs s1 r1 p1 h1 => by
    obtain ⟨hl, h1⟩ := h1
    have hl2 : vs.length = names.length := by rw [← p1.length]; exact hl
    refine ⟨by omega, fun a ha => ⟨a, vs, by rw [List.append_nil], hl2, upd_same, fun dx H2 hdx hne hk h3 h4 => ⟨rfl, dx, _, h3, h4, ?_, ?_⟩⟩⟩
    · rw [upd_ne hne] at hdx; exact hdx
    · rw [upd_ne hne] at hdx
      have hd : ∀ b o, H1 b = some o → (upd (L2.del H2 a) dx (.xd (names.zip vs).reverse)) b = some o := fun b o q => by
        have hba : b ≠ a := ne_of_none q ha
        have hbd : b ≠ dx := ne_of_none q hdx
        rw [upd_ne hbd, L2.del_ne hba]
        exact hk b o (by rw [upd_ne hba]; exact q) hba
      have nz : Z1 dx = none := r1.sub.free hdx
      have sz : Same Z1 (upd Z1 dx (.xd (names.zip vs).reverse)) := fun b u q => by rw [upd_ne (ne_of_none q nz)]; exact q
      have r2 : Rel K (upd Z1 dx (.xd (names.zip vs).reverse)) S1 (upd (L2.del H2 a) dx (.xd (names.zip vs).reverse)) := by
        refine ⟨fun b u q => ?_, fun b o q => ?_⟩
        · by_cases hb : b = dx
          · subst hb; rw [upd_same] at q ⊢; exact q
          · rw [upd_ne hb] at q; exact hd b u (r1.sub b u q)
        · obtain ⟨z1, u, z2, z3⟩ := r1.own b o q
          have hb : b ≠ dx := ne_of_none z2 hdx
          exact ⟨by rw [upd_ne hb]; exact z1, u, hd b u z2, z3.mono sz⟩
      exact rw'.run _ S1 _ env σ C _ (some dx) ((s0.trans s1).trans sz) (re.mono (s1.trans sz)) r2 (.inr ⟨dx, _, rfl, upd_same, ((RepF.zip names p1).reverse).mono sz⟩) h1⟩
end
section
variable {F : Fm} {K : PySem.W.Frag} {P : Program} {w : World} {mg : Str → Option Value} {base : Heap} [fam : Fam F P w K mg base]
variable {e : Expr} {es : List Expr} {t : DCtx → DA} {pos p p1 p2 p3 : Pos} {x : Str}
include fam
theorem s_raise {C : Addr} {names : List Str} {j : Nat} (c : ExC P w K mg base x C names) (hr : ∀ k, Room j (F.X k).A) (hj : 2 ≤ j) (ha : PDA F K (e :: es) t) (hn : names.length ≤ 900 := by decide) (hc : ∀ k, (F.X k).calm = true := by intro _; rfl) (hg : ∀ k, Gl (F.X k) x := by intro _; rfl)
    (hdb : (x == ("__debug__" : Str)) = false := by decide) (he : ∀ k, starEach (e :: es) (F.X k).env = (false, eval e (F.X k).env) :: starEach es (F.X k).env := by intro _; rfl) (hpl : ∀ k, (backTo pos (starEach es (F.X k).env)).any (·.1) = false := by intro _; rfl) :
    PDS F K (.Raise (some (.Call (.Name x p) (e :: es) [] pos)) none p2) (fun c => dRaise C names c.w (t c)) := by
  obtain ⟨fI, fd, ps, h1, h2, h3, h4, h5, h6⟩ := c.ex
  obtain ⟨ta, a1, a2⟩ := ha.ex
  refine ⟨_, fun i h q => ?_, fun Z h c r => ls_raise hn r.w (a2 Z h c r)⟩
  have e1 := fam.prog i
  have e2 := fam.w i
  have e3 := fam.k i
  have e4 := fam.mg i
  have e5 := fam.base i
  exact ps_raise (hc i) (F.tk i h q) (pmk_oex (X := F.X i) (CX := L2.CX (F.X i).prog (F.X i).w) (k := 1) (by rw [e3]; exact h1) (by rw [e3]; exact h2) (by rw [e3]; exact h3) (by rw [e1, e2, e3, e4, e5]; exact h4) ((hr i).mono hj) (by rw [e3]; exact h5) .nil passL (hg i) (by rw [e4]; exact h6) (a1 i h q) hdb (he i) (hpl i))
end
end DL
end

section
set_option Elab.async false
set_option linter.all false
set_option autoImplicit false
set_option maxRecDepth 100000
set_option maxHeartbeats 2000000
/-! DL11: own classes made; try .. except; a tuple repeated; a display of a dict. -/
namespace DL
open PySem PySem.Spec PyProof.Rows L2

/-! ### C(..), the new instance frozen when it has been made -/
def dMake (C : Addr) (G : DF) (dds : List D) (W' : DW) (t : DA) : DE := fun env S Q => t env S fun ds S1 => ∀ x, S1 x = none →
  G (.raw x :: (ds ++ dds)) (updS S1 x (.ins C [])) (fun d S2 => d = .non ∧ ∃ fs, S2 x = some (.ins C fs) ∧ Q (.ins C fs) (delS S2 x)) (fun C' fs S' => W' C' fs env S')
section
variable {K : PySem.W.Frag} {Z0 : Hp} {ar : TA} {ar' : DA}
theorem le_make {C : Addr} {G : DF} {W : WX} {W' : DW} {dvs : List V} {dds : List D} (hd : ∀ Z, Reps K Z dds dvs) (rw' : RW K Z0 W W') (h : LA K Z0 ar ar') : LE K Z0 (fun σ H Q => tMake C (spD K G) dvs (WE W σ) ar σ H Q) (dMake C G dds W' ar') := ⟨fun Z S H env σ Q Q' s0 re rl hh q =>
  h.run Z S H env σ _ _ s0 re rl hh fun Z1 S1 H1 ds vs s1 r1 p1 h1 x dx hx hdx hne => by
    obtain ⟨r2, s2⟩ := r1.laid (o := .own x) hdx
    have hx2 : (upd H1 dx (.own x)) x = none := by rw [upd_ne (fun e => hne e.symm)]; exact hx
    obtain ⟨r3, n3⟩ := r2.new (o := .ins C []) (u := .ins C dx []) hx2 ⟨dx, [], rfl, .nil⟩
    refine ⟨_, _, .raw x :: (ds ++ dds), _, _, r3, .cons (.raw x) (((p1.mono s2)).append (hd _)), h1 x n3, fun Z2 S2 H2 d v z2 r4 p4 h4 => ?_, fun Z2 S2 H2 C' fs d z2 r4 x4 w4 => ?_⟩
    · obtain ⟨rfl, fs, e, h5⟩ := h4
      cases p4
      obtain ⟨u, e2, e3, r5, z3⟩ := r4.freeze e
      obtain ⟨dx', gs, rfl, e4⟩ := e3
      exact ⟨rfl, q _ _ _ _ _ (((s1.trans s2).trans z2).trans z3) r5 (.ins upd_same (e4.mono z3)) h5⟩
    · exact rw'.run Z2 S2 H2 env σ C' fs d (((s0.trans s1).trans s2).trans z2) (re.mono ((s1.trans s2).trans z2)) r4 x4 w4⟩
end
/-- a class's making, where the wish about exceptions knows the names -/
theorem pe_makeAt {X : Cx} {CX : CXT} {k : Nat} {f C : Addr} {fd : FuncData} {ps : List Str} {sp : Sp} {dvs : List V} {ds : List Value} {E : L2.St → XK} {x : Str} {p pos : Pos} {e : Expr} {es : List Expr} {t : TA}
    (M : Mk X.K C f) (F : FnOk X.prog X.w X.K X.mg X.base CX k f fd ps sp) (hr : Room (k + 1) X.A) (hg : Gl X x) (hm : X.mg x = some (.ref C)) (hb : Binds X.K fd ps ds) (hd : Vals dvs ds) (hx : ∀ σ, PassesAt CX X σ (E σ))
    (ha : PA X (e :: es) t) (hdb : (x == ("__debug__" : Str)) = false) (he : starEach (e :: es) X.env = (false, eval e X.env) :: starEach es X.env) (hpl : (backTo pos (starEach es X.env)).any (·.1) = false) :
    PE X (.Call (.Name x p) (e :: es) [] pos) (fun σ H Q => tMake C sp dvs (E σ) t σ H Q) := by
  refine ⟨fun pins s σ H Q I h => wpAny_Call_Name_kw (ld_glob I hg hm ?_ hdb)⟩
  refine PySem.W.callWith_K (h₀ := X.base) I.ok.mod.kin M.kp (thn (ha.run pos pins s σ H _ I h) fun us s1 ⟨vs, H1, I1, r, q⟩ => ⟨I1.kIn, ?_⟩) he hpl
  have hq := q (s1.heap.objs.size + 1) s1.heap.objs.size (I1.hok.fresh (Nat.le_succ _)) (I1.hok.fresh (Nat.le_refl _)) (Nat.ne_of_lt (Nat.lt_succ_self _))
  have I2 := Inv.made (C := C) I1
  have r2 : Vals (V.ref (s1.heap.objs.size + 1) :: (vs ++ dvs)) (Value.ref (s1.heap.objs.size + 1) :: (us ++ ds)) := .cons rfl (r.append hd)
  have hl : (Value.ref (s1.heap.objs.size + 1) :: us ++ ds).length = ps.length := by
    have z := r2.length
    rw [F.len _ _ _ _ hq] at z
    exact z.symm
  refine wpAny_call (make_map (f := f) I1.kIn M.makes M.init (beq_iff_eq.mp M.fn) (codeAny_mono (F.run _ X.stack _ _ ⟨Value.ref (s1.heap.objs.size + 1) :: us, []⟩ (Value.ref (s1.heap.objs.size + 1) :: (us ++ ds)) _ _ (E σ) (hr.make C us [])
    (I2.env0.make C us []) (hb _ (Value.ref (s1.heap.objs.size + 1) :: us) I2.kIn hl) r2 hq) fun r s' z => ?_))
  cases r with
  | error e => exact hx σ pins _ _ e s' I2 z
  | ok fl =>
    cases fl with
    | ret u =>
      obtain ⟨v, H', I3, rv, ev, q3⟩ := I2.after z
      subst ev
      exact ⟨rv, ⟨V.ref (s1.heap.objs.size + 1), H', I3, rfl, q3⟩⟩
    | next => exact False.elim z
    | brk => exact False.elim z
    | cont => exact False.elim z
structure MkD (P : Program) (w : World) (K : PySem.W.Frag) (mg : Str → Option Value) (base : Heap) (k : Nat) (x : Str) (C : Addr) (G : DF) (dds : List D) : Prop where
  ex : ∃ (f : Addr) (fd : FuncData) (ps : List Str) (dvs : List V) (ds : List Value), Mk K C f ∧ FnOk P w K mg base (L2.CX P w) k f fd ps (spD K G) ∧ mg x = some (.ref C) ∧ Binds K fd ps ds ∧ Vals dvs ds ∧ ∀ Z, Reps K Z dds dvs
section
variable {F : Fm} {K : PySem.W.Frag} {P : Program} {w : World} {mg : Str → Option Value} {base : Heap} [fam : Fam F P w K mg base]
variable {e : Expr} {es : List Expr} {t : DCtx → DA} {pos p p1 p2 p3 : Pos} {x : Str}
include fam
theorem pd_make {k : Nat} {C : Addr} {G : DF} {dds : List D} (c : MkD P w K mg base k x C G dds) {j : Nat} (hr : ∀ k, Room j (F.X k).A) (hk : k + 1 ≤ j) (ha : PDA F K (e :: es) t) (hg : ∀ k, Gl (F.X k) x := by intro _; rfl)
    (hdb : (x == ("__debug__" : Str)) = false := by decide) (he : ∀ k, starEach (e :: es) (F.X k).env = (false, eval e (F.X k).env) :: starEach es (F.X k).env := by intro _; rfl) (hpl : ∀ k, (backTo pos (starEach es (F.X k).env)).any (·.1) = false := by intro _; rfl) :
    PD F K (.Call (.Name x p) (e :: es) [] pos) (fun c => dMake C G dds c.w (t c)) := by
  obtain ⟨f, fd, ps, dvs, ds, h1, h2, h3, h4, h5, h6⟩ := c.ex
  obtain ⟨ta, a1, a2⟩ := ha.ex
  refine ⟨fun h σ H Q => tMake C (spD K G) dvs (WE h.W σ) (ta h) σ H Q, fun i h q => ?_, fun Z h c r => le_make h6 r.w (a2 Z h c r)⟩
  have e1 := fam.prog i
  have e2 := fam.w i
  have e3 := fam.k i
  have e4 := fam.mg i
  have e5 := fam.base i
  exact pe_makeAt (X := F.X i) (CX := L2.CX (F.X i).prog (F.X i).w) (E := WE h.W) (by rw [e3]; exact h1) (by rw [e1, e2, e3, e4, e5]; exact h2) ((hr i).mono hk) (hg i) (by rw [e4]; exact h3) (by rw [e3]; exact h4) h5 (fun σ => passAt (F.tk i h q) σ) (a1 i h q) hdb (he i) (hpl i)
end

/-! ### try .. except -/
structure TrI (F : Fm) where
  i : F.ι
  pn : List (Addr × Obj)
  xe : Value → Shared → Prop
  po : PassesOwn (model (F.X i).prog (F.X i).w) (F.X i).A (F.X i).env xe
/-- the bodies of a try -/
def trF (F : Fm) : Fm where
  ι := TrI F
  X := fun q => (F.X q.i).tr q.pn q.xe
  ok := fun q h => Takes ((F.X q.i).tr q.pn q.xe) h.W
  tk := fun _ _ h => h
structure SuI (F : Fm) where
  i : F.ι
  a : Addr
  oe : Obj
  pn : List (Addr × Obj)
/-- an except clause's suite -/
def suF (F : Fm) : Fm where
  ι := SuI F
  X := fun q => (F.X q.i).suite q.a ((q.a, q.oe) :: q.pn)
  ok := fun q h => h.W = (fun _ _ _ _ => False) ∧ h.a = q.a ∧ Zc h.cls h.d q.oe ∧ ∃ vs, q.oe.data = .fields vs
  tk := fun q h e => by rw [e.1]; exact takes0
instance {F : Fm} {P : Program} {w : World} {K : PySem.W.Frag} {mg : Str → Option Value} {base : Heap} [fam : Fam F P w K mg base] : Fam (trF F) P w K mg base :=
  ⟨fun q => fam.prog q.i, fun q => fam.w q.i, fun q => fam.k q.i, fun q => fam.mg q.i, fun q => fam.base q.i⟩
instance {F : Fm} {P : Program} {w : World} {K : PySem.W.Frag} {mg : Str → Option Value} {base : Heap} [fam : Fam F P w K mg base] : Fam (suF F) P w K mg base :=
  ⟨fun q => fam.prog q.i, fun q => fam.w q.i, fun q => fam.k q.i, fun q => fam.mg q.i, fun q => fam.base q.i⟩
theorem tr_pso {F : Fm} : PsO (trF F) := fun q => q.po
theorem tr_room {F : Fm} {j : Nat} (h : ∀ k, Room j (F.X k).A) : ∀ k, Room j ((trF F).X k).A := fun q => h q.i
/-- the ends of a suite behind `as' the name in slot i -/
def offN (i : Nat) (D : DEnds) : DEnds := { nx := fun e S => D.nx (e.set i none) S, rt := D.rt, bk := fun e S => D.bk (e.set i none) S, ct := fun e S => D.ct (e.set i none) S }
def xAs (K : PySem.W.Frag) (C0 : Addr) (i : Nat) (ts : DCtx → DS) (w0 : DW) (D : DEnds) : DW := fun C fs env S =>
  (PySem.W.exmOne K (.ref C) (.ref C0) = some true ∧ ∀ a, ts ⟨W0, some (a, C, fs)⟩ (offN i D) (env.set i (some (.raw a))) S) ∨ (PySem.W.exmOne K (.ref C) (.ref C0) = some false ∧ w0 C fs env S)
def dTryAs (K : PySem.W.Frag) (C0 : Addr) (i : Nat) (tb ts : DCtx → DS) (c : DCtx) : DS := fun D env S => tb ⟨xAs K C0 i ts c.w D, none⟩ D env S
def xOn (K : PySem.W.Frag) (C0 : Addr) (ts : DCtx → DS) (w0 : DW) (D : DEnds) : DW := fun C fs env S =>
  (PySem.W.exmOne K (.ref C) (.ref C0) = some true ∧ ∀ a, ts ⟨W0, some (a, C, fs)⟩ D env S) ∨ (PySem.W.exmOne K (.ref C) (.ref C0) = some false ∧ w0 C fs env S)
def dTryOn (K : PySem.W.Frag) (C0 : Addr) (tb ts : DCtx → DS) (c : DCtx) : DS := fun D env S => tb ⟨xOn K C0 ts c.w D, none⟩ D env S
theorem XR.mono {K : PySem.W.Frag} {Z Z' : Hp} {fs : List (Str × D)} {d : Option Addr} (s : Same Z Z') (h : XR K Z fs d) : XR K Z' fs d := by
  rcases h with h | ⟨dd, gs, h1, h2, h3⟩
  · exact .inl h
  · exact .inr ⟨dd, gs, h1, s _ _ h2, h3.mono s⟩
section
variable {K : PySem.W.Frag} {C0 : Addr} {i : Nat} {t1 t2 : HCtx → TS} {tb ts : DCtx → DS} {h : HCtx} {c : DCtx} {Z0 : Hp}
theorem ls_tryAs (l1 : ∀ Z0 h c, RC K Z0 h c → LS K Z0 (t1 h) (tb c)) (l2 : ∀ Z0 h c, RC K Z0 h c → LS K Z0 (t2 h) (ts c)) (r : RC K Z0 h c) :
    LS K Z0 (fun D σ H => t1 ⟨wAs K (.ref C0) i (fun a cls d => t2 ⟨fun _ _ _ _ => False, a, cls, d⟩) h.W D, 0, .none, none⟩ D σ H) (dTryAs K C0 i tb ts c) := ⟨fun Z S H env σ D D' s0 re rl hh e => by
  refine (l1 Z _ ⟨xAs K C0 i ts c.w D', none⟩ ⟨⟨fun Z1 S1 H1 env1 σ1 C fs d z1 re1 r1 x1 w1 => ?_⟩, fun _ _ _ z => by cases z⟩).run Z S H env σ D D' (Same.refl _) re rl hh e
  rcases w1 with ⟨m, w1⟩ | ⟨m, w1⟩
  · refine ⟨true, m, fun _ a ha => ?_, fun z => by cases z⟩
    have w2 := w1 a
    refine (l2 Z1 ⟨fun _ _ _ _ => False, a, .ref C, d⟩ ⟨W0, some (a, C, fs)⟩ ⟨⟨fun _ _ _ _ _ _ _ _ _ _ _ _ z => z⟩, fun _ _ _ z => by cases z; exact ⟨rfl, rfl, x1⟩⟩).run Z1 S1 H1 _ _ _ _ (Same.refl _) (re1.set (.raw a) i) r1 w2 ?_
    exact ⟨fun Z2 S2 H2 e2 σ2 z2 re2 r2 q => e.nx Z2 S2 H2 _ _ (z1.trans z2) (re2.setN i none) r2 q, fun Z2 S2 H2 d v z2 r2 p2 q => e.rt Z2 S2 H2 d v (z1.trans z2) r2 p2 q,
      fun Z2 S2 H2 e2 σ2 z2 re2 r2 q => e.bk Z2 S2 H2 _ _ (z1.trans z2) (re2.setN i none) r2 q, fun Z2 S2 H2 e2 σ2 z2 re2 r2 q => e.ct Z2 S2 H2 _ _ (z1.trans z2) (re2.setN i none) r2 q⟩
  · exact ⟨false, m, (fun z => by cases z), fun _ => r.w.run Z1 S1 H1 env1 σ1 C fs d (s0.trans z1) re1 r1 x1 w1⟩⟩
theorem ls_tryOn (l1 : ∀ Z0 h c, RC K Z0 h c → LS K Z0 (t1 h) (tb c)) (l2 : ∀ Z0 h c, RC K Z0 h c → LS K Z0 (t2 h) (ts c)) (r : RC K Z0 h c) :
    LS K Z0 (fun D σ H => t1 ⟨wOnly K (.ref C0) (fun a cls d => t2 ⟨fun _ _ _ _ => False, a, cls, d⟩) h.W D, 0, .none, none⟩ D σ H) (dTryOn K C0 tb ts c) := ⟨fun Z S H env σ D D' s0 re rl hh e => by
  refine (l1 Z _ ⟨xOn K C0 ts c.w D', none⟩ ⟨⟨fun Z1 S1 H1 env1 σ1 C fs d z1 re1 r1 x1 w1 => ?_⟩, fun _ _ _ z => by cases z⟩).run Z S H env σ D D' (Same.refl _) re rl hh e
  rcases w1 with ⟨m, w1⟩ | ⟨m, w1⟩
  · refine ⟨true, m, fun _ a ha => ?_, fun z => by cases z⟩
    exact (l2 Z1 ⟨fun _ _ _ _ => False, a, .ref C, d⟩ ⟨W0, some (a, C, fs)⟩ ⟨⟨fun _ _ _ _ _ _ _ _ _ _ _ _ z => z⟩, fun _ _ _ z => by cases z; exact ⟨rfl, rfl, x1⟩⟩).run Z1 S1 H1 _ _ _ _ (Same.refl _) re1 r1 (w1 a) (e.mono z1)
  · exact ⟨false, m, (fun z => by cases z), fun _ => r.w.run Z1 S1 H1 env1 σ1 C fs d (s0.trans z1) re1 r1 x1 w1⟩⟩
end
/-- e.f of the exception in hand, of the class C -/
def dXf (C : Addr) (f : Str) (te : DCtx → DE) (c : DCtx) : DE := fun env S Q => te c env S fun x S1 => ∃ a fs v, c.ex = some (a, C, fs) ∧ x = .raw a ∧ fs.lookup f = some v ∧ Q v S1
section
variable {F : Fm} {K : PySem.W.Frag} {P : Program} {w : World} {mg : Str → Option Value} {base : Heap} [fam : Fam F P w K mg base]
variable {e : Expr} {te : DCtx → DE} {tb ts : DCtx → DS} {body suite : List Stmt} {b0 : Stmt} {pos p np : Pos} {x n : Str}
include fam
theorem s_tryAs {C0 : Addr} {i : Nat} (hm : mg x = some (.ref C0)) (hN : ∀ k, (F.X k).N.Nodup) (hb : PDSs (trF F) K body tb) (hs : PDSs (suF F) K (b0 :: suite) ts) (hst : ∀ k, (F.X k).stack = (F.X k).env :: (F.X k).outer := by intro _; rfl) (hf : ∀ k, (F.X k).env.frame = some (F.X k).env.locals := by intro _; rfl)
    (hi : ∀ k, (F.X k).N[i]? = some n := by intro _; rfl) (hln : ∀ k, (F.X k).env.kindOf n = some .local := by intro _; rfl) (hg : ∀ k, Gl (F.X k) x := by intro _; rfl) (hdb : (x == ("__debug__" : Str)) = false := by decide) :
    PDS F K (.Try body [.ExceptHandler (some (.Name x np)) (some n) (b0 :: suite) p] [] [] pos) (dTryAs K C0 i tb ts) := by
  obtain ⟨t1, a1, l1⟩ := hb.ex
  obtain ⟨t2, a2, l2⟩ := hs.ex
  refine ⟨fun h D σ H => t1 ⟨wAs K (.ref C0) i (fun a cls d => t2 ⟨fun _ _ _ _ => False, a, cls, d⟩) h.W D, 0, .none, none⟩ D σ H, fun k h q => ?_, fun Z h c r => ls_tryAs l1 l2 r⟩
  have z := ps_try_as (X := F.X k) (c := .ref C0) (Wout := h.W) (tb := fun W => t1 ⟨W, 0, .none, none⟩) (ts := fun a cls d => t2 ⟨fun _ _ _ _ => False, a, cls, d⟩) (np := np) (pos := pos) (pos' := p) (hst k) (hf k) (hN k) (hi k) (hln k) ⟨hg k, hdb, .inl (by rw [fam.mg k]; exact hm)⟩ (F.tk k h q)
    (fun W pn xe tk po => a1 ⟨k, pn, xe, po⟩ ⟨W, 0, .none, none⟩ tk) (fun a oe cls d pn zc vs => a2 ⟨k, a, oe, pn⟩ ⟨fun _ _ _ _ => False, a, cls, d⟩ ⟨rfl, rfl, zc, vs⟩)
  rw [fam.k k] at z
  exact z
theorem s_tryOn {C0 : Addr} (hm : mg x = some (.ref C0)) (hb : PDSs (trF F) K body tb) (hs : PDSs (suF F) K (b0 :: suite) ts) (hst : ∀ k, (F.X k).stack = (F.X k).env :: (F.X k).outer := by intro _; rfl)
    (hf : ∀ k, (F.X k).env.frame = some (F.X k).env.locals := by intro _; rfl) (hg : ∀ k, Gl (F.X k) x := by intro _; rfl) (hdb : (x == ("__debug__" : Str)) = false := by decide) :
    PDS F K (.Try body [.ExceptHandler (some (.Name x np)) none (b0 :: suite) p] [] [] pos) (dTryOn K C0 tb ts) := by
  obtain ⟨t1, a1, l1⟩ := hb.ex
  obtain ⟨t2, a2, l2⟩ := hs.ex
  refine ⟨fun h D σ H => t1 ⟨wOnly K (.ref C0) (fun a cls d => t2 ⟨fun _ _ _ _ => False, a, cls, d⟩) h.W D, 0, .none, none⟩ D σ H, fun k h q => ?_, fun Z h c r => ls_tryOn l1 l2 r⟩
  have z := ps_try_only (X := F.X k) (c := .ref C0) (Wout := h.W) (tb := fun W => t1 ⟨W, 0, .none, none⟩) (ts := fun a cls d => t2 ⟨fun _ _ _ _ => False, a, cls, d⟩) (np := np) (pos := pos) (pos' := p) (hst k) (hf k) ⟨hg k, hdb, .inl (by rw [fam.mg k]; exact hm)⟩ (F.tk k h q)
    (fun W pn xe tk po => a1 ⟨k, pn, xe, po⟩ ⟨W, 0, .none, none⟩ tk) (fun a oe cls d pn zc vs => a2 ⟨k, a, oe, pn⟩ ⟨fun _ _ _ _ => False, a, cls, d⟩ ⟨rfl, rfl, zc, vs⟩)
  rw [fam.k k] at z
  exact z
theorem pd_xf {C : Addr} {f : Str} (hc : XfC K C) (hn : PySem.W.findIn K (.ref C) f = some none) (he : PD (suF F) K e te) (hb : ∀ k, attributeBase e f (F.X k).env (eval e (F.X k).env) = eval e (F.X k).env := by intro _; rfl) :
    PD (suF F) K (.Attribute e f pos) (dXf C f te) := by
  obtain ⟨t1, a1, l1⟩ := he.ex
  refine ⟨fun h => tXf h.a h.cls h.d C f (t1 h), fun q h ok => ?_, fun Z h c r => ⟨fun Z1 S H env σ Q Q' s0 re rl hh q => ?_⟩⟩
  · obtain ⟨k, a, oe, pn⟩ := q
    obtain ⟨h1, h2, h3, h4⟩ := ok
    have z := a1 ⟨k, a, oe, pn⟩ h ⟨h1, h2, h3, h4⟩
    obtain ⟨W, a', cls, d⟩ := h
    have h2' : a' = a := h2
    subst h2'
    exact pe_xf (X := F.X k) (by rw [fam.k k]; exact hc) (by rw [fam.k k]; exact hn) h3 h4 z (hb k)
  · refine (l1 Z h c r).run Z1 S H env σ _ _ s0 re rl hh fun Z2 S2 H2 d v s2 r2 p2 ⟨a, fs, v', h1, h2, h3, h4⟩ => ?_
    subst h2
    obtain ⟨q1, q2, q3⟩ := r.ex _ _ _ h1
    cases p2
    rcases q3 with ⟨_, q4⟩ | ⟨dd, gs, q4, q5, q6⟩
    · rw [q4] at h3; cases h3
    · obtain ⟨v2, q7, q8⟩ := q6.lookup f h3
      have sZ := s0.trans s2
      exact ⟨by rw [q1], q2, dd, gs, v2, q4, r2.sub _ _ (sZ _ _ q5), q7, q _ _ _ _ _ s2 r2 (q8.mono sZ) h4⟩
end

/-! ### a tuple repeated -/
def rRep' : R2' := fun x y S Q => match x, y with
  | .tup xs, .int k => xs ≠ [] ∧ 2 ≤ k ∧ k ≤ 1000 ∧ xs.length ≤ 1000 ∧ Q (.tup (List.replicate k.toNat xs).flatten) S
  | _, _ => False
theorem Reps.repl {K : PySem.W.Frag} {Z : Hp} {ds : List D} {vs : List V} (h : Reps K Z ds vs) : ∀ n : Nat, Reps K Z (List.replicate n ds).flatten (List.replicate n vs).flatten
  | 0 => .nil
  | n + 1 => by rw [List.replicate_succ, List.replicate_succ, List.flatten_cons, List.flatten_cons]; exact h.append (Reps.repl h n)
theorem lr_rep {K : PySem.W.Frag} {Z0 : Hp} : L2R K Z0 (rRepT K) rRep' := ⟨fun Z S H x y d e Q Q' s0 rl pd pe h q => by
  unfold rRep' at h
  split at h
  · obtain ⟨h1, h2, h3, h4, h5⟩ := h
    cases pe
    cases pd with
    | tup a r =>
      refine ⟨_, _, _, rfl, rfl, Same.sqt rl.sub a, fun z => h1 (by subst z; cases r; rfl), h2, h3, by rw [← r.length]; exact h4, fun p hp => ?_⟩
      obtain ⟨r2, s2⟩ := rl.laid (o := .tup (List.replicate _ _).flatten) hp
      exact q _ _ _ _ _ s2 r2 (.tup upd_same ((r.repl _).mono s2)) h5
  · exact h.elim⟩
section
variable {F : Fm} {K : PySem.W.Frag} {P : Program} {w : World} {mg : Str → Option Value} {base : Heap} [fam : Fam F P w K mg base]
variable {a b : Expr} {ta tb : DCtx → DE} {pos : Pos}
include fam
theorem pd_rep (ha : PD F K a ta) (hb : PD F K b tb) : PD F K (.BinOp a .Mult b pos) (fun c => dOp rRep' (ta c) (tb c)) := pd_op (opK (r := rRepT) fun _ => op_repT) (fun _ => lr_rep) ha hb
end

/-! ### {k: v} -/
theorem le_dispC {K : PySem.W.Frag} {Z0 : Hp} {kk : Key} {v : V} {d : D} (hd : ∀ Z, Rep K Z d v) : LE K Z0 (tDisp [(tC (kV kk), tC v)]) (dC (.dk [(kk, d)])) := ⟨fun Z S H env σ Q Q' s0 re rl hh q p hp => by
  refine ⟨upd_same, [(kk, v)], rfl, by simp, ?_⟩
  have e : upd (upd H p (.dK [])) p (.dK (mergeK [] [(kk, v)])) = upd H p (.dK [(kk, v)]) := by
    funext b; unfold upd; split <;> rfl
  show Q _ (upd (upd H p (.dK [])) p (.dK (mergeK [] [(kk, v)])))
  rw [e]
  obtain ⟨r2, s2⟩ := rl.laid (o := .dK [(kk, v)]) hp
  exact q _ _ _ _ _ s2 r2 (.dk upd_same (.cons (hd _) .nil)) hh⟩
section
variable {F : Fm} {K : PySem.W.Frag} {P : Program} {w : World} {mg : Str → Option Value} {base : Heap} [fam : Fam F P w K mg base]
variable {pos p1 p2 : Pos} {j1 j2 : Nat} {i1 i2 : Int}
include fam
theorem pd_dispII : PD F K (.Dict [some (.Constant (.int i1) j1 p1)] [.Constant (.int i2) j2 p2] pos) (fun _ => dC (.dk [(.inl i1, .int i2)])) :=
  ⟨fun _ => _, fun _ _ _ => pe_disp (pps_cons pe_int pe_int pps_nil) rfl rfl (fun z => by cases z) (by simp), fun _ _ _ _ => le_dispC (kk := .inl i1) fun _ => .int i2⟩
end
end DL
end

section
set_option Elab.async false
set_option linter.all false
set_option autoImplicit false
set_option maxRecDepth 100000
set_option maxHeartbeats 2000000
/-! DL12: short forms for calls of built-in things; comprehensions whose list may change; a thing opened to a reading of its own. -/
namespace DL
open PySem PySem.Spec PyProof.Rows L2

theorem blk_room {F : Fm} {scope : Scope} {j : Nat} (h : ∀ k, Room j (F.X k).A) : ∀ k, Room j ((blkF F scope).X k).A := fun q => h q.1

/-! ### a comprehension whose list may change -/
def dLcM (wi : DI) (g : DG) (tt : DT) (te : DE) (vs : List Nat) : DE := fun env S Q => wi env S fun items G S1 => ∃ P : Nat → List D → Sto → Prop, P 0 [] S1 ∧ (∀ i acc S Dd o, P i acc S → S Dd = none → G (updS S Dd o)) ∧
  (∀ i x acc S Dd o, items[i]? = some x → P i acc S → S Dd = none → g x (wipeD env vs) (updS S Dd o) fun env2 S2 => tt env2 S2 fun b S3 =>
    if b = true then te env2 S3 fun y S4 => acc.length < sizeLine ∧ S4 Dd = some o ∧ P (i + 1) (acc ++ [y]) (delS S4 Dd) else S3 Dd = some o ∧ P (i + 1) acc (delS S3 Dd)) ∧
  (∀ acc S a, P items.length acc S → S a = none → Q (.raw a) (updS S a (.lst acc)))
section
variable {K : PySem.W.Frag} {Z0 : Hp} {te : TE} {te' : DE} {tt : TT} {tt' : DT}
theorem le_lcM {wi : TI} {wi' : DI} {g : TG} {g' : DG} {vs : List Nat} (hi : LI K Z0 wi wi') (hg : LG K Z0 vs g g') (ht : LT K Z0 tt tt') (he : LE K Z0 te te') : LE K Z0 (tLc wi g tt te vs) (dLcM wi' g' tt' te' vs) := ⟨fun Z S H env σ Q Q' s0 re rl hh q => by
  refine hi.run Z S H env σ _ _ s0 re rl hh fun Z1 S1 H1 J items G s1 r1 wk hx => ?_
  obtain ⟨P, p0, pG, turn, done⟩ := hx
  intro Da hD
  have fixed : ∀ (xs : List V), ∃ o : O, ∀ Z u, RepO K Z o u ↔ u = .lst xs := fun xs => ⟨.abs ⟨fun _ u => u = .lst xs, fun _ _ _ _ h => h⟩, fun Z u => Iff.rfl⟩
  refine ⟨fun i m H => i ≤ items.length ∧ m = items.length - i ∧ ∃ Z' S acc us, Same Z1 Z' ∧ Rel K Z' S H ∧ S Da = none ∧ Z' Da = none ∧ H Da = some (.lst us) ∧ Reps K Z' acc us ∧ P i acc S, ?_, ?_⟩
  · obtain ⟨r2, n2⟩ := r1.new (o := .lst []) (u := .lst []) hD ⟨[], rfl, .nil⟩
    have r3 := r2.del Da
    rw [delS_upd n2] at r3
    exact ⟨items.length, Nat.zero_le _, rfl, Z1, S1, [], [], Same.refl _, r3, n2, r1.sub.free hD, upd_same, .nil, p0⟩
  · rintro i m H2 ⟨hi', rfl, Z2, S2, acc, us, s2, r2, nS, nZ, hDa, pa, p2⟩
    obtain ⟨o, ho⟩ := fixed us
    have r2' : Rel K Z2 (updS S2 Da o) H2 := by
      refine ⟨r2.sub, fun b w e => ?_⟩
      by_cases hb : b = Da
      · subst hb; rw [updS_same] at e; cases e; exact ⟨nZ, _, hDa, (ho _ _).mpr rfl⟩
      · rw [updS_ne hb] at e; exact r2.own b w e
    by_cases hlt : i < items.length
    · refine .inr ⟨wk.goes Z2 _ H2 i s2 r2' (pG i acc S2 Da o p2 nS) hlt, fun H' => ∃ Z' S acc us, Same Z1 Z' ∧ Rel K Z' S H' ∧ S Da = none ∧ Z' Da = none ∧ H' Da = some (.lst us) ∧ Reps K Z' acc us ∧ P (i + 1) acc S,
        fun H' ⟨Z', S, acc, us, z1, z2, z3, z4, z5, z6, z7⟩ => ⟨items.length - (i + 1), by omega, hlt, rfl, Z', S, acc, us, z1, z2, z3, z4, z5, z6, z7⟩, fun x H' y => ?_⟩
      obtain ⟨Z3, d, s3, r3', e3, q3⟩ := wk.yields Z2 _ H2 i x H' s2 r2' (pG i acc S2 Da o p2 nS) hlt y
      have s02 := (s0.trans s1).trans s2
      refine hg.run Z3 (updS S2 Da o) H' (wipeD env vs) (L2.wipe σ vs) d x _ _ (s02.trans s3) (((re.mono ((s1.trans s2).trans s3))).wipe vs) r3' q3 (turn i d acc S2 Da o e3 p2 nS) fun Z4 S4 H4 env4 σ4 s4 re4 r4 w4 h4 => ⟨?_, ?_⟩
      · rw [w4, wipe_sub vs σ fun _ h => h]
      · refine ht.run Z4 S4 H4 env4 σ4 _ _ ((s02.trans s3).trans s4) re4 r4 h4 fun Z5 S5 H5 b s5 r5 h5 => ?_
        have sT := ((s2.trans s3).trans s4).trans s5
        by_cases hb : b = true
        · rw [if_pos hb] at h5 ⊢
          refine he.run Z5 S5 H5 env4 σ4 _ _ (((s02.trans s3).trans s4).trans s5) (re4.mono s5) r5 h5 fun Z6 S6 H6 e v s6 r6 p6 h6 => ?_
          obtain ⟨hl, e6, h6⟩ := h6
          obtain ⟨n6, w6, h7, h8⟩ := r6.own Da o e6
          have e7 := (ho _ _).mp h8
          subst e7
          have sU := ((s3.trans s4).trans s5).trans s6
          refine ⟨us, h7, by rw [← pa.length]; exact hl, Z6, delS S6 Da, acc ++ [e], us ++ [v], s2.trans sU, ?_, delS_same, n6, upd_same, (pa.mono sU).append (.cons p6 .nil), h6⟩
          have r7 := (r6.write (o' := .lst (acc ++ [e])) (u := .lst (us ++ [v])) e6 ⟨_, rfl, (pa.mono sU).append (.cons p6 .nil)⟩).del Da
          have e8 : delS (updS S6 Da (.lst (acc ++ [e]))) Da = delS S6 Da := by
            funext b; unfold delS updS; split <;> rfl
          rw [e8] at r7
          exact r7
        · rw [if_neg hb] at h5 ⊢
          obtain ⟨e6, h6⟩ := h5
          obtain ⟨n6, w6, h7, h8⟩ := r5.own Da o e6
          have e7 := (ho _ _).mp h8
          subst e7
          exact ⟨Z5, delS S5 Da, acc, us, sT, r5.del Da, delS_same, n6, h7, pa.mono ((s3.trans s4).trans s5), h6⟩
    · have ei : i = items.length := by omega
      subst ei
      refine .inl ⟨wk.stops Z2 _ H2 s2 r2' (pG _ acc S2 Da o p2 nS), ?_⟩
      have r2' : Rel K Z2 (updS S2 Da (.lst acc)) H2 := by
        refine ⟨r2.sub, fun b w e => ?_⟩
        by_cases hb : b = Da
        · subst hb; rw [updS_same] at e; cases e; exact ⟨nZ, _, hDa, us, rfl, pa⟩
        · rw [updS_ne hb] at e; exact r2.own b w e
      exact q _ _ _ _ _ (s1.trans s2) r2' (.raw Da) (done acc S2 Da p2 nS)⟩
end
section
variable {F : Fm} {K : PySem.W.Frag} {P : Program} {w : World} {mg : Str → Option Value} {base : Heap} [fam : Fam F P w K mg base]
variable {elt tg iter c : Expr} {ifs : List Expr} {scope : Scope} {own : List (Str × Nat)} {pos spos : Pos} {wi : DCtx → DI} {g : DCtx → DG} {tt : DCtx → DT} {te : DCtx → DE}
include fam
theorem pd_lcM (hN : ∀ k, (F.X k).N.Nodup) (hi : PDI F K tg iter wi) (ok : ∀ k, BlkOk (F.X k).N (F.X k).env.scope scope own) (hg : PDG (blkF F scope) K (own.map (·.2)) tg g) (ht : PDTs (blkF F scope) K ifs tt) (he : PD (blkF F scope) K elt te)
    (hc : ∀ k, (F.X k).calm = true := by intro _; rfl) (hs : ∀ k x, foldedSetIterable iter (F.X k).env x = pure x := by intro _ _; rfl) : PD F K (.ListComp elt [⟨tg, iter, ifs, 0⟩] scope pos) (fun c => dLcM (wi c) (g c0) (tt c0) (te c0) (own.map (·.2))) := by
  obtain ⟨t1, a1, l1⟩ := hi.ex
  obtain ⟨t2, a2, l2⟩ := hg.ex
  obtain ⟨t3, a3, l3⟩ := ht.ex
  obtain ⟨t4, a4, l4⟩ := he.ex
  exact ⟨_, fun k h q => pe_lc (hc k) (hN k) (a1 k h q) (ok k) (fun s H C cl fp => a2 (k, s, H, C, cl, fp) h0 rfl) (fun s H C cl fp => a3 (k, s, H, C, cl, fp) h0 rfl) (fun s H C cl fp => a4 (k, s, H, C, cl, fp) h0 rfl) (hs k), fun Z h c r => le_lcM (l1 Z h c r) (l2 Z h0 c0 rc0) (l3 Z h0 c0 rc0) (l4 Z h0 c0 rc0)⟩
theorem s_setLcM {i : Nat} {y : Str} {py : Pos} (hN : ∀ k, (F.X k).N.Nodup) (hsw : ∀ k, swapsWith (.ListComp elt [⟨tg, iter, ifs, 0⟩] scope pos) (some (.Name y py)) spos.line (F.X k).env = pure true) (hi : PDI F K tg iter wi) (ok : ∀ k, BlkOk (F.X k).N (F.X k).env.scope scope own)
    (hg : PDG (blkF F scope) K (own.map (·.2)) tg g) (ht : PDTs (blkF F scope) K ifs tt) (he : PD (blkF F scope) K elt te) (hy : ∀ k, (F.X k).N[i]? = some y := by intro _; rfl) (hyl : ∀ k, (F.X k).env.scope.names.lookup y = some .local := by intro _; rfl)
    (hc : ∀ k, (F.X k).calm = true := by intro _; rfl) (hs : ∀ k x, foldedSetIterable iter (F.X k).env x = pure x := by intro _ _; rfl) : PDS F K (.Assign [.Name y py] (.ListComp elt [⟨tg, iter, ifs, 0⟩] scope pos) spos) (fun c => dAsg (dLcM (wi c) (g c0) (tt c0) (te c0) (own.map (·.2))) (dgName i)) := by
  obtain ⟨t1, a1, l1⟩ := hi.ex
  obtain ⟨t2, a2, l2⟩ := hg.ex
  obtain ⟨t3, a3, l3⟩ := ht.ex
  obtain ⟨t4, a4, l4⟩ := he.ex
  exact ⟨_, fun k h q => ps_setLc (hc k) (hN k) (hy k) (hyl k) (hsw k) (a1 k h q) (ok k) (fun s H C cl fp => a2 (k, s, H, C, cl, fp) h0 rfl) (fun s H C cl fp => a3 (k, s, H, C, cl, fp) h0 rfl) (fun s H C cl fp => a4 (k, s, H, C, cl, fp) h0 rfl) (hs k), fun Z h c r => ls_asg (le_lcM (l1 Z h c r) (l2 Z h0 c0 rc0) (l3 Z h0 c0 rc0) (l4 Z h0 c0 rc0)) (lg_name (ws := [i]) (List.mem_singleton.mpr rfl))⟩
end

/-! ### a thing opened: whatever it is, it has a reading R -/
def Opn (env : DEnv) (S : Sto) (R : DEnv → Sto → Prop) : Prop := ∀ (K : PySem.W.Frag) (Z : Hp) (H : Hp) (σ : L2.St), RelE K Z env σ → Rel K Z S H → ∃ Z' env2 S2, R env2 S2 ∧ Same Z Z' ∧ RelE K Z' env2 σ ∧ Rel K Z' S2 H
def dOpen (t : DS) : DS := fun D env S => ∃ R, Opn env S R ∧ ∀ env2 S2, R env2 S2 → t D env2 S2
theorem ls_open {K : PySem.W.Frag} {Z0 : Hp} {t : TS} {t' : DS} (h : LS K Z0 t t') : LS K Z0 t (dOpen t') := ⟨fun Z S H env σ D D' s0 re rl hh e => by
  obtain ⟨R, g, hh⟩ := hh
  obtain ⟨Z1, env2, S2, z, s1, re1, r1⟩ := g K Z H σ re rl
  exact h.run Z1 S2 H env2 σ D D' (s0.trans s1) re1 r1 (hh _ _ z) (e.mono s1)⟩
section
variable {F : Fm} {K : PySem.W.Frag} {P : Program} {w : World} {mg : Str → Option Value} {base : Heap} [fam : Fam F P w K mg base]
variable {a b e o : Expr} {es : List Expr} {ss : List Stmt} {ta tb te to : DCtx → DE} {t : DCtx → DA} {du : DCtx → DS} {pos p p1 apos cpos : Pos} {x : Str}
include fam
theorem ss_open (h : PDSs F K ss du) : PDSs F K ss (fun c => dOpen (du c)) := by
  obtain ⟨t2, a2, l2⟩ := h.ex
  exact ⟨_, a2, fun Z h c r => ls_open (l2 Z h c r)⟩

/-! ### built-in things called -/
theorem pd_len (hm : mg "len" = none) (ha : PDA F K (e :: es) t) (hg : ∀ k, Gl (F.X k) "len" := by intro _; rfl) (he : ∀ k, starEach (e :: es) (F.X k).env = (false, eval e (F.X k).env) :: starEach es (F.X k).env := by intro _; rfl)
    (hpl : ∀ k, (backTo pos (starEach es (F.X k).env)).any (·.1) = false := by intro _; rfl) : PD F K (.Call (.Name "len" p) (e :: es) [] pos) (fun c => dCB rLen' (t c)) := pd_callB (callK (r := fun K xs H Q => ∃ x n, xs = [x] ∧ LenV K x H n ∧ Q (.int (n : Nat)) H) fun _ => call_len) (fun _ => lr_len) hm (by decide +kernel) ha hg (by decide) (by decide) he hpl
theorem pd_abs (hm : mg "abs" = none) (ha : PDA F K (e :: es) t) (hg : ∀ k, Gl (F.X k) "abs" := by intro _; rfl) (he : ∀ k, starEach (e :: es) (F.X k).env = (false, eval e (F.X k).env) :: starEach es (F.X k).env := by intro _; rfl)
    (hpl : ∀ k, (backTo pos (starEach es (F.X k).env)).any (·.1) = false := by intro _; rfl) : PD F K (.Call (.Name "abs" p) (e :: es) [] pos) (fun c => dCB rAbs' (t c)) := pd_callB (fun _ => call_abs) (fun _ => lr_abs) hm (by decide +kernel) ha hg (by decide) (by decide) he hpl
theorem pd_sum (hm : mg "sum" = none) (ha : PDA F K (e :: es) t) (hc : ∀ k, (F.X k).calm = true := by intro _; rfl) (hg : ∀ k, Gl (F.X k) "sum" := by intro _; rfl) (he : ∀ k, starEach (e :: es) (F.X k).env = (false, eval e (F.X k).env) :: starEach es (F.X k).env := by intro _; rfl)
    (hpl : ∀ k, (backTo pos (starEach es (F.X k).env)).any (·.1) = false := by intro _; rfl) : PD F K (.Call (.Name "sum" p) (e :: es) [] pos) (fun c => dCB rSum' (t c)) := pd_callB (callK (r := rSum) fun k => cr_sum (hc k)) (fun _ => lr_sum) hm (by decide +kernel) ha hg (by decide) (by decide) he hpl
theorem pd_int1 (hm : mg "int" = none) (ha : PDA F K (e :: es) t) (hg : ∀ k, Gl (F.X k) "int" := by intro _; rfl) (he : ∀ k, starEach (e :: es) (F.X k).env = (false, eval e (F.X k).env) :: starEach es (F.X k).env := by intro _; rfl)
    (hpl : ∀ k, (backTo pos (starEach es (F.X k).env)).any (·.1) = false := by intro _; rfl) : PD F K (.Call (.Name "int" p) (e :: es) [] pos) (fun c => dCB rInt' (t c)) := pd_callTy (fun _ => call_int1) (fun _ => lr_int) hm (by decide +kernel) ha hg (by decide) (by decide) he hpl
theorem pd_listOf (hm : mg "list" = none) (ha : PDA F K (e :: es) t) (hg : ∀ k, Gl (F.X k) "list" := by intro _; rfl) (he : ∀ k, starEach (e :: es) (F.X k).env = (false, eval e (F.X k).env) :: starEach es (F.X k).env := by intro _; rfl)
    (hpl : ∀ k, (backTo pos (starEach es (F.X k).env)).any (·.1) = false := by intro _; rfl) : PD F K (.Call (.Name "list" p) (e :: es) [] pos) (fun c => dCB rListOf' (t c)) :=
  pd_callTy (callK (r := fun K xs H Q => ∃ p ys, xs = [.ref p] ∧ (SqL K H p ys ∨ SqT K H p ys) ∧ ∀ l, H l = none → Q (.ref l) (upd H l (.lst ys))) fun _ => call_list_of) (fun _ => lr_listOf) hm (by decide +kernel) ha hg (by decide) (by decide) he hpl
theorem pd_listOfM (hm : mg "list" = none) (ha : PDA F K (e :: es) t) (hg : ∀ k, Gl (F.X k) "list" := by intro _; rfl) (he : ∀ k, starEach (e :: es) (F.X k).env = (false, eval e (F.X k).env) :: starEach es (F.X k).env := by intro _; rfl)
    (hpl : ∀ k, (backTo pos (starEach es (F.X k).env)).any (·.1) = false := by intro _; rfl) : PD F K (.Call (.Name "list" p) (e :: es) [] pos) (fun c => dCB rListOfM' (t c)) :=
  pd_callTy (callK (r := fun K xs H Q => ∃ p ys, xs = [.ref p] ∧ (SqL K H p ys ∨ SqT K H p ys) ∧ ∀ l, H l = none → Q (.ref l) (upd H l (.lst ys))) fun _ => call_list_of) (fun _ => lr_listOfM) hm (by decide +kernel) ha hg (by decide) (by decide) he hpl
theorem pd_tupOf (hm : mg "tuple" = none) (ha : PDA F K (e :: es) t) (hg : ∀ k, Gl (F.X k) "tuple" := by intro _; rfl) (he : ∀ k, starEach (e :: es) (F.X k).env = (false, eval e (F.X k).env) :: starEach es (F.X k).env := by intro _; rfl)
    (hpl : ∀ k, (backTo pos (starEach es (F.X k).env)).any (·.1) = false := by intro _; rfl) : PD F K (.Call (.Name "tuple" p) (e :: es) [] pos) (fun c => dCB rTupOf' (t c)) :=
  pd_callTy (callK (r := fun K xs H Q => ∃ p ys, xs = [.ref p] ∧ ((SqL K H p ys ∧ ∀ l, H l = none → Q (.ref l) (upd H l (.tup ys))) ∨ (SqT K H p ys ∧ Q (.ref p) H))) fun _ => call_tuple_of) (fun _ => lr_tupOf) hm (by decide +kernel) ha hg (by decide) (by decide) he hpl
/-! ### list(range(..)), tuple(range(..)) -/
def dRg1 (ta : DE) : DA := fun env S Q => ta env S fun x S1 => match x with
  | .int n => Q [.int 0, .int n] S1
  | _ => False
def dRg2 (ta tb : DE) : DA := fun env S Q => ta env S fun x S1 => tb env S1 fun y S2 => match x, y with
  | .int i, .int j => Q [.int i, .int j] S2
  | _, _ => False
def dLstRgM (t : DA) : DE := fun env S Q => t env S fun ds S1 => match ds with
  | [.int i, .int j] => RgOk i j ∧ ∀ a, S1 a = none → Q (.raw a) (updS S1 a (.lst (rngD i (j - i).toNat)))
  | _ => False
def dLstRg (t : DA) : DE := fun env S Q => t env S fun ds S1 => match ds with
  | [.int i, .int j] => RgOk i j ∧ Q (.lst (rngD i (j - i).toNat)) S1
  | _ => False
def dTupRg (t : DA) : DE := fun env S Q => t env S fun ds S1 => match ds with
  | [.int i, .int j] => RgOk i j ∧ Q (.tup (rngD i (j - i).toNat)) S1
  | _ => False
/-- a range made: its reading -/
structure LRg (K : PySem.W.Frag) (Z0 : Hp) (t : L2.St → Hp → (Int → Int → Hp → Prop) → Prop) (t' : DA) : Prop where
  run : ∀ (Z : Hp) (S : Sto) (H : Hp) (env : DEnv) (σ : L2.St) (Q : Int → Int → Hp → Prop) (Q' : List D → Sto → Prop), Same Z0 Z → RelE K Z env σ → Rel K Z S H → t' env S Q' →
    (∀ (Z' : Hp) (S' : Sto) (H' : Hp) (i j : Int), Same Z Z' → Rel K Z' S' H' → Q' [.int i, .int j] S' → Q i j H') → t σ H Q
omit fam in
theorem lrg_1 {Z0 : Hp} {ta : TE} {ta' : DE} (h : LE K Z0 ta ta') : LRg K Z0 (tRg1 ta) (dRg1 ta') := ⟨fun Z S H env σ Q Q' s0 re rl hh q =>
  h.run Z S H env σ _ _ s0 re rl hh fun Z1 S1 H1 d v s1 r1 p1 h1 => by
    split at h1
    · cases p1; exact ⟨_, rfl, q _ _ _ _ _ s1 r1 h1⟩
    · exact h1.elim⟩
omit fam in
theorem lrg_2 {Z0 : Hp} {ta tb : TE} {ta' tb' : DE} (h : LE K Z0 ta ta') (h2 : LE K Z0 tb tb') : LRg K Z0 (tRg2 ta tb) (dRg2 ta' tb') := ⟨fun Z S H env σ Q Q' s0 re rl hh q =>
  h.run Z S H env σ _ _ s0 re rl hh fun Z1 S1 H1 d v s1 r1 p1 h1 => h2.run Z1 S1 H1 env σ _ _ (s0.trans s1) (re.mono s1) r1 h1 fun Z2 S2 H2 d2 v2 s2 r2 p2 h2 => by
    split at h2
    · cases p1; cases p2; exact ⟨_, _, rfl, rfl, q _ _ _ _ _ (s1.trans s2) r2 h2⟩
    · exact h2.elim⟩
structure PDRg (F : Fm) (K : PySem.W.Frag) (e : Expr) (t' : DCtx → DA) : Prop where
  ex : ∃ t : HCtx → L2.St → Hp → (Int → Int → Hp → Prop) → Prop, (∀ i h, F.ok i h → PRg (F.X i) e (t h)) ∧ ∀ Z0 h c, RC K Z0 h c → LRg K Z0 (t h) (t' c)
theorem rg_1 (hm : mg "range" = none) (ha : PD F K a ta) (hg : ∀ k, Gl (F.X k) "range" := by intro _; rfl) (na : ∀ k, starEach [a] (F.X k).env = (false, eval a (F.X k).env) :: starEach [] (F.X k).env := by intro _; rfl) :
    PDRg F K (.Call (.Name "range" p) [a] [] pos) (fun c => dRg1 (ta c)) := by
  obtain ⟨t1, a1, l1⟩ := ha.ex
  exact ⟨_, fun k h q => prg_1 (hg k) (by rw [fam.mg k]; exact hm) (a1 k h q) (na k), fun Z h c r => lrg_1 (l1 Z h c r)⟩
theorem rg_2 (hm : mg "range" = none) (ha : PD F K a ta) (hb : PD F K b tb) (hg : ∀ k, Gl (F.X k) "range" := by intro _; rfl) (na : ∀ k, starEach [a, b] (F.X k).env = (false, eval a (F.X k).env) :: starEach [b] (F.X k).env := by intro _; rfl)
    (nb : ∀ k, starEach [b] (F.X k).env = (false, eval b (F.X k).env) :: starEach [] (F.X k).env := by intro _; rfl) (hp : ∀ k, (backTo pos (starEach [b] (F.X k).env)).any (·.1) = false := by intro _; rfl) : PDRg F K (.Call (.Name "range" p) [a, b] [] pos) (fun c => dRg2 (ta c) (tb c)) := by
  obtain ⟨t1, a1, l1⟩ := ha.ex
  obtain ⟨t2, a2, l2⟩ := hb.ex
  exact ⟨_, fun k h q => prg_2 (hg k) (by rw [fam.mg k]; exact hm) (a1 k h q) (a2 k h q) (na k) (nb k) (hp k), fun Z h c r => lrg_2 (l1 Z h c r) (l2 Z h c r)⟩
omit fam in
theorem reps_rg {K : PySem.W.Frag} {Z : Hp} {i j : Int} : Reps K Z (rngD i (j - i).toNat) (rgV i j) := by
  unfold rngD rgV
  generalize List.range (j - i).toNat = l
  induction l with
  | nil => exact .nil
  | cons a l ih => exact .cons (.int _) ih
theorem pd_lstRgM (hm : mg "list" = none) (hr : PDRg F K e t) (hc : ∀ k, (F.X k).calm = true := by intro _; rfl) (hg : ∀ k, Gl (F.X k) "list" := by intro _; rfl) (na : ∀ k, starEach [e] (F.X k).env = (false, eval e (F.X k).env) :: starEach [] (F.X k).env := by intro _; rfl) :
    PD F K (.Call (.Name "list" p) [e] [] pos) (fun c => dLstRgM (t c)) := by
  obtain ⟨t1, a1, l1⟩ := hr.ex
  refine ⟨_, fun k h q => pe_listRg (hc k) (hg k) (by rw [fam.mg k]; exact hm) (a1 k h q) (na k), fun Z h c r => ⟨fun Z S H env σ Q Q' s0 re rl hh q => ?_⟩⟩
  refine (l1 _ h c r).run Z S H env σ _ _ s0 re rl hh fun Z1 S1 H1 i j s1 r1 h1 => ⟨h1.1, fun p hp => ?_⟩
  obtain ⟨r2, n2⟩ := r1.new (o := .lst (rngD i (j - i).toNat)) (u := .lst (rgV i j)) hp ⟨_, rfl, reps_rg⟩
  exact q _ _ _ _ _ s1 r2 (.raw p) (h1.2 p n2)
theorem pd_lstRg (hm : mg "list" = none) (hr : PDRg F K e t) (hc : ∀ k, (F.X k).calm = true := by intro _; rfl) (hg : ∀ k, Gl (F.X k) "list" := by intro _; rfl) (na : ∀ k, starEach [e] (F.X k).env = (false, eval e (F.X k).env) :: starEach [] (F.X k).env := by intro _; rfl) :
    PD F K (.Call (.Name "list" p) [e] [] pos) (fun c => dLstRg (t c)) := by
  obtain ⟨t1, a1, l1⟩ := hr.ex
  refine ⟨_, fun k h q => pe_listRg (hc k) (hg k) (by rw [fam.mg k]; exact hm) (a1 k h q) (na k), fun Z h c r => ⟨fun Z S H env σ Q Q' s0 re rl hh q => ?_⟩⟩
  refine (l1 _ h c r).run Z S H env σ _ _ s0 re rl hh fun Z1 S1 H1 i j s1 r1 h1 => ⟨h1.1, fun p hp => ?_⟩
  obtain ⟨r2, s2⟩ := r1.laid (o := .lst (rgV i j)) hp
  exact q _ _ _ _ _ (s1.trans s2) r2 (.lst upd_same reps_rg) h1.2
theorem pd_tupRg (hm : mg "tuple" = none) (hr : PDRg F K e t) (hc : ∀ k, (F.X k).calm = true := by intro _; rfl) (hg : ∀ k, Gl (F.X k) "tuple" := by intro _; rfl) (na : ∀ k, starEach [e] (F.X k).env = (false, eval e (F.X k).env) :: starEach [] (F.X k).env := by intro _; rfl) :
    PD F K (.Call (.Name "tuple" p) [e] [] pos) (fun c => dTupRg (t c)) := by
  obtain ⟨t1, a1, l1⟩ := hr.ex
  refine ⟨_, fun k h q => pe_tupRg (hc k) (hg k) (by rw [fam.mg k]; exact hm) (a1 k h q) (na k), fun Z h c r => ⟨fun Z S H env σ Q Q' s0 re rl hh q => ?_⟩⟩
  refine (l1 _ h c r).run Z S H env σ _ _ s0 re rl hh fun Z1 S1 H1 i j s1 r1 h1 => ⟨h1.1, fun p hp => ?_⟩
  obtain ⟨r2, s2⟩ := r1.laid (o := .tup (rgV i j)) hp
  exact q _ _ _ _ _ (s1.trans s2) r2 (.tup upd_same reps_rg) h1.2
/-! ### methods of lists -/
theorem pd_append (ho : PD F K o to) (ha : PDA F K (e :: es) t) (hbase : ∀ k, attributeBase o "append" (F.X k).env (eval o (F.X k).env) = eval o (F.X k).env := by intro _; rfl)
    (hfew : ∀ k, ((backTo cpos (starEach (e :: es) (F.X k).env)).all (fun x => !x.1) && (backToKw cpos (keywordEach [] (F.X k).env)).all (fun x => x.1.isSome) && decide ((e :: es).length + ([] : List Keyword).length + (if ([] : List Keyword).isEmpty then 0 else 1) < 30)) = true := by intro _; rfl)
    (hline : (apos.endLine == cpos.line) = true := by rfl) (hs : ∀ k, starEach (e :: es) (F.X k).env = (false, eval e (F.X k).env) :: starEach es (F.X k).env := by intro _; rfl) (hplain : ∀ k, (backTo cpos (starEach es (F.X k).env)).any (·.1) = false := by intro _; rfl) :
    PD F K (.Call (.Attribute o "append" apos) (e :: es) [] cpos) (fun c => dBM rAppend' (to c) (t c)) := pd_bm PySem.F.slot_list_append rfl (fun _ => mt_append) (fun _ => lm_append) ho ha hbase hfew hline hs hplain
theorem pd_insert (ho : PD F K o to) (ha : PDA F K (e :: es) t) (hbase : ∀ k, attributeBase o "insert" (F.X k).env (eval o (F.X k).env) = eval o (F.X k).env := by intro _; rfl)
    (hfew : ∀ k, ((backTo cpos (starEach (e :: es) (F.X k).env)).all (fun x => !x.1) && (backToKw cpos (keywordEach [] (F.X k).env)).all (fun x => x.1.isSome) && decide ((e :: es).length + ([] : List Keyword).length + (if ([] : List Keyword).isEmpty then 0 else 1) < 30)) = true := by intro _; rfl)
    (hline : (apos.endLine == cpos.line) = true := by rfl) (hs : ∀ k, starEach (e :: es) (F.X k).env = (false, eval e (F.X k).env) :: starEach es (F.X k).env := by intro _; rfl) (hplain : ∀ k, (backTo cpos (starEach es (F.X k).env)).any (·.1) = false := by intro _; rfl) :
    PD F K (.Call (.Attribute o "insert" apos) (e :: es) [] cpos) (fun c => dBM rInsert' (to c) (t c)) := pd_bm PySem.F.slot_list_insert rfl (fun _ => mt_insert) (fun _ => lm_insert) ho ha hbase hfew hline hs hplain
theorem pd_popAt (ho : PD F K o to) (ha : PDA F K (e :: es) t) (hbase : ∀ k, attributeBase o "pop" (F.X k).env (eval o (F.X k).env) = eval o (F.X k).env := by intro _; rfl)
    (hfew : ∀ k, ((backTo cpos (starEach (e :: es) (F.X k).env)).all (fun x => !x.1) && (backToKw cpos (keywordEach [] (F.X k).env)).all (fun x => x.1.isSome) && decide ((e :: es).length + ([] : List Keyword).length + (if ([] : List Keyword).isEmpty then 0 else 1) < 30)) = true := by intro _; rfl)
    (hline : (apos.endLine == cpos.line) = true := by rfl) (hs : ∀ k, starEach (e :: es) (F.X k).env = (false, eval e (F.X k).env) :: starEach es (F.X k).env := by intro _; rfl) (hplain : ∀ k, (backTo cpos (starEach es (F.X k).env)).any (·.1) = false := by intro _; rfl) :
    PD F K (.Call (.Attribute o "pop" apos) (e :: es) [] cpos) (fun c => dBM rPopAt' (to c) (t c)) := pd_bm PySem.F.slot_list_pop rfl (fun _ => mt_popAt) (fun _ => lm_popAt) ho ha hbase hfew hline hs hplain
theorem pd_pop (ho : PD F K o to) (hbase : ∀ k, attributeBase o "pop" (F.X k).env (eval o (F.X k).env) = eval o (F.X k).env := by intro _; rfl) (hline : (apos.endLine == cpos.line) = true := by rfl) :
    PD F K (.Call (.Attribute o "pop" apos) [] [] cpos) (fun c => dBM rPop' (to c) dNil) := pd_bm0 PySem.F.slot_list_pop rfl (fun _ => mt_pop) (fun _ => lm_pop) ho hbase hline
theorem pd_reverse (ho : PD F K o to) (hbase : ∀ k, attributeBase o "reverse" (F.X k).env (eval o (F.X k).env) = eval o (F.X k).env := by intro _; rfl) (hline : (apos.endLine == cpos.line) = true := by rfl) :
    PD F K (.Call (.Attribute o "reverse" apos) [] [] cpos) (fun c => dBM rReverse' (to c) dNil) := pd_bm0 PySem.F.slot_list_reverse rfl (fun _ => mt_reverse) (fun _ => lm_reverse) ho hbase hline
end
end DL
end

section
set_option Elab.async false
set_option linter.all false
set_option autoImplicit false
set_option maxRecDepth 100000
set_option maxHeartbeats 2000000
/-! DL13: the readings unfolded, each only where it is applied. -/
namespace DL
open PySem PySem.Spec PyProof.Rows L2

section
variable {env : DEnv} {S : Sto} {Q : DV} {ta tb tc te : DE} {tt uu : DT} {t : DA} {E : DEnds} {du ds : DS} {QB : Bool → Sto → Prop} {QA : List D → Sto → Prop} {QG : DEnv → Sto → Prop} {QO : Option Int → Sto → Prop}
theorem x_C {d : D} : dC d env S Q = Q d S := rfl
theorem x_V0 {d : D} {r : DEnv} : dVar 0 (some d :: r) S Q = Q d S := rfl
theorem x_V {i : Nat} {o : Option D} {r : DEnv} : dVar (i + 1) (o :: r) S Q = dVar i r S Q := rfl
theorem x_op {r : R2'} : dOp r ta tb env S Q = ta env S fun x S1 => tb env S1 fun y S2 => r x y S2 Q := rfl
theorem x_I {C : Int → Int → Prop} {g : Int → Int → D} {i j : Int} : rI' C g (.int i) (.int j) S Q = (C i j ∧ Q (g i j) S) := rfl
theorem x_I0 {g : Int → Int → D} {i j : Int} : rI0' g (.int i) (.int j) S Q = Q (g i j) S := rfl
theorem x_addI {i j : Int} : rAdd' (.int i) (.int j) S Q = Q (.int (i + j)) S := rfl
theorem x_addT {i j : List D} : rAdd' (.tup i) (.tup j) S Q = (i.length + j.length ≤ sizeLine ∧ Q (.tup (i ++ j)) S) := rfl
theorem x_B : dB te env S QB = te env S fun x S1 => match x with
  | .bl b => QB b S1
  | _ => False := rfl
theorem x_And : dAnd tt uu env S QB = tt env S fun c S1 => if c = true then uu env S1 QB else QB false S1 := rfl
theorem x_Or : dOr tt uu env S QB = tt env S fun c S1 => if c = true then QB true S1 else uu env S1 QB := rfl
theorem x_Not : dNot tt env S QB = tt env S fun c S1 => QB (!c) S1 := rfl
theorem x_Tru : dTru te env S QB = te env S fun x S1 => match truD S1 x with
  | some k => QB k S1
  | none => False := rfl
theorem x_AndT : dAndT ta tb env S Q = ta env S fun x S1 => match truD S1 x with
  | some k => if k = true then tb env S1 Q else Q x S1
  | none => False := rfl
theorem x_OrT : dOrT ta tb env S Q = ta env S fun x S1 => match truD S1 x with
  | some k => if k = true then Q x S1 else tb env S1 Q
  | none => False := rfl
theorem x_NotT : dNotT ta env S Q = ta env S fun x S1 => match truD S1 x with
  | some k => Q (.bl (!k)) S1
  | none => False := rfl
theorem x_If : dIf tt ta tb env S Q = tt env S fun c S1 => if c = true then ta env S1 Q else tb env S1 Q := rfl
theorem x_nil : dNil env S QA = QA [] S := rfl
theorem x_cons : dCons ta t env S QA = ta env S fun x S1 => t env S1 fun xs S2 => QA (x :: xs) S2 := rfl
theorem x_Tup : dTup t env S Q = t env S fun ds S1 => ds.length ≤ sizeLine ∧ Q (.tup ds) S1 := rfl
theorem x_Lst : dLst t env S Q = t env S fun ds S1 => ds.length ≤ sizeLine ∧ Q (.lst ds) S1 := rfl
theorem x_LstM : dLstM t env S Q = t env S fun ds S1 => ds.length ≤ sizeLine ∧ ∀ a, S1 a = none → Q (.raw a) (updS S1 a (.lst ds)) := rfl
theorem x_CB {r : RL'} : dCB r t env S Q = t env S fun ds S1 => r ds S1 Q := rfl
theorem x_Chain {r r' : R2'} : dChain r r' ta tb tc env S Q = ta env S fun x S1 => tb env S1 fun y S2 => r x y S2 fun z S3 => match z with
  | .bl k => if k = true then tc env S3 fun w S4 => r' y w S4 Q else Q (.bl false) S3
  | _ => False := rfl
theorem x_UnI {g : Int → Int} : dUnI g ta env S Q = ta env S fun x S1 => match x with
  | .int i => Q (.int (g i)) S1
  | _ => False := rfl
theorem x_int {i : Int} : rInt' [.int i] S Q = Q (.int i) S := rfl
theorem x_abs {i : Int} : rAbs' [.int i] S Q = Q (.int (if i < 0 then -i else i)) S := rfl
theorem x_lenT {es : List D} : rLen' [.tup es] S Q = Q (.int es.length) S := rfl
theorem x_lenL {es : List D} : rLen' [.lst es] S Q = Q (.int es.length) S := rfl
theorem x_len {d : D} {es : List D} (h : asQ S d = some es) : rLen' [d] S Q = Q (.int es.length) S := by
  unfold rLen'
  cases d with
  | str z => cases h
  | _ => simp only [h]
theorem x_listOfT {es : List D} : rListOf' [.tup es] S Q = Q (.lst es) S := rfl
theorem x_listOfL {es : List D} : rListOf' [.lst es] S Q = Q (.lst es) S := rfl
theorem x_listOf {d : D} {es : List D} (h : asQ S d = some es) : rListOf' [d] S Q = Q (.lst es) S := by unfold rListOf'; simp only [h]
theorem x_tupOfT {es : List D} : rTupOf' [.tup es] S Q = Q (.tup es) S := rfl
theorem x_tupOfL {es : List D} : rTupOf' [.lst es] S Q = Q (.tup es) S := rfl
theorem x_tupOf {d : D} {es : List D} (h : asQ S d = some es) : rTupOf' [d] S Q = Q (.tup es) S := by unfold rTupOf'; simp only [h]
theorem x_call {F : DF} {dds : List D} {W' : DW} : dCall F dds W' t env S Q = t env S fun ds S1 => F (ds ++ dds) S1 Q (fun C fs S' => W' C fs env S') := rfl
theorem x_make {C : Addr} {G : DF} {dds : List D} {W' : DW} : dMake C G dds W' t env S Q = t env S fun ds S1 => ∀ x, S1 x = none →
  G (.raw x :: (ds ++ dds)) (updS S1 x (.ins C [])) (fun d S2 => d = .non ∧ ∃ fs, S2 x = some (.ins C fs) ∧ Q (.ins C fs) (delS S2 x)) (fun C' fs S' => W' C' fs env S') := rfl
theorem x_BM {r : RM'} : dBM r ta t env S Q = ta env S fun x S1 => (asL S1 x).isSome = true ∧ t env S1 fun ds S2 => r x ds S2 Q := rfl
theorem x_NoPart : dNoPart env S QO = QO none S := rfl
theorem x_Part : dPart ta env S QO = ta env S fun x S1 => match x with
  | .int i => QO (some i) S1
  | _ => False := rfl
theorem x_Sl {tl th : DO} : dSl te tl th env S Q = te env S fun x S1 => tl env S1 fun l S2 => th env S2 fun u S3 => match x with
  | .str z => z.length ≤ sizeLine ∧ Q (.str (cutS z l u)) S3
  | .tup ds => Q (.tup (cutD ds l u)) S3
  | x => (match asL S3 x with
    | some ds => Q (.lst (cutD ds l u)) S3
    | none => False) := rfl
theorem x_Fld {C C' : Addr} {f : Str} {fs : List (Str × D)} : dFld C f (dC (.ins C' fs)) env S Q = (C' = C ∧ (match fs.lookup f with
    | some d => Q d S
    | none => False)) := rfl
theorem x_Fld' {C : Addr} {f : Str} : dFld C f ta env S Q = ta env S fun x S1 => match insOf S1 x with
  | some (C', fs) => C' = C ∧ (match fs.lookup f with
    | some d => Q d S1
    | none => False)
  | none => False := rfl
theorem x_gName {i : Nat} {d : D} : dgName i d env S QG = QG (env.set i (some d)) S := rfl
theorem x_gNil : dgNil [] env S QG = QG env S := rfl
theorem x_gCons {g : DG} {u : DGs} {d : D} {r : List D} : dgCons g u (d :: r) env S QG = g d env S fun env' S' => u r env' S' QG := rfl
theorem x_gTup {n : Nat} {u : DGs} {ds : List D} : dgTup n u (.tup ds) env S QG = (ds.length = n ∧ u ds env S QG) := rfl
theorem x_next : dNext E env S = E.nx env S := rfl
theorem x_brk : dBreak E env S = E.bk env S := rfl
theorem x_cont : dCont E env S = E.ct env S := rfl
theorem x_drop : dDrop ta E env S = ta env S fun _ S1 => E.nx env S1 := rfl
theorem x_ret : dRet ta E env S = ta env S E.rt := rfl
theorem x_retG : dRetG ta E env S = ta env S fun d S1 => ∃ d2 S2, GhR S1 d S2 d2 ∧ E.rt d2 S2 := rfl
theorem x_ifS : dIfS tt ds du E env S = tt env S fun b S1 => if b = true then ds E env S1 else du E env S1 := rfl
theorem x_asg {g : DG} : dAsg ta g E env S = ta env S fun x S1 => g x env S1 E.nx := rfl
theorem x_raise {C : Addr} {names : List Str} {W' : DW} : dRaise C names W' t E env S = t env S fun ds S1 => ds.length = names.length ∧ W' C ((names.zip ds).reverse) env S1 := rfl
theorem x_augI {f : Int → Int → Int} {i : Nat} {a : Int} (h : env[i]? = some (some (.int a))) : dAugI f i te E env S = te env S fun y S1 => (match y with
    | .int b => E.nx (env.set i (some (.int (f a b)))) S1
    | _ => False) := by unfold dAugI; simp only [h] <;> rfl
/-- one statement of a block: what follows is kept shut -/
theorem x_seq (h : ∀ R : DEnv → Sto → Prop, (∀ e s, du E e s → R e s) → ds { nx := R, rt := E.rt, bk := E.bk, ct := E.ct } env S) : dSeq ds du E env S := h (du E) fun _ _ z => z
theorem x_isi {K : PySem.W.Frag} {n a : Ty} {d : D} (h : tyD S d = some a) : rIsi' K [d, .ty n] S Q = (n ≠ .none ∧ Q (.bl (subT a n)) S) := by unfold rIsi'; simp only [h]
theorem x_isiO {K : PySem.W.Frag} {c d : D} {b : Bool} (h : OwnI K S d c b) (n : tyD S d = none ∨ ∃ a, c = .raw a) (q : Q (.bl b) S) : rIsi' K [d, c] S Q := by
  unfold rIsi'
  split
  · rename_i d' n' e
    cases e
    rcases n with n | ⟨a, n⟩
    · simp only [n]; exact ⟨b, h, q⟩
    · cases n
  · rename_i e
    cases e
    exact ⟨b, h, q⟩
  · rename_i h1 h2
    exact absurd rfl (h2 d c)
theorem x_isiT {ns : List Ty} : dIsiT ns ta env S Q = ta env S fun x S1 => match tyD S1 x with
  | some a => Q (.bl (ns.any fun n => subT a n)) S1
  | none => False := rfl
end
section
variable {env : DEnv} {S : Sto} {te : DE} {wi : DI} {g : DG} {tb ds : DS} {E : DEnds} {R : List D → (Sto → Prop) → Sto → Prop} {t : DA} {c : DT}
theorem x_for : dFor wi g tb E env S = wi env S fun items G S1 => ∃ P : Nat → DEnv → Sto → Prop, P 0 env S1 ∧ (∀ i env S, P i env S → G S) ∧
  (∀ i x env S, items[i]? = some x → P i env S → g x env S fun env2 S2 => tb { E with nx := P (i + 1), ct := P (i + 1), bk := E.nx } env2 S2) ∧ (∀ env S, P items.length env S → E.nx env S) := rfl
theorem x_while : dWhile c tb E env S = ∃ P : Nat → DEnv → Sto → Prop, (∃ m, P m env S) ∧ ∀ m env S, P m env S →
  c env S fun b S1 => if b = true then tb { E with nx := fun e s => ∃ m', m' < m ∧ P m' e s, ct := fun e s => ∃ m', m' < m ∧ P m' e s, bk := E.nx } env S1 else E.nx env S1 := rfl
theorem x_iSeq : diSeq te env S R = te env S fun x S1 => match x with
  | .raw a => (match S1 a with
    | some (.lst ds) => R ds (fun S => S a = some (.lst ds)) S1
    | _ => False)
  | x => (match asQ S1 x with
    | some ds => R ds (fun _ => True) S1
    | none => False) := rfl
theorem as_lst {es : List D} : asQ S (.lst es) = some es := rfl
theorem as_tup {es : List D} : asQ S (.tup es) = some es := rfl
theorem x_iRng1 : diRng1 t env S R = t env S fun ds S1 => match ds with
  | [.int j] => -(2 ^ 62) ≤ j ∧ j < 2 ^ 62 ∧ R (rngD 0 j.toNat) (fun _ => True) S1
  | _ => False := rfl
theorem x_iRng2 : diRng2 t env S R = t env S fun ds S1 => match ds with
  | [.int i, .int j] => (-(2 ^ 62) ≤ i ∧ i < 2 ^ 62 ∧ -(2 ^ 62) ≤ j ∧ j < 2 ^ 62) ∧ R (rngD i (j - i).toNat) (fun _ => True) S1
  | _ => False := rfl
theorem x_iEnum : diEnum t env S R = t env S fun ds S1 => match ds with
  | [.raw a] => (match S1 a with
    | some (.lst es) => R (enumD es) (fun S => S a = some (.lst es)) S1
    | _ => False)
  | [x] => (match asQ S1 x with
    | some es => R (enumD es) (fun _ => True) S1
    | none => False)
  | _ => False := rfl
theorem x_lc {wi : DI} {g : DG} {tt : DT} {vs : List Nat} {Q : DV} : dLc wi g tt te vs env S Q = wi env S fun items G S1 => ∃ P : Nat → List D → Sto → Prop, P 0 [] S1 ∧ (∀ i acc S Dd o, P i acc S → S Dd = none → G (updS S Dd o)) ∧
  (∀ i x acc S Dd o, items[i]? = some x → P i acc S → S Dd = none → g x (wipeD env vs) (updS S Dd o) fun env2 S2 => tt env2 S2 fun b S3 =>
    if b = true then te env2 S3 fun y S4 => acc.length < sizeLine ∧ S4 Dd = some o ∧ P (i + 1) (acc ++ [y]) (delS S4 Dd) else S3 Dd = some o ∧ P (i + 1) acc (delS S3 Dd)) ∧
  (∀ acc S, P items.length acc S → Q (.lst acc) S) := rfl
theorem x_lcM {wi : DI} {g : DG} {tt : DT} {vs : List Nat} {Q : DV} : dLcM wi g tt te vs env S Q = wi env S fun items G S1 => ∃ P : Nat → List D → Sto → Prop, P 0 [] S1 ∧ (∀ i acc S Dd o, P i acc S → S Dd = none → G (updS S Dd o)) ∧
  (∀ i x acc S Dd o, items[i]? = some x → P i acc S → S Dd = none → g x (wipeD env vs) (updS S Dd o) fun env2 S2 => tt env2 S2 fun b S3 =>
    if b = true then te env2 S3 fun y S4 => acc.length < sizeLine ∧ S4 Dd = some o ∧ P (i + 1) (acc ++ [y]) (delS S4 Dd) else S3 Dd = some o ∧ P (i + 1) acc (delS S3 Dd)) ∧
  (∀ acc S a, P items.length acc S → S a = none → Q (.raw a) (updS S a (.lst acc))) := rfl
theorem x_yes {Q : Bool → Sto → Prop} : dYes env S Q = Q true S := rfl
theorem x_append {S : Sto} {a : Addr} {es : List D} {y : D} {Q : DV} (h : ownL S (.raw a) = some (a, es)) : rAppend' (.raw a) [y] S Q = (es.length < sizeLine ∧ Q .non (updS S a (.lst (es ++ [y])))) := by unfold rAppend'; simp only [h]
theorem x_Rg1 {ta : DE} {QA : List D → Sto → Prop} : dRg1 ta env S QA = ta env S fun x S1 => match x with
  | .int n => QA [.int 0, .int n] S1
  | _ => False := rfl
theorem x_Rg2 {ta tb : DE} {QA : List D → Sto → Prop} : dRg2 ta tb env S QA = ta env S fun x S1 => tb env S1 fun y S2 => match x, y with
  | .int i, .int j => QA [.int i, .int j] S2
  | _, _ => False := rfl
theorem x_gSub {to ti : DE} {d : D} {Q : DEnv → Sto → Prop} : dgSub to ti d env S Q = to env S fun o S1 => ti env S1 fun i S2 => match ownL S2 o, i with
  | some (a, ds), .int k => (match ixN ds.length k with
    | some j => Q env (updS S2 a (.lst (ds.set j d)))
    | none => False)
  | _, _ => False := rfl
theorem x_ixQ {Q : DV} {d : D} {i : Int} {es : List D} (h : asQ S d = some es) : rIx' d (.int i) S Q = (match atI es i with
      | some d => Q d S
      | none => False) := by
  cases d with
  | str z => cases h
  | _ => simp only [rIx', h] <;> rfl
theorem x_ixT {Q : DV} {i : Int} {es : List D} : rIx' (.tup es) (.int i) S Q = (match atI es i with
      | some d => Q d S
      | none => False) := rfl
theorem x_ixL {Q : DV} {i : Int} {es : List D} : rIx' (.lst es) (.int i) S Q = (match atI es i with
      | some d => Q d S
      | none => False) := rfl
theorem x_eqI {Q : DV} {i j : Int} : rEq' (.int i) (.int j) S Q = Q (.bl (i == j)) S := propext ⟨fun h => h.2.2, fun h => ⟨rfl, rfl, h⟩⟩
theorem x_neI {Q : DV} {i j : Int} : rNe' (.int i) (.int j) S Q = Q (.bl (!(i == j))) S := propext ⟨fun h => h.2.2, fun h => ⟨rfl, rfl, h⟩⟩
theorem as_upd {h : Addr} {es : List D} : asQ (updS S h (.lst es)) (.raw h) = some es := by simp only [asQ, asL, updS_same]
theorem asl_upd {h : Addr} {es : List D} : asL (updS S h (.lst es)) (.raw h) = some es := by simp only [asL, updS_same]
theorem own_upd {h : Addr} {es : List D} : ownL (updS S h (.lst es)) (.raw h) = some (h, es) := by simp only [ownL, updS_same]
theorem atI_ok {α : Type} {xs : List α} {i : Int} (h0 : 0 ≤ i) (h1 : i < xs.length) : atI xs i = xs[i.toNat]? := by
  unfold atI ixN
  rw [if_pos h0, if_pos h1]
  rfl
theorem tr_bl {b : Bool} : truD S (.bl b) = some b := rfl
theorem tr_int {i : Int} : truD S (.int i) = some (i != 0) := rfl
end
end DL
end

section
set_option Elab.async false
set_option linter.all false
set_option autoImplicit false
set_option maxRecDepth 100000
set_option maxHeartbeats 2000000
/-! DL14: the script as it comes (a list, maybe frozen); own exceptions' __init__; what leaves a law. -/
namespace DL
open PySem PySem.Spec PyProof.Rows L2

/-! ### the script -/
def scrP (ns : List Int) : Pr := ⟨fun _ u => u = .lst (ns.map V.int) ∨ ∃ o, u = .frz o (.lst (ns.map V.int)), fun _ _ _ _ h => h⟩
/-- a list of the module's own -/
def KeptL (K : PySem.W.Frag) (a : Addr) (ns : List Int) : Prop := ∃ (o : Obj) (its : Array Value) (n : Nat), K.lookup a = some o ∧ o.cls = .type "list" ∧ o.dict = none ∧ o.data = .seq its n ∧ its.size ≤ sizeLine ∧ Vals (ns.map V.int) its.toList
def IsScr (K : PySem.W.Frag) (S : Sto) (a : Addr) (ns : List Int) : Prop := S a = some (.abs (scrP ns)) ∨ KeptL K a ns
theorem IsScr.upd {K : PySem.W.Frag} {S : Sto} {a b : Addr} {ns : List Int} {o : O} (h : IsScr K S a ns) (hb : S b = none) : IsScr K (updS S b o) a ns := by
  rcases h with h | h
  · exact .inl (by rw [updS_ne (neS h hb)]; exact h)
  · exact .inr h
def rLenS' (K : PySem.W.Frag) : RL' := fun ds S Q => match ds with
  | [.raw a] => ∃ ns : List Int, IsScr K S a ns ∧ Q (.int ns.length) S
  | _ => False
def diSeqS (K : PySem.W.Frag) (te : DE) : DI := fun env S R => te env S fun x S1 => ∃ a ns, x = .raw a ∧ IsScr K S1 a ns ∧ R (ns.map D.int) (fun S => IsScr K S a ns) S1
section
variable {K : PySem.W.Frag} {Z0 : Hp} {te : TE} {te' : DE}
theorem Rel.scr {Z : Hp} {S : Sto} {H : Hp} (r : Rel K Z S H) {a : Addr} {ns : List Int} (e : IsScr K S a ns) : SqL K H a (ns.map V.int) := by
  rcases e with e | e
  · obtain ⟨_, u, h1, h2⟩ := r.own a _ e
    rcases h2 with h2 | ⟨o, h2⟩
    · exact .inl (.inl (by rw [h1, h2]))
    · exact .inl (.inr ⟨o, by rw [h1, h2]⟩)
  · exact .inr e
theorem lr_lenS : LR K Z0 (fun xs H Q => ∃ x n, xs = [x] ∧ LenV K x H n ∧ Q (.int (n : Nat)) H) (rLenS' K) := ⟨fun Z S H xs ds Q Q' s0 rl pr h q => by
  unfold rLenS' at h
  split at h
  · obtain ⟨v, rfl, p⟩ := one_of pr
    cases p
    obtain ⟨ns, e, h⟩ := h
    refine ⟨_, (ns.map V.int).length, rfl, .inl ⟨_, rl.scr e, rfl⟩, ?_⟩
    rw [List.length_map]
    exact q _ _ _ _ _ (Same.refl _) rl (.int _) h
  · exact h.elim⟩
theorem wd_scr {Z : Hp} {a : Addr} {ns : List Int} : WalkD K Z (Itl K a) (ns.map D.int) (fun S => IsScr K S a ns) := by
  refine ⟨fun Z' S H i s r g hi => ?_, fun Z' S H s r g => ?_, fun Z' S H i x H' s r g hi y => ?_⟩
  · exact (walk_list (xs := ns.map V.int)).goes i H (by rw [List.length_map] at hi ⊢; exact hi) (r.scr g)
  · rw [List.length_map]
    have := (walk_list (xs := ns.map V.int)).stops H (r.scr g)
    rw [List.length_map] at this
    exact this
  · obtain ⟨e, hx⟩ := (walk_list (xs := ns.map V.int)).yields i H x H' (by rw [List.length_map] at hi ⊢; exact hi) (r.scr g) y
    subst e
    rw [List.getElem?_map] at hx
    obtain ⟨n, hn, rfl⟩ := Option.map_eq_some_iff.mp hx
    exact ⟨Z', .int n, Same.refl _, r, by rw [List.getElem?_map, hn]; rfl, .int n⟩
theorem li_seqS (h : LE K Z0 te te') : LI K Z0 (iSeq K te) (diSeqS K te') := ⟨fun Z S H env σ R R' s0 re rl hh q =>
  h.run Z S H env σ _ _ s0 re rl hh fun Z1 S1 H1 d v s1 r1 p1 h1 => by
    obtain ⟨a, ns, rfl, e, h1⟩ := h1
    cases p1
    exact ⟨a, rfl, .inl ⟨⟨_, r1.scr e⟩, q _ _ _ _ _ _ s1 r1 wd_scr h1⟩⟩⟩
end
section
variable {F : Fm} {K : PySem.W.Frag} {P : Program} {w : World} {mg : Str → Option Value} {base : Heap} [fam : Fam F P w K mg base]
variable {e : Expr} {es : List Expr} {te : DCtx → DE} {t : DCtx → DA} {pos p : Pos}
include fam
theorem pd_lenS (hm : mg "len" = none) (ha : PDA F K (e :: es) t) (hg : ∀ k, Gl (F.X k) "len" := by intro _; rfl) (he : ∀ k, starEach (e :: es) (F.X k).env = (false, eval e (F.X k).env) :: starEach es (F.X k).env := by intro _; rfl)
    (hpl : ∀ k, (backTo pos (starEach es (F.X k).env)).any (·.1) = false := by intro _; rfl) : PD F K (.Call (.Name "len" p) (e :: es) [] pos) (fun c => dCB (rLenS' K) (t c)) := pd_callB (callK (r := fun K xs H Q => ∃ x n, xs = [x] ∧ LenV K x H n ∧ Q (.int (n : Nat)) H) fun _ => call_len) (fun _ => lr_lenS) hm (by decide +kernel) ha hg (by decide) (by decide) he hpl
theorem i_seqS {tg : Expr} (h : PD F K e te) : PDI F K tg e (fun c => diSeqS K (te c)) := by
  obtain ⟨t1, a1, l1⟩ := h.ex
  exact ⟨_, fun k h q => by have hh := pi_seq (tg := tg) (a1 k h q); rw [fam.k k] at hh; exact hh, fun Z h c r => li_seqS (l1 Z h c r)⟩
end

/-! ### own exceptions -/
def oexB (K : PySem.W.Frag) (C : Addr) : Bool := (match K.lookup C with
    | some ⟨.type "type", _, .cls cd, sl⟩ => (match cd.mro, sl.toList with
      | .ref C' :: bm, [_, _, _, _, some (.builtin n), _] => C' == C && n == "ValueError.__new__" && !cd.hasDel && cd.hasDict && PySem.HandSPX.refsVE bm
      | _, _ => false)
    | _ => false) && (decide (PySem.W.findIn K (.ref C) "__setattr__" = some (some (.builtin "object.__setattr__"))) && (decide (PySem.W.subIn K (.ref C) (.type "BaseException") = some true) && (decide (PySem.W.typeIn K (.ref C) = some (.type "type")) && PySem.W.keepIn K (.ref C))))
theorem oexB_ok {K : PySem.W.Frag} {C : Addr} (h : oexB K C = true) : OexC K C := by
  unfold oexB at h
  simp only [Bool.and_eq_true, decide_eq_true_eq] at h
  obtain ⟨h0, h1, h2, h3, h4⟩ := h
  refine ⟨?_, h1, h2, h3, h4⟩
  split at h0
  · rename_i dd cd sl ho
    split at h0
    · rename_i C' bm k0 k1 k2 k3 n k5 hm hs
      simp only [Bool.and_eq_true, beq_iff_eq, Bool.not_eq_true'] at h0
      obtain ⟨⟨⟨⟨rfl, rfl⟩, hdel⟩, hdct⟩, ht⟩ := h0
      obtain ⟨nm, bs, mro, ns, qn, hd, sn, sub, ab, col, del⟩ := cd
      dsimp only at hm hdel hdct
      subst hm hdel hdct
      have hsl : sl = #[k0, k1, k2, k3, some (.builtin "ValueError.__new__"), k5] := by
        obtain ⟨l⟩ := sl
        simp only at hs
        rw [hs]
      subst hsl
      exact ⟨nm, qn, ns, bs, bm, sn, sub, ab, col, dd, k0, k1, k2, k3, k5, ho, ht⟩
    · cases h0
  · cases h0
/-! ### what leaves the law -/
def CXE : CXT := fun outer H s E u s' => ∃ P w, L2.CX P w outer H s E u s'
theorem cxe {P : Program} {w : World} {K : PySem.W.Frag} {mg : Str → Option Value} {base : Heap} {k : Nat} {f : Addr} {fd : FuncData} {ps : List Str} {sp : Sp} (F : FnOk P w K mg base (L2.CX P w) k f fd ps sp) : FnOk P w K mg base CXE k f fd ps sp :=
  ⟨F.len, fun A outer s H args us vs Q E hr he hb hv hs => codeAny_mono (F.run A outer s H args us vs Q E hr he hb hv hs) fun r s' h => by
    cases r with
    | error e => exact ⟨P, w, h⟩
    | ok fl => cases fl <;> exact h⟩
theorem cxe_end (H : Hp) (s : Shared) (e : Value) (s' : Shared) : CXE [] H s (fun _ _ _ => False) e s' → False := fun ⟨_, _, _, _, _, _, _, _, _, _, _, _, _, _, h⟩ => h
end DL
end

section
set_option Elab.async false
set_option linter.all false
set_option autoImplicit false
set_option maxRecDepth 100000
set_option maxHeartbeats 2000000
/-! DL15: more built-in things: all, any, min, max, tuple(reversed(..)). -/
namespace DL
open PySem PySem.Spec PyProof.Rows L2 RT

def dTupRev (te : DE) : DE := fun env S Q => te env S fun x S1 => match asL S1 x with
  | some ds => Q (.tup ds.reverse) S1
  | none => False
section
variable {F : Fm} {K : PySem.W.Frag} {P : Program} {w : World} {mg : Str → Option Value} {base : Heap} [fam : Fam F P w K mg base]
variable {a b e : Expr} {es : List Expr} {ta tb te : DCtx → DE} {t : DCtx → DA} {pos p p2 pos2 : Pos}
include fam
theorem pd_all (hm : mg "all" = none) (ha : PDA F K (e :: es) t) (hc : ∀ k, (F.X k).calm = true := by intro _; rfl) (hg : ∀ k, Gl (F.X k) "all" := by intro _; rfl) (he : ∀ k, starEach (e :: es) (F.X k).env = (false, eval e (F.X k).env) :: starEach es (F.X k).env := by intro _; rfl)
    (hpl : ∀ k, (backTo pos (starEach es (F.X k).env)).any (·.1) = false := by intro _; rfl) : PD F K (.Call (.Name "all" p) (e :: es) [] pos) (fun c => dCB rAll' (t c)) := pd_callB (callK (r := rAll) fun k => cr_all (hc k)) (fun _ => lr_all) hm (by decide +kernel) ha hg (by decide) (by decide) he hpl
theorem pd_any (hm : mg "any" = none) (ha : PDA F K (e :: es) t) (hc : ∀ k, (F.X k).calm = true := by intro _; rfl) (hg : ∀ k, Gl (F.X k) "any" := by intro _; rfl) (he : ∀ k, starEach (e :: es) (F.X k).env = (false, eval e (F.X k).env) :: starEach es (F.X k).env := by intro _; rfl)
    (hpl : ∀ k, (backTo pos (starEach es (F.X k).env)).any (·.1) = false := by intro _; rfl) : PD F K (.Call (.Name "any" p) (e :: es) [] pos) (fun c => dCB rAny' (t c)) := pd_callB (callK (r := rAny) fun k => cr_any (hc k)) (fun _ => lr_any) hm (by decide +kernel) ha hg (by decide) (by decide) he hpl
theorem pd_max2 (hm : mg "max" = none) (ha : PDA F K (e :: es) t) (hc : ∀ k, (F.X k).calm = true := by intro _; rfl) (hg : ∀ k, Gl (F.X k) "max" := by intro _; rfl) (he : ∀ k, starEach (e :: es) (F.X k).env = (false, eval e (F.X k).env) :: starEach es (F.X k).env := by intro _; rfl)
    (hpl : ∀ k, (backTo pos (starEach es (F.X k).env)).any (·.1) = false := by intro _; rfl) : PD F K (.Call (.Name "max" p) (e :: es) [] pos) (fun c => dCB rMax2' (t c)) := pd_callB (fun k => call_max2 (hc k)) (fun _ => lr_max2) hm (by decide +kernel) ha hg (by decide) (by decide) he hpl
theorem pd_min2 (hm : mg "min" = none) (ha : PDA F K (e :: es) t) (hc : ∀ k, (F.X k).calm = true := by intro _; rfl) (hg : ∀ k, Gl (F.X k) "min" := by intro _; rfl) (he : ∀ k, starEach (e :: es) (F.X k).env = (false, eval e (F.X k).env) :: starEach es (F.X k).env := by intro _; rfl)
    (hpl : ∀ k, (backTo pos (starEach es (F.X k).env)).any (·.1) = false := by intro _; rfl) : PD F K (.Call (.Name "min" p) (e :: es) [] pos) (fun c => dCB rMin2' (t c)) := pd_callB (fun k => call_min2 (hc k)) (fun _ => lr_min2) hm (by decide +kernel) ha hg (by decide) (by decide) he hpl
theorem pd_maxL (hm : mg "max" = none) (ha : PDA F K (e :: es) t) (hc : ∀ k, (F.X k).calm = true := by intro _; rfl) (hg : ∀ k, Gl (F.X k) "max" := by intro _; rfl) (he : ∀ k, starEach (e :: es) (F.X k).env = (false, eval e (F.X k).env) :: starEach es (F.X k).env := by intro _; rfl)
    (hpl : ∀ k, (backTo pos (starEach es (F.X k).env)).any (·.1) = false := by intro _; rfl) : PD F K (.Call (.Name "max" p) (e :: es) [] pos) (fun c => dCB rMaxL' (t c)) := pd_callB (callK (r := rMax) fun k => cr_max (hc k)) (fun _ => lr_maxL) hm (by decide +kernel) ha hg (by decide) (by decide) he hpl
theorem pd_minL (hm : mg "min" = none) (ha : PDA F K (e :: es) t) (hc : ∀ k, (F.X k).calm = true := by intro _; rfl) (hg : ∀ k, Gl (F.X k) "min" := by intro _; rfl) (he : ∀ k, starEach (e :: es) (F.X k).env = (false, eval e (F.X k).env) :: starEach es (F.X k).env := by intro _; rfl)
    (hpl : ∀ k, (backTo pos (starEach es (F.X k).env)).any (·.1) = false := by intro _; rfl) : PD F K (.Call (.Name "min" p) (e :: es) [] pos) (fun c => dCB rMinL' (t c)) := pd_callB (callK (r := rMin) fun k => cr_min (hc k)) (fun _ => lr_minL) hm (by decide +kernel) ha hg (by decide) (by decide) he hpl
theorem pd_tupRev (hm : mg "tuple" = none) (hm2 : mg "reversed" = none) (ha : PD F K e te) (hc : ∀ k, (F.X k).calm = true := by intro _; rfl) (hg : ∀ k, Gl (F.X k) "tuple" := by intro _; rfl) (hg2 : ∀ k, Gl (F.X k) "reversed" := by intro _; rfl)
    (hs : ∀ k, starEach [e] (F.X k).env = (false, eval e (F.X k).env) :: starEach [] (F.X k).env := by intro _; rfl)
    (hs2 : ∀ k, starEach [.Call (.Name "reversed" p2) [e] [] pos2] (F.X k).env = (false, eval (.Call (.Name "reversed" p2) [e] [] pos2) (F.X k).env) :: starEach [] (F.X k).env := by intro _; rfl) :
    PD F K (.Call (.Name "tuple" p) [.Call (.Name "reversed" p2) [e] [] pos2] [] pos) (fun c => dTupRev (te c)) := by
  obtain ⟨t1, a1, l1⟩ := ha.ex
  refine ⟨fun h => tTupRev K (t1 h), fun k h q => ?_, fun Z h c r => ⟨fun Z S H env σ Q Q' s0 re rl hh q => ?_⟩⟩
  · have z := pe_tupRev (X := F.X k) (p := p) (p2 := p2) (pos := pos) (pos2 := pos2) (hc k) (hg k) (by rw [fam.mg k]; exact hm) (hg2 k) (by rw [fam.mg k]; exact hm2) (a1 k h q) (hs k) (hs2 k)
    rw [fam.k k] at z
    exact z
  · refine (l1 _ h c r).run Z S H env σ _ _ s0 re rl hh fun Z1 S1 H1 d v s1 r1 p1 h1 => ?_
    split at h1
    · rename_i ds e
      obtain ⟨a, xs, rfl, h2, h3⟩ := r1.lst p1 e
      refine ⟨a, xs, rfl, .of h2, fun q' hq => ?_⟩
      obtain ⟨r2, s2⟩ := r1.laid (o := .tup xs.reverse) hq
      exact q _ _ _ _ _ (s1.trans s2) r2 (.tup upd_same ((h3.reverse).mono s2)) h1
    · exact h1.elim
end
end DL
end

section
set_option Elab.async false
set_option linter.all false
set_option autoImplicit false
set_option maxRecDepth 100000
set_option maxHeartbeats 2000000
/-! DL16: ints of the module; own methods; properties. -/
namespace DL
open PySem PySem.Spec PyProof.Rows L2

/-- o.m(..), the wish about exceptions knowing the names -/
def tMethAt (C : Addr) (m : Str) (sp : Sp) (dvs : List V) (E : L2.St → XK) (ta : TE) (t : TA) : TE := fun σ H Q => tMeth C m sp dvs (E σ) ta t σ H Q
section
variable {X : Cx} {CX : CXT} {k : Nat} {f C : Addr} {fd : FuncData} {ps : List Str} {sp : Sp} {dvs : List V} {ds : List Value} {E : L2.St → XK} {m : Str} {apos pos : Pos} {e o : Expr} {es : List Expr} {ta : TE} {t : TA} {pl : Sem Bool}
theorem pe_methAt (he : PE X o ta) (c : Cls X.K C) (hm : Meth X.K C m f) (F : FnOk X.prog X.w X.K X.mg X.base CX k f fd ps sp) (hr : Room k X.A) (hb : Binds X.K fd ps ds) (hd : Vals dvs ds) (hx : ∀ σ, PassesAt CX X σ (E σ)) (ha : PA X (e :: es) t)
    (hst : starEach (e :: es) X.env = (false, eval e X.env) :: starEach es X.env) (hpl : (backTo pos (starEach es X.env)).any (·.1) = false)
    (ht : eval (.Call (.Attribute o m apos) (e :: es) [] pos) X.env = (do let ov ← eval o X.env; standAt apos.atName; let (f, first) ← holding [ov] (getMethod ov m pl); callWith pos f first (backTo pos (starEach (e :: es) X.env)) (backToKw pos (keywordEach [] X.env)))) :
    PE X (.Call (.Attribute o m apos) (e :: es) [] pos) (tMethAt C m sp dvs E ta t) :=
  ⟨fun pins s σ H Q I h => PySem.W.methodCall_KW (pl := pl) (thn (he.run pins s σ H _ I h) fun u s1 ⟨x, H1, I1, rx, a, dx, fs, ex, ea, l, q⟩ => by
    subst ex
    have eu : u = Value.ref a := rx
    subst eu
    exact getmeth_ok I1 ea c hm l (PySem.W.callWith_K (first := [.ref a]) (h₀ := X.base) I.ok.mod.kin hm.kp (thn (ha.run pos pins s1 σ H1 _ I1 q) fun us s2 ⟨vs, H2, I2, r, q2⟩ => ⟨I2.kIn, run_fnSD (us := .ref a :: us) (vs := .ref a :: vs) F hr hb hd (hx σ) I2 (.cons rfl r) q2⟩) hst hpl)) ht⟩
theorem pe_methAt0 (he : PE X o ta) (c : Cls X.K C) (hm : Meth X.K C m f) (F : FnOk X.prog X.w X.K X.mg X.base CX k f fd ps sp) (hr : Room k X.A) (hb : Binds X.K fd ps ds) (hd : Vals dvs ds) (hx : ∀ σ, PassesAt CX X σ (E σ))
    (ht : eval (.Call (.Attribute o m apos) [] [] pos) X.env = (do let ov ← eval o X.env; standAt apos.atName; let (f, first) ← holding [ov] (getMethod ov m pl); callWith pos f first (backTo pos (starEach [] X.env)) (backToKw pos (keywordEach [] X.env)))) :
    PE X (.Call (.Attribute o m apos) [] [] pos) (tMethAt C m sp dvs E ta tNil) :=
  ⟨fun pins s σ H Q I h => PySem.W.methodCall_KW (pl := pl) (thn (he.run pins s σ H _ I h) fun u s1 ⟨x, H1, I1, rx, a, dx, fs, ex, ea, l, q⟩ => by
    subst ex
    have eu : u = Value.ref a := rx
    subst eu
    exact getmeth_ok I1 ea c hm l (PySem.W.callWith_K0 (first := [.ref a]) I1.kIn hm.kp (run_fnSD (us := [.ref a]) (vs := [.ref a]) F hr hb hd (hx σ) I1 (.cons rfl .nil) q))) ht⟩
end
/-- o.m(..) of an own class: the promise F, told of the instance as data -/
def dMeth (C : Addr) (m : Str) (F : DF) (dds : List D) (W' : DW) (to : DE) (t : DA) : DE := fun env S Q => to env S fun x S1 => ∃ fs, insOf S1 x = some (C, fs) ∧ fs.lookup m = none ∧
  t env S1 fun ds S2 => F (x :: (ds ++ dds)) S2 Q (fun C fs S' => W' C fs env S')
section
variable {K : PySem.W.Frag} {Z0 : Hp} {to_ : TE} {to' : DE} {ar : TA} {ar' : DA}
theorem le_meth {C : Addr} {m : Str} {F : DF} {W : WX} {W' : DW} {dvs : List V} {dds : List D} (hd : ∀ Z, Reps K Z dds dvs) (rw' : RW K Z0 W W') (ho : LE K Z0 to_ to') (h : LA K Z0 ar ar') : LE K Z0 (tMethAt C m (spD K F) dvs (WE W) to_ ar) (dMeth C m F dds W' to' ar') := ⟨fun Z S H env σ Q Q' s0 re rl hh q =>
  ho.run Z S H env σ _ _ s0 re rl hh fun Z1 S1 H1 x v s1 r1 p1 ⟨fs, hi, hl, h1⟩ => by
    obtain ⟨a, dx, gs, rfl, h2, h3⟩ := r1.ins p1 hi
    refine ⟨a, dx, gs, rfl, h2, h3.lookup_none m hl, ?_⟩
    exact h.run Z1 S1 H1 env σ _ _ (s0.trans s1) (re.mono s1) r1 h1 fun Z2 S2 H2 ds vs s2 r2 p2 h2 => ⟨Z2, S2, x :: (ds ++ dds), _, _, r2, .cons (p1.mono s2) (p2.append (hd Z2)), h2, fun Z3 S3 H3 d v s3 => q Z3 S3 H3 d v ((s1.trans s2).trans s3),
      fun Z3 S3 H3 C fs d s3 r3 x3 w3 => rw'.run Z3 S3 H3 env σ C fs d (((s0.trans s1).trans s2).trans s3) (re.mono ((s1.trans s2).trans s3)) r3 x3 w3⟩⟩
end
/-- an own method that is known -/
structure MtD (P : Program) (w : World) (K : PySem.W.Frag) (mg : Str → Option Value) (base : Heap) (k : Nat) (C : Addr) (m : Str) (F : DF) (dds : List D) : Prop where
  ex : ∃ (f : Addr) (fd : FuncData) (ps : List Str) (dvs : List V) (ds : List Value), Cls K C ∧ Meth K C m f ∧ FnOk P w K mg base (L2.CX P w) k f fd ps (spD K F) ∧ Binds K fd ps ds ∧ Vals dvs ds ∧ ∀ Z, Reps K Z dds dvs
section
variable {F : Fm} {K : PySem.W.Frag} {P : Program} {w : World} {mg : Str → Option Value} {base : Heap} [fam : Fam F P w K mg base]
variable {e o : Expr} {es : List Expr} {to : DCtx → DE} {t : DCtx → DA} {pos p apos : Pos} {x m : Str}
include fam
theorem pd_meth {pl : Fm → Sem Bool} {k : Nat} {C : Addr} {G : DF} {dds : List D} (c : MtD P w K mg base k C m G dds) {j : Nat} (hr : ∀ k, Room j (F.X k).A) (hk : k ≤ j) (ho : PD F K o to) (ha : PDA F K (e :: es) t)
    (he : ∀ k, starEach (e :: es) (F.X k).env = (false, eval e (F.X k).env) :: starEach es (F.X k).env := by intro _; rfl) (hpl : ∀ k, (backTo pos (starEach es (F.X k).env)).any (·.1) = false := by intro _; rfl)
    (ht : ∀ k, eval (.Call (.Attribute o m apos) (e :: es) [] pos) (F.X k).env = (do let ov ← eval o (F.X k).env; standAt apos.atName; let (f, first) ← holding [ov] (getMethod ov m (pl F)); callWith pos f first (backTo pos (starEach (e :: es) (F.X k).env)) (backToKw pos (keywordEach [] (F.X k).env))) := by intro _; rfl) :
    PD F K (.Call (.Attribute o m apos) (e :: es) [] pos) (fun c => dMeth C m G dds c.w (to c) (t c)) := by
  obtain ⟨f, fd, ps, dvs, ds, h0, h1, h2, h4, h5, h6⟩ := c.ex
  obtain ⟨tt, b1, b2⟩ := ho.ex
  obtain ⟨ta, a1, a2⟩ := ha.ex
  refine ⟨fun h => tMethAt C m (spD K G) dvs (WE h.W) (tt h) (ta h), fun i h q => ?_, fun Z h c r => le_meth h6 r.w (b2 Z h c r) (a2 Z h c r)⟩
  have e1 := fam.prog i
  have e2 := fam.w i
  have e3 := fam.k i
  have e4 := fam.mg i
  have e5 := fam.base i
  exact pe_methAt (X := F.X i) (CX := L2.CX (F.X i).prog (F.X i).w) (E := WE h.W) (b1 i h q) (by rw [e3]; exact h0) (by rw [e3]; exact h1) (by rw [e1, e2, e3, e4, e5]; exact h2) ((hr i).mono hk) (by rw [e3]; exact h4) h5 (fun σ => passAt (F.tk i h q) σ) (a1 i h q) (he i) (hpl i) (ht i)
/-- an int of the module -/
theorem pd_gint {i : Int} (hm : ∃ t, mg x = some (.int i t)) (hg : ∀ k, Gl (F.X k) x := by intro _; rfl) (hd : (x == ("__debug__" : Str)) = false := by decide) : PD F K (.Name x pos) (fun c => dC (.int i)) := by
  obtain ⟨t, hm⟩ := hm
  exact ⟨fun _ => _, fun k _ _ => pe_glob (v := .int i) (hg k) (by rw [fam.mg k]; exact hm) ⟨t, rfl⟩ hd, fun _ _ _ _ => le_int i⟩
end
end DL
end

section
set_option Elab.async false
set_option linter.all false
set_option autoImplicit false
set_option maxRecDepth 100000
set_option maxHeartbeats 2000000
/-! DL17: a list repeated. -/
namespace DL
open PySem PySem.Spec PyProof.Rows L2

def rRepLM' : R2' := fun x y S Q => match asL S x, y with
  | some xs, .int k => -(2 ^ 63) ≤ k ∧ k < 2 ^ 63 ∧ xs.length * k.toNat ≤ sizeLine ∧ ∀ a, S a = none → Q (.raw a) (updS S a (.lst (List.replicate k.toNat xs).flatten))
  | _, _ => False
def rRepL' : R2' := fun x y S Q => match asL S x, y with
  | some xs, .int k => -(2 ^ 63) ≤ k ∧ k < 2 ^ 63 ∧ xs.length * k.toNat ≤ sizeLine ∧ Q (.lst (List.replicate k.toNat xs).flatten) S
  | _, _ => False
theorem lr_repLM {K : PySem.W.Frag} {Z0 : Hp} : L2R K Z0 rRep rRepLM' := ⟨fun Z S H x y d e Q Q' s0 rl pd pe h q => by
  unfold rRepLM' at h
  split at h
  · rename_i xs k e
    cases pe
    obtain ⟨a, vs, rfl, h2, h3⟩ := rl.lst pd e
    refine ⟨a, k, vs, rfl, rfl, h2, h.1, h.2.1, by rw [← h3.length]; exact h.2.2.1, fun p hp => ?_⟩
    obtain ⟨r2, n2⟩ := rl.new (o := .lst (List.replicate k.toNat xs).flatten) (u := .lst (List.replicate k.toNat vs).flatten) hp ⟨_, rfl, h3.repl _⟩
    exact q _ _ _ _ _ (Same.refl _) r2 (.raw p) (h.2.2.2 p n2)
  · exact h.elim⟩
theorem lr_repL {K : PySem.W.Frag} {Z0 : Hp} : L2R K Z0 rRep rRepL' := ⟨fun Z S H x y d e Q Q' s0 rl pd pe h q => by
  unfold rRepL' at h
  split at h
  · rename_i xs k e
    cases pe
    obtain ⟨a, vs, rfl, h2, h3⟩ := rl.lst pd e
    refine ⟨a, k, vs, rfl, rfl, h2, h.1, h.2.1, by rw [← h3.length]; exact h.2.2.1, fun p hp => ?_⟩
    obtain ⟨r2, s2⟩ := rl.laid (o := .lst (List.replicate k.toNat vs).flatten) hp
    exact q _ _ _ _ _ s2 r2 (.lst upd_same ((h3.repl _).mono s2)) h.2.2.2
  · exact h.elim⟩
section
variable {F : Fm} {K : PySem.W.Frag} {P : Program} {w : World} {mg : Str → Option Value} {base : Heap} [fam : Fam F P w K mg base]
variable {a b : Expr} {ta tb : DCtx → DE} {pos : Pos}
include fam
theorem pd_repLM (ha : PD F K a ta) (hb : PD F K b tb) : PD F K (.BinOp a .Mult b pos) (fun c => dOp rRepLM' (ta c) (tb c)) := pd_op (fun _ => op_rep) (fun _ => lr_repLM) ha hb
theorem pd_repL (ha : PD F K a ta) (hb : PD F K b tb) : PD F K (.BinOp a .Mult b pos) (fun c => dOp rRepL' (ta c) (tb c)) := pd_op (fun _ => op_rep) (fun _ => lr_repL) ha hb
end
end DL
end

section
set_option Elab.async false
set_option linter.all false
set_option autoImplicit false
set_option maxRecDepth 100000
set_option maxHeartbeats 2000000
/-! DL18: a tuple turned round by a slice. -/
namespace HT
open PySem PySem.Spec PyProof.Rows PySem.Calls L2
section
variable {prog : Program} {w : World} {A : Around} {E : Value → Shared → Prop} {s : Shared}
theorem places_back (n : Nat) : Builtin.Slice.slicePlaces ((n : Int) - 1) (-1) (-1) = n := by
  unfold Builtin.Slice.slicePlaces
  rw [if_neg (by decide)]
  split
  · have e : ((n : Int) - 1 - -1 - 1) / (- -1) = (n : Int) - 1 := by rw [show (- -1 : Int) = 1 by decide, Int.ediv_one]; omega
    rw [e]; omega
  · omega
theorem pick_back (xs : Array Value) : ((List.range xs.size).filterMap fun (m : Nat) => xs[(((xs.size : Int) - 1) + (m : Int) * (-1)).toNat]?).toArray = xs.toList.reverse.toArray := by
  have e : (fun (m : Nat) => xs[(((xs.size : Int) - 1) + (m : Int) * (-1)).toNat]?) = (fun x => xs[x]?) ∘ fun k => xs.size - 1 - k := by
    funext m
    have : (((xs.size : Int) - 1) + (m : Int) * (-1)).toNat = xs.size - 1 - m := by omega
    simp only [Function.comp, this]
  rw [e, ← List.filterMap_map, PySem.W.krv_range, List.filterMap_reverse, PySem.W.krv_all]
theorem item_back {t sl : Addr} {items : Array Value} {vs : Value} {Q : Value → Shared → Prop} (ht : IsTup s.heap t items) (hs : s.heap.IsSliceOf sl .none .none vs) (ps : IsPart vs (some (-1)))
    (h : Q (.ref s.heap.objs.size) { s with heap := s.heap.push { cls := .type "tuple", data := .seq items.toList.reverse.toArray } }) (hsz : items.size ≤ sizeLine) : wpAny (model prog w) A (getItem (.ref t) (.ref sl)) Q E s := by
  have hz : sizeOk (.seq items.toList.reverse.toArray) := by
    show items.toList.reverse.toArray.size ≤ sizeLine
    rw [List.size_toArray, List.length_reverse, Array.length_toList]; exact hsz
  obtain ⟨os, hos, hcs, hds⟩ := id hs
  have hT : s.TypeIs (.ref sl) "slice" := ⟨os, hos, hcs⟩
  unfold getItem
  try with_reducible refine wpAny_holding ?_
  first | refine wpAny_bind (wpAny_pure ?_) | skip
  refine wpAny_bind (wpAny_sequenceKey ht.typeIs (by decide) (wpAny_bind (wpAny_callSpecial?_slot (name := Str.ofString "__getitem__") ht.typeIs PyProof.Rows.slot_tuple_getitem (wpAny_call_entry PyProof.Rows.slot_tuple_getitem ht.typeIs entry_tuple_getitem ?_ (args_tuple_getitem _ _)))))
  show wpAny _ _ (Builtin.Tuple.tupleItemsOf (.ref t) >>= _) _ _ s
  refine wpAny_bind (tupleItemsOf_ ht (wpAny_bind (wpAny_typeOf hT ?_)))
  rw [if_pos (by decide)]
  refine wpAny_bind ?_
  unfold Builtin.Slice.sliceApplied Builtin.Slice.sliceFields
  refine wpAny_bind (wpAny_bind (wpAny_field hos hds (x := .none) rfl (wpAny_bind (wpAny_field hos hds (x := .none) rfl (wpAny_bind (wpAny_field hos hds (x := vs) rfl (wpAny_pure ?_)))))))
  refine wpAny_bind (slicePart_ ps ?_)
  show wpAny _ _ (if ((-1 : Int) == 0) = true then _ else _) _ _ s
  rw [if_neg (by decide)]
  refine wpAny_bind (slicePart_ .none (wpAny_bind (slicePart_ .none (wpAny_bind (wpAny_pure ?_)))))
  show wpAny _ _ (pure (((items.size : Int) - 1), (-1 : Int), Builtin.Slice.slicePlaces ((items.size : Int) - 1) (-1) (-1))) _ _ s
  rw [places_back]
  refine wpAny_pure ?_
  have hno : ¬ ((((items.size : Int) - 1) == 0 && (-1 : Int) == 1 && items.size == items.size) = true) := by simp
  show wpAny _ _ (if (((items.size : Int) - 1) == 0 && (-1 : Int) == 1 && items.size == items.size) = true then _ else _) _ _ s
  rw [if_neg hno, pick_back]
  first
    | exact wpAny_bind (m := Builtin.Tuple.tupleExact _) (wpAny_newObj_type (wpAny_pure ⟨_, rfl, wpAny_pure h⟩) hz)
    | exact wpAny_bind (m := Builtin.Tuple.tupleExact _) (wpAny_newObj_type (wpAny_bind (wpAny_pure (wpAny_pure ⟨_, rfl, wpAny_pure h⟩))) hz)
    | exact wpAny_bind (wpAny_bind (m := Builtin.Tuple.tupleExact _) (wpAny_newObj_type (wpAny_pure (wpAny_pure ⟨_, rfl, wpAny_pure h⟩)) hz))
    | exact wpAny_bind (wpAny_bind (m := Builtin.Tuple.tupleExact _) (wpAny_newObj_type (wpAny_pure ⟨_, rfl, wpAny_pure h⟩) hz))
end
end HT
namespace DL
open PySem PySem.Spec PyProof.Rows L2
def tRevT (K : PySem.W.Frag) (te : TE) : TE := fun σ H Q => te σ H fun x H1 => ∃ a xs, x = .ref a ∧ SqT K H1 a xs ∧ ∀ p, H1 p = none → Q (.ref p) (upd H1 p (.tup xs.reverse))
theorem pe_revT {X : Cx} {e : Expr} {te : TE} {k : Nat} {p1 p2 p3 pos : Pos} (he : PE X e te) : PE X (.Subscript e (.Slice none none (some (.UnaryOp .USub (.Constant (.int 1) k p1) p2)) p3) pos) (tRevT X.K te) := by
  refine ⟨fun pins s σ H Q I h => Subscript_ (thn (he.run pins s σ H _ I h) fun v s1 ⟨x, H1, I1, r1, q1⟩ => ?_)⟩
  obtain ⟨a, xs, ex, hx, q⟩ := q1
  subst ex
  have ev : v = Value.ref a := r1
  subst ev
  have hst : PO X (some (.UnaryOp .USub (.Constant (.int 1) k p1) p2)) (tPart (tUn (rU fun i => .int (-i)) (tC (.int 1)))) := po_some (pe_un un_neg pe_int)
  refine wpAny_Slice (thn (po_none.run pins s1 σ H1 (fun o H2 => o = none ∧ H2 = H1) I1 ⟨rfl, rfl⟩) fun vl s2 ⟨l, H2, I2, pl, el, e2⟩ => thn (po_none.run pins s2 σ H2 (fun o H3 => o = none ∧ H3 = H2) I2 ⟨rfl, rfl⟩) fun vu s3 ⟨u, H3, I3, pu, eu, e3⟩ => ?_)
  subst el e2 eu e3
  refine thn (hst.run pins s3 σ H3 (fun o H4 => o = some (-1) ∧ H4 = H3) I3 ⟨1, rfl, -1, rfl, rfl, rfl⟩) fun vs s4 ⟨o, H4, I4, ps, eo, e4⟩ => ?_
  subst eo e4
  cases pl
  cases pu
  have I5 : Inv X pins σ H4 { s4 with heap := s4.heap.push { cls := .type "slice", data := .fields #[.none, .none, vs] } } := I4.kept (t' := s4.toks) fun b ob q => Heap.get?_push_of_some _ q
  obtain ⟨its, r, ht, hz⟩ := I5.tuple hx
  have hlen := r.length
  show wpAny (model X.prog X.w) X.A (subscriptTail e (.Slice none none (some (.UnaryOp .USub (.Constant (.int 1) k p1) p2)) p3) (.ref a) (.ref s4.heap.objs.size)) (EP X pins σ Q) X.xe { s4 with heap := s4.heap.push { cls := .type "slice", data := .fields #[.none, .none, vs] } }
  refine tail_any (ops := [.ref a, .ref s4.heap.objs.size]) ht.typeIs (PyProof.Rows.slot_tuple_getitem.lookup) (HT.item_back ht (Heap.IsSliceOf.new _ .none .none vs) ps ?_ (by rw [List.size_toArray]; omega)) (by with_unfolding_all rfl)
  refine ⟨.ref _, _, I5.laid (t' := s4.toks) (o := .tup xs.reverse) (fun b ob q => Heap.get?_push_of_some _ q) (Nat.le_refl _) ?_, rfl, q _ (I5.hok.fresh (Nat.le_refl _))⟩
  exact ⟨by rw [List.length_reverse]; exact hz, its.reverse, r.reverse, _, Heap.get?_push_size _ rfl, rfl, 0, rfl⟩
def dRevT (te : DE) : DE := fun env S Q => te env S fun x S1 => match x with
  | .tup ds => Q (.tup ds.reverse) S1
  | _ => False
section
variable {F : Fm} {K : PySem.W.Frag} {P : Program} {w : World} {mg : Str → Option Value} {base : Heap} [fam : Fam F P w K mg base]
variable {e : Expr} {te : DCtx → DE} {k : Nat} {p1 p2 p3 pos : Pos}
include fam
theorem pd_revT (ha : PD F K e te) : PD F K (.Subscript e (.Slice none none (some (.UnaryOp .USub (.Constant (.int 1) k p1) p2)) p3) pos) (fun c => dRevT (te c)) := by
  obtain ⟨t1, a1, l1⟩ := ha.ex
  refine ⟨fun h => tRevT K (t1 h), fun i h q => ?_, fun Z h c r => ⟨fun Z S H env σ Q Q' s0 re rl hh q => ?_⟩⟩
  · have z := pe_revT (X := F.X i) (k := k) (p1 := p1) (p2 := p2) (p3 := p3) (pos := pos) (a1 i h q)
    rw [fam.k i] at z
    exact z
  · refine (l1 _ h c r).run Z S H env σ _ _ s0 re rl hh fun Z1 S1 H1 d v s1 r1 p1 h1 => ?_
    split at h1
    · cases p1 with
      | tup h2 h3 =>
        refine ⟨_, _, rfl, Same.sqt r1.sub h2, fun q' hq => ?_⟩
        obtain ⟨r2, s2⟩ := r1.laid (o := .tup _) hq
        exact q _ _ _ _ _ (s1.trans s2) r2 (.tup upd_same ((h3.reverse).mono s2)) h1
    · exact h1.elim
end
end DL
end

section
set_option Elab.async false
set_option linter.all false
set_option autoImplicit false
set_option maxRecDepth 100000
set_option maxHeartbeats 2000000
/-! DL19: facts about own classes, asked of the written part. -/
namespace DL
open PySem PySem.Spec PyProof.Rows L2
def insB (K : PySem.W.Frag) (C : Addr) : Bool := decide (PySem.W.findIn K (.ref C) "__class__" = some (some (.builtin "object.__class__"))) && (decide (PySem.W.specialIn K (.builtin "object.__class__") "__get__" = some (some (.builtin "getset_descriptor.__get__"))) && (decide (PySem.W.takesIn K (.builtin "object.__class__") = some true) && decide (PySem.W.mroIn K C (.type "object") = some true)))
theorem insB_ok {K : PySem.W.Frag} {C : Addr} (c : Cls K C) (h : insB K C = true) : InsC K C := by
  unfold insB at h
  simp only [Bool.and_eq_true, decide_eq_true_eq] at h
  obtain ⟨h0, h1, h2, h3⟩ := h
  exact ⟨c, h0, h1, h2, h3⟩
def kitCB (K : PySem.W.Frag) (C C2 : Addr) (b : Bool) : Bool := decide (PySem.W.kitOne K (.ref C) (.ref C2) = some b)
theorem kitCB_ok {K : PySem.W.Frag} {C C2 : Addr} {b : Bool} (h : kitCB K C C2 b = true) : PySem.W.kitOne K (.ref C) (.ref C2) = some b := of_decide_eq_true h
end DL
end

section
set_option Elab.async false
set_option linter.all false
set_option autoImplicit false
set_option maxRecDepth 100000
set_option maxHeartbeats 2000000
/-! DL20: for .. in reversed(list or tuple). -/
namespace DL
open PySem PySem.Spec PyProof.Rows L2 RT
variable {K : PySem.W.Frag} {Z0 : Hp}
def diRev (te : DE) : DI := fun env S R => te env S fun x S1 => match x with
  | .raw a => (match S1 a with
    | some (.lst ds) => R ds.reverse (fun S => S a = some (.lst ds)) S1
    | _ => False)
  | x => (match asQ S1 x with
    | some ds => R ds.reverse (fun _ => True) S1
    | none => False)
theorem rev_get {α : Type} {xs : List α} {i : Nat} (h : i < xs.length) : xs.reverse[i]? = xs[xs.length - 1 - i]? := List.getElem?_reverse h
theorem wd_revT {Z : Hp} {a : Addr} {xs : List V} {ds : List D} (h : Z a = some (.tup xs)) (p : Reps K Z ds xs) : WalkD K Z (ItvT K a xs.length) ds.reverse (fun _ => True) := by
  have hl := p.length
  refine ⟨fun Z' S H i s r _ hi => ?_, fun Z' S H s r _ => ?_, fun Z' S H i x H' s r _ hi y => ?_⟩
  · rw [List.length_reverse, hl] at hi
    exact ⟨hi, xs, xs[xs.length - 1 - i], Same.sqt r.sub (s _ _ h), List.getElem?_eq_getElem (by omega)⟩
  · show xs.length ≤ _
    rw [List.length_reverse, hl]; exact Nat.le_refl _
  · rw [List.length_reverse] at hi
    obtain ⟨rfl, hy⟩ := y
    obtain ⟨d, e1, e2⟩ := p.get (hy xs (Same.sqt r.sub (s _ _ h)))
    exact ⟨Z', d, Same.refl _, r, by rw [rev_get hi, hl]; exact e1, e2.mono s⟩
theorem wd_revL {Z : Hp} {a : Addr} {xs : List V} {ds : List D} (h : Z a = some (.lst xs)) (p : Reps K Z ds xs) : WalkD K Z (Itv K a xs.length) ds.reverse (fun _ => True) := by
  have hl := p.length
  refine ⟨fun Z' S H i s r _ hi => ?_, fun Z' S H s r _ => ?_, fun Z' S H i x H' s r _ hi y => ?_⟩
  · rw [List.length_reverse, hl] at hi
    exact ⟨hi, xs, xs[xs.length - 1 - i], .of (r.sub _ _ (s _ _ h)), List.getElem?_eq_getElem (by omega)⟩
  · show xs.length ≤ _
    rw [List.length_reverse, hl]; exact Nat.le_refl _
  · rw [List.length_reverse] at hi
    obtain ⟨rfl, hy⟩ := y
    obtain ⟨d, e1, e2⟩ := p.get (hy xs (.of (r.sub _ _ (s _ _ h))))
    exact ⟨Z', d, Same.refl _, r, by rw [rev_get hi, hl]; exact e1, e2.mono s⟩
theorem wd_revS {Z : Hp} {a : Addr} {ds : List D} : WalkD K Z (Itv K a ds.length) ds.reverse (fun S => S a = some (.lst ds)) := by
  refine ⟨fun Z' S H i s r g hi => ?_, fun Z' S H s r g => ?_, fun Z' S H i x H' s r g hi y => ?_⟩
  · obtain ⟨xs, h, p⟩ := r.lock g
    have hl := p.length
    rw [List.length_reverse] at hi
    exact ⟨hi, xs, xs[ds.length - 1 - i]'(by omega), .of h, List.getElem?_eq_getElem (by omega)⟩
  · show ds.length ≤ _
    rw [List.length_reverse]; exact Nat.le_refl _
  · obtain ⟨xs, h, p⟩ := r.lock g
    rw [List.length_reverse] at hi
    obtain ⟨rfl, hy⟩ := y
    obtain ⟨d, e1, e2⟩ := p.get (hy xs (.of h))
    exact ⟨Z', d, Same.refl _, r, by rw [rev_get hi]; exact e1, e2⟩
theorem li_rev {te : TE} {te' : DE} (h : LE K Z0 te te') : LI K Z0 (iRevA K te) (diRev te') := ⟨fun Z S H env σ R R' s0 re rl hh q =>
  h.run Z S H env σ _ _ s0 re rl hh fun Z1 S1 H1 d v s1 r1 p1 h1 => by
    by_cases hr : ∃ a, d = .raw a
    · obtain ⟨a, rfl⟩ := hr
      cases p1
      have h1' : (match S1 a with
        | some (.lst ds) => R' ds.reverse (fun S => S a = some (.lst ds)) S1
        | _ => False) := h1
      split at h1'
      · rename_i ds e
        obtain ⟨xs, h2, p⟩ := r1.lock e
        have hw : WalkD K Z1 (Itv K a xs.length) ds.reverse (fun S => S a = some (.lst ds)) := by rw [← p.length]; exact wd_revS
        exact ⟨a, xs, rfl, .inl ⟨.of h2, q _ _ _ _ _ _ s1 r1 hw h1'⟩⟩
      · exact h1'.elim
    · have h1' : (match asQ S1 d with
        | some ds => R' ds.reverse (fun _ => True) S1
        | none => False) := by
        cases d with
        | raw a => exact absurd ⟨a, rfl⟩ hr
        | _ => exact h1
      cases p1 with
      | tup h2 h3 => exact ⟨_, _, rfl, .inr ⟨Same.sqt r1.sub h2, q _ _ _ _ _ _ s1 r1 (wd_revT h2 h3) h1'⟩⟩
      | lst h2 h3 => exact ⟨_, _, rfl, .inl ⟨.of (r1.sub _ _ h2), q _ _ _ _ _ _ s1 r1 (wd_revL h2 h3) h1'⟩⟩
      | raw a => exact absurd ⟨a, rfl⟩ hr
      | _ => exact h1'.elim⟩
section
variable {F : Fm} {P : Program} {w : World} {mg : Str → Option Value} {base : Heap} [fam : Fam F P w K mg base]
variable {e : Expr} {te : DCtx → DE} {p pos : Pos}
include fam
theorem i_rev {tg : Expr} (hm : mg "reversed" = none) (h : PD F K e te) (hg : ∀ k, Gl (F.X k) "reversed" := by intro _; rfl) (hs : ∀ k, starEach [e] (F.X k).env = (false, eval e (F.X k).env) :: starEach [] (F.X k).env := by intro _; rfl) : PDI F K tg (.Call (.Name "reversed" p) [e] [] pos) (fun c => diRev (te c)) := by
  obtain ⟨t1, a1, l1⟩ := h.ex
  exact ⟨_, fun k h q => by have hh := pi_revA (X := F.X k) (tg := tg) (p := p) (pos := pos) (hg k) (by rw [fam.mg k]; exact hm) (a1 k h q) (hs k); rw [fam.k k] at hh; exact hh, fun Z h c r => li_rev (l1 Z h c r)⟩
end
theorem x_iRev {te : DE} {env : DEnv} {S : Sto} {R : List D → (Sto → Prop) → Sto → Prop} : diRev te env S R = te env S fun x S1 => match x with
  | .raw a => (match S1 a with
    | some (.lst ds) => R ds.reverse (fun S => S a = some (.lst ds)) S1
    | _ => False)
  | x => (match asQ S1 x with
    | some ds => R ds.reverse (fun _ => True) S1
    | none => False) := rfl
end DL
end

section
set_option Elab.async false
set_option linter.all false
set_option autoImplicit false
set_option maxRecDepth 100000
set_option maxHeartbeats 2000000
/-! DL21: a try with several clauses, each with a name. -/
namespace DL
open PySem PySem.Spec PyProof.Rows L2
/-- a clause: the class's name and value, the name bound, its slot, the suite -/
structure Cl where
  cn : Str
  cv : Value
  nm : Str
  ix : Nat
  b0 : Stmt
  su : List Stmt
  np : Pos
  hp : Pos
  ts : Addr → Value → Option Addr → TS
def Cl.hd (q : Cl) : ExceptHandler := .ExceptHandler (some (.Name q.cn q.np)) (some q.nm) (q.b0 :: q.su) q.hp
def wCl (K : PySem.W.Frag) (Wout : WX) (D : Ends) : List Cl → WX
  | [] => Wout
  | q :: r => wAs K q.cv q.ix q.ts (wCl K Wout D r) D
structure Cl.Ok (X : Cx) (q : Cl) : Prop where
  nms : Names X q.cn q.cv
  slot : X.N[q.ix]? = some q.nm
  loc : X.env.kindOf q.nm = some .local
  run : ∀ (a : Addr) (oe : Obj) (cls : Value) (d : Option Addr) (pn : List (Addr × Obj)), Zc cls d oe → (∃ vs, oe.data = .fields vs) → PSs (X.suite a ((a, oe) :: pn)) (q.b0 :: q.su) (q.ts a cls d)
section
variable {X : Cx} {body : List Stmt} {pos : Pos} {tb : WX → TS} {Wout : WX} {q0 : Cl} {qs : List Cl}
theorem ps_try_cl (hst : X.stack = X.env :: X.outer) (hfr0 : X.env.frame = some X.env.locals) (nd : X.N.Nodup) (tk : Takes X Wout)
    (hb : ∀ (W : WX) (pn : List (Addr × Obj)) (xe : Value → Shared → Prop), Takes (X.tr pn xe) W → PassesOwn (model X.prog X.w) X.A X.env xe → PSs (X.tr pn xe) body (tb W))
    (hq : ∀ q ∈ q0 :: qs, q.Ok X) : PS X (.Try body (q0.hd :: qs.map Cl.hd) [] [] pos) (fun D σ H => tb (wCl X.K Wout D (q0 :: qs)) D σ H) := by
  constructor
  intro pins s σ H D I h
  have ok := I.ok
  have frs0 : X.A.frames = some (X.env :: X.outer) := ok.frames.trans (congrArg some hst)
  refine wpAny_Try_except (wpAny_mono ((hb (wCl X.K Wout D (q0 :: qs)) (X.pn ++ pins) (fun e t => wpAny (model X.prog X.w) X.A (noteFrame e X.env) (fun _ t2 => wpAny (model X.prog X.w) X.A (setFlight e none) (fun _ t3 => wpAny (model X.prog X.w) X.A (handleBy e X.env (q0.hd :: qs.map Cl.hd)) (SP X pins D) X.xe t3) X.xe t2) X.xe t) (fun u t xx => ?_) PassesOwn.looking).run [] s σ H D (I.toTry _) h) (fun f t r => ?_) fun _ _ z => z)
  · obtain ⟨a, B, sI, pins', τ, G, cls, d, rfl, J0, nb, up, sky, na, os, ag, w⟩ := xx
    have J := J0.ofTry ok
    show wpAny (model X.prog X.w) X.A (noteFrame (.ref a) X.env) _ _ _
    refine Sky.land Zc.steady frs0 hfr0 (by rw [← hst]; exact sky) fun g3 fl up3 => ?_
    obtain ⟨oe3, vs3, ge3, gz3, gd3⟩ := fl.there
    have nfr : a ∉ frs (X.env :: X.outer) := fun hm => by
      obtain ⟨_, o', e', hnf⟩ := fl.2.2.1.mem hm
      rw [ge3] at e'
      cases e'
      exact hnf _ gd3
    have nL : a ≠ X.env.locals := fun z => nfr (List.mem_filterMap.mpr ⟨X.env, List.mem_cons_self, by rw [hfr0, z]⟩)
    have nF : a ∉ X.fs := fun hm => by
      obtain ⟨e, he, z⟩ := List.mem_filterMap.mp hm
      exact nfr (List.mem_filterMap.mpr ⟨e, List.mem_cons_of_mem _ he, z⟩)
    have J3 : Inv X pins τ G { t with heap := g3 } := J.landed nb fl.1 (up.trans up3) os ag
    -- the clauses, one behind the other
    have each : ∀ l : List Cl, (∀ q ∈ l, q.Ok X) → wCl X.K Wout D l cls d τ G → wpAny (model X.prog X.w) X.A (handleBy (.ref a) X.env (l.map Cl.hd)) (SP X pins D) X.xe { t with heap := g3 } := by
      intro l
      induction l with
      | nil =>
        intro _ w
        refine wpAny_handleBy_nil ?_
        obtain ⟨_, _, _, oe, vs, T, oT, tt, he, _, hd, h1, _⟩ := id fl
        unfold PySem.passOn
        refine wpAny_bind (wpAny_field he hd h1 ?_)
        rw [if_neg (show ¬ ((Value.ref T == Value.none) = true) by simp)]
        have out : wpAny (model X.prog X.w) X.A (setFlight (.ref a) X.env.frame) (fun _ s4 => wpAny (model X.prog X.w) X.A (throw (.ref a) : Sem Flow) (SP X pins D) X.xe s4) X.xe { t with heap := g3 } := by
          rw [hfr0]
          exact HandSPX.setFlight_upZ fl fun g4 hg4 up4 => wpAny_throw (tk _ _ ⟨a, B, sI, pins, τ, G, cls, d, rfl, J, nb, (up.trans up3).trans up4, .inr (.inr (by rw [hst]; exact hg4)), na, os, ag, w⟩)
        first | exact wpAny_bind (wpAny_pure (wpAny_bind out)) | exact wpAny_bind out
      | cons q l ih =>
        intro hl w
        have Q := hl q List.mem_cons_self
        obtain ⟨b, hb1, hyes, hno⟩ := w
        refine wpAny_handleBy_cons (codeAny_handlers_test ?_) (by intro z; cases z)
        have seen : ∀ {QQ EE : Value → Shared → Prop}, QQ q.cv { t with heap := g3 } → wpAny (model X.prog X.w) (X.A.mark (some (.ref a))) (eval (.Name q.cn q.np) X.env) QQ EE { t with heap := g3 } := fun {QQ EE} z => by
          have S3 := J3.suite ge3 gd3 na nL nF
          rcases Q.nms with ⟨g1, g2, g4 | ⟨g4, g5, g6⟩⟩
          · exact ld_glob (X := X.suite a ((a, oe3) :: (X.pn ++ pins))) S3 g1 g4 z g2
          · exact ld_blt (X := X.suite a ((a, oe3) :: (X.pn ++ pins))) S3 g1 g4 g5 z g6 g2
        refine seen ((PySem.W.exm_one (M := model X.prog X.w) J3.kIn (fun A Q E s k z => wpAny_typeOf_ref (k _ _ ge3) (by rw [gz3.1]; exact z)) hb1).here ?_)
        cases b with
        | false =>
          show wpAny _ X.A (handleBy (.ref a) X.env (l.map Cl.hd)) _ _ _
          exact ih (fun z hz => hl z (List.mem_cons_of_mem _ hz)) (hno rfl)
        | true =>
          refine codeAny_handlers_suite_as (HandSPX.lands_againZ fl fun g4 fl4 up4 => ?_)
          obtain ⟨oe4, vs4, ge4, gz4, gd4⟩ := fl4.there
          have J4 : Inv X pins τ G { t with heap := g4 } := J.landed nb fl4.1 ((up.trans up3).trans up4) os ag
          have S4 := J4.suite ge4 gd4 na nL nF
          refine store_ok (X := X.suite a ((a, oe4) :: (X.pn ++ pins))) (v := .ref a) S4 nd Q.slot (.inl Q.loc) rfl (fun s5 S5 => ?_) (.inr Q.loc)
          refine wpAny_mono ((Q.run a oe4 cls d (X.pn ++ pins) gz4 ⟨_, gd4⟩).run [] s5 _ G _ S5 (hyes rfl a na)) (fun f s6 r6 => ?_) fun _ _ z => z.elim
          have off : ∀ {τ6 : L2.St} {G6 : Hp} {Q6 : Shared → Prop}, Inv (X.suite a ((a, oe4) :: (X.pn ++ pins))) [] τ6 G6 s6 → (∀ s7, Inv X pins (τ6.set q.ix none) G6 s7 → Q6 s7) →
              wpAny (model X.prog X.w) X.A (do bindName X.env q.nm .none; unbindBehindTheSuite X.env q.nm q.hp) (fun _ s7 => Q6 s7) X.xe s6 := fun S6 k => gone_ok (S6.unsuite ok) nd Q.slot Q.loc k
          cases f with
          | ret u =>
            obtain ⟨v6, τ6, G6, S6, r7, q6⟩ := r6
            exact off S6 fun s7 J7 => ⟨_, _, _, J7, r7, q6⟩
          | next =>
            obtain ⟨τ6, G6, S6, q6⟩ := r6
            exact off S6 fun s7 J7 => ⟨_, _, J7, q6⟩
          | brk =>
            obtain ⟨τ6, G6, S6, q6⟩ := r6
            exact off S6 fun s7 J7 => ⟨_, _, J7, q6⟩
          | cont =>
            obtain ⟨τ6, G6, S6, q6⟩ := r6
            exact off S6 fun s7 J7 => ⟨_, _, J7, q6⟩
    exact each (q0 :: qs) hq w
  · cases f with
    | ret u =>
      obtain ⟨v, τ, G, J, z, k⟩ := r
      exact ⟨v, τ, G, J.ofTry ok, z, k⟩
    | next =>
      obtain ⟨τ, G, J, k⟩ := r
      exact wpAny_execs_nil ⟨τ, G, J.ofTry ok, k⟩
    | brk =>
      obtain ⟨τ, G, J, k⟩ := r
      exact ⟨τ, G, J.ofTry ok, k⟩
    | cont =>
      obtain ⟨τ, G, J, k⟩ := r
      exact ⟨τ, G, J.ofTry ok, k⟩
end
theorem rw_as {K : PySem.W.Frag} {C0 : Addr} {i : Nat} {t2 : HCtx → TS} {ts : DCtx → DS} {Z : Hp} {W : WX} {w0 : DW} {D : Ends} {D' : DEnds} (l2 : ∀ Z0 h c, RC K Z0 h c → LS K Z0 (t2 h) (ts c)) (e : EndsR K Z D' D) (r : RW K Z W w0) :
    RW K Z (wAs K (.ref C0) i (fun a cls d => t2 ⟨fun _ _ _ _ => False, a, cls, d⟩) W D) (xAs K C0 i ts w0 D') := ⟨fun Z1 S1 H1 env1 σ1 C fs d z1 re1 r1 x1 w1 => by
  rcases w1 with ⟨m, w1⟩ | ⟨m, w1⟩
  · refine ⟨true, m, fun _ a ha => ?_, fun z => by cases z⟩
    refine (l2 Z1 ⟨fun _ _ _ _ => False, a, .ref C, d⟩ ⟨W0, some (a, C, fs)⟩ ⟨⟨fun _ _ _ _ _ _ _ _ _ _ _ _ z => z⟩, fun _ _ _ z => by cases z; exact ⟨rfl, rfl, x1⟩⟩).run Z1 S1 H1 _ _ _ _ (Same.refl _) (re1.set (.raw a) i) r1 (w1 a) ?_
    exact ⟨fun Z2 S2 H2 e2 σ2 z2 re2 r2 q => e.nx Z2 S2 H2 _ _ (z1.trans z2) (re2.setN i none) r2 q, fun Z2 S2 H2 d v z2 r2 p2 q => e.rt Z2 S2 H2 d v (z1.trans z2) r2 p2 q,
      fun Z2 S2 H2 e2 σ2 z2 re2 r2 q => e.bk Z2 S2 H2 _ _ (z1.trans z2) (re2.setN i none) r2 q, fun Z2 S2 H2 e2 σ2 z2 re2 r2 q => e.ct Z2 S2 H2 _ _ (z1.trans z2) (re2.setN i none) r2 q⟩
  · exact ⟨false, m, (fun z => by cases z), fun _ => r.run Z1 S1 H1 env1 σ1 C fs d z1 re1 r1 x1 w1⟩⟩
/-- the clauses, as data -/
def xCl (K : PySem.W.Frag) (w0 : DW) (D : DEnds) : List (Addr × Nat × (DCtx → DS)) → DW
  | [] => w0
  | q :: r => xAs K q.1 q.2.1 q.2.2 (xCl K w0 D r) D
def dTryCl (K : PySem.W.Frag) (l : List (Addr × Nat × (DCtx → DS))) (tb : DCtx → DS) (c : DCtx) : DS := fun D env S => tb ⟨xCl K c.w D l, none⟩ D env S
section
variable {F : Fm} {K : PySem.W.Frag} {P : Program} {w : World} {mg : Str → Option Value} {base : Heap} [fam : Fam F P w K mg base]
/-- clauses and what they are as data -/
structure PCl (F : Fm) (K : PySem.W.Frag) (hs : List ExceptHandler) (l : List (Addr × Nat × (DCtx → DS))) : Prop where
  ex : ∃ qs : List Cl, hs = qs.map Cl.hd ∧ (∀ k, ∀ q ∈ qs, q.Ok (F.X k)) ∧ ∀ (Z : Hp) (W : WX) (w0 : DW) (D : Ends) (D' : DEnds), EndsR K Z D' D → RW K Z W w0 → RW K Z (wCl K W D qs) (xCl K w0 D' l)
theorem cl_nil : PCl F K [] [] := ⟨[], rfl, fun _ _ h => absurd h (by simp), fun _ _ _ _ _ _ r => r⟩
include fam
theorem cl_cons {cn nm : Str} {b0 : Stmt} {su : List Stmt} {np hp : Pos} {C0 : Addr} {i : Nat} {ts : DCtx → DS} {hs : List ExceptHandler} {l : List (Addr × Nat × (DCtx → DS))} (hm : mg cn = some (.ref C0)) (hsu : PDSs (suF F) K (b0 :: su) ts) (r : PCl F K hs l)
    (hi : ∀ k, (F.X k).N[i]? = some nm := by intro _; rfl) (hln : ∀ k, (F.X k).env.kindOf nm = some .local := by intro _; rfl) (hg : ∀ k, Gl (F.X k) cn := by intro _; rfl) (hdb : (cn == ("__debug__" : Str)) = false := by decide) :
    PCl F K (.ExceptHandler (some (.Name cn np)) (some nm) (b0 :: su) hp :: hs) ((C0, i, ts) :: l) := by
  obtain ⟨qs, e, ok, rel⟩ := r.ex
  obtain ⟨t2, a2, l2⟩ := hsu.ex
  refine ⟨⟨cn, .ref C0, nm, i, b0, su, np, hp, fun a cls d => t2 ⟨fun _ _ _ _ => False, a, cls, d⟩⟩ :: qs, by rw [e]; rfl, fun k q hq => ?_, fun Z W w0 D D' e r => rw_as l2 e (rel Z W w0 D D' e r)⟩
  rcases List.mem_cons.mp hq with rfl | hq
  · exact ⟨⟨hg k, hdb, .inl (by rw [fam.mg k]; exact hm)⟩, hi k, hln k, fun a oe cls d pn zc vs => a2 ⟨k, a, oe, pn⟩ ⟨fun _ _ _ _ => False, a, cls, d⟩ ⟨rfl, rfl, zc, vs⟩⟩
  · exact ok k q hq
theorem s_tryCl {body : List Stmt} {tb : DCtx → DS} {h0 : ExceptHandler} {hs : List ExceptHandler} {l : List (Addr × Nat × (DCtx → DS))} {pos : Pos} (hN : ∀ k, (F.X k).N.Nodup) (hb : PDSs (trF F) K body tb) (hh : PCl F K (h0 :: hs) l) (hst : ∀ k, (F.X k).stack = (F.X k).env :: (F.X k).outer := by intro _; rfl) (hf : ∀ k, (F.X k).env.frame = some (F.X k).env.locals := by intro _; rfl) :
    PDS F K (.Try body (h0 :: hs) [] [] pos) (dTryCl K l tb) := by
  obtain ⟨t1, a1, l1⟩ := hb.ex
  obtain ⟨qs, e, ok, rel⟩ := hh.ex
  cases qs with
  | nil => cases e
  | cons q0 qs =>
    obtain ⟨rfl, rfl⟩ := List.cons.inj e
    refine ⟨fun h D σ H => t1 ⟨wCl K h.W D (q0 :: qs), 0, .none, none⟩ D σ H, fun k h q => ?_, fun Z h c r => ⟨fun Z1 S H env σ D D' s0 re rl hh2 e2 => ?_⟩⟩
    · have z := ps_try_cl (X := F.X k) (pos := pos) (Wout := h.W) (tb := fun W => t1 ⟨W, 0, .none, none⟩) (hst k) (hf k) (hN k) (F.tk k h q) (fun W pn xe tk po => a1 ⟨k, pn, xe, po⟩ ⟨W, 0, .none, none⟩ tk) (ok k)
      rw [fam.k k] at z
      exact z
    · refine (l1 Z1 _ ⟨xCl K c.w D' l, none⟩ ⟨rel Z1 h.W c.w D D' e2 ⟨fun Z2 S2 H2 env2 σ2 C fs d z2 => r.w.run Z2 S2 H2 env2 σ2 C fs d (s0.trans z2)⟩, fun _ _ _ z => by cases z⟩).run Z1 S H env σ D D' (Same.refl _) re rl hh2 e2
end
end DL
end

section
set_option Elab.async false
set_option linter.all false
set_option maxRecDepth 100000
set_option maxHeartbeats 1000000
namespace DL
open PySem PySem.Spec PyProof.Rows L2 GenW
section
variable {M : Model} {A : Around} {R : GenEnd} {Y : Protocol} {n : Nat} {s0 : Shared} {c : Code} {fs : List Frame} {s : Shared} {env : Env}
  {K : Flow → Sem PySem.Fin} {J : Value → Sem PySem.Fin} {gd : Bool → Bool} {lv : List Value → List Value}
theorem seg_if {test : Expr} {body orelse : List Stmt} {pos : Pos}
    (h : wpAny M (A.over c fs) (isTrue test env (eval test env)) (fun b s' => if b = true then Seg M A R Y n s0 c ((execs body env).wrap K J gd lv) fs s' else Seg M A R Y n s0 c ((execs orelse env).wrap K J gd lv) fs s') (fun x s' => Seg M A R Y n s0 c (J x) fs s') s) :
    Seg M A R Y n s0 c ((exec (.If test body orelse pos) env).wrap K J gd lv) fs s := by
  rw [exec_If]
  refine seg_bind_wrap (wpAny_standAt (seg_bind_wrap (wpAny_mono h (fun b s' hb => ?_) fun _ _ z => z)))
  cases b with
  | true => rw [if_pos rfl] at hb; exact hb
  | false => rw [if_neg Bool.false_ne_true] at hb; exact hb
theorem seg_for {target iter : Expr} {body orelse : List Stmt} {pos : Pos}
    (h : wpAny M (A.over c fs) (eval iter env) (fun x s1 => wpAny M (A.over c fs) (pyIter x) (fun it s2 => ∀ p, Seg M A R Y n s0 (.forLoop target it body orelse env) (M.den (.forLoop target it body orelse env))
      (.ret (fun r => ((match r with | .ok f => (.pure f : Sem Flow) | .error e => .raise e).onRaise (cameBack env)).wrap K J gd lv) none (gd false) (lv []) c p [] :: fs) s2)
        (fun x s' => Seg M A R Y n s0 c (J x) fs s') s1) (fun x s' => Seg M A R Y n s0 c (J x) fs s') s)
    (hs : ∀ x, foldedSetIterable iter env x = pure x) :
    Seg M A R Y n s0 c ((exec (.For target iter body orelse pos) env).wrap K J gd lv) fs s := by
  rw [exec_For]
  refine seg_bind_wrap (wpAny_standAt ?_)
  refine seg_bind_wrap (wpAny_mono h (fun x s1 h1 => ?_) fun _ _ z => z)
  refine seg_bind_wrap (wpAny_of_eq (hs x) ?_)
  refine seg_bind_wrap (wpAny_standAt ?_)
  refine seg_bind_wrap (wpAny_holding (wpAny_mono h1 (fun it s2 h2 => ?_) fun _ _ z => z))
  exact seg_call h2
end
section
variable {prog : Program} {w : World} {A : Around} {R : GenEnd} {Y : Protocol} {n : Nat} {s0 : Shared} {fs : List Frame} {s : Shared} {env : Env}
abbrev lost (env : Env) (e : Value) : Sem PySem.Fin := (do noteFrame e env; theTreesLotGoes e : Sem Unit).wrap (fun _ => .raise e) .raise id id
theorem seg_forLoop {target : Expr} {it : Value} {body orelse : List Stmt}
    (h : wpAny (model prog w) (A.over (.forLoop target it body orelse env) fs) (pyNext it) (fun r s1 => match r with
      | none => Seg (model prog w) A R Y n s0 (.forLoop target it body orelse env) (.pure (.again (.block orelse env))) fs s1
      | some v => wpAny (model prog w) (A.over (.forLoop target it body orelse env) fs) (letOwnedTupleGo target it v) (fun _ s2 => wpAny (model prog w) (A.over (.forLoop target it body orelse env) fs) (assign target env v) (fun _ s3 =>
          Seg (model prog w) A R Y n s0 (.forLoop target it body orelse env) ((execs body env).wrap (fun f => match f with
            | .next | .cont => .pure (.again (.forLoop target it body orelse env))
            | .brk => .pure (.done .next)
            | .ret v => .pure (.done (.ret v))) (lost env) id id) fs s3)
          (fun x s' => Seg (model prog w) A R Y n s0 (.forLoop target it body orelse env) (lost env x) fs s') s2) (fun x s' => Seg (model prog w) A R Y n s0 (.forLoop target it body orelse env) (lost env x) fs s') s1)
      (fun x s' => Seg (model prog w) A R Y n s0 (.forLoop target it body orelse env) (lost env x) fs s') s) :
    Seg (model prog w) A R Y n s0 (.forLoop target it body orelse env) ((model prog w).den (.forLoop target it body orelse env)) fs s := by
  show Seg _ A R Y n s0 _ ((forTurn target it body orelse env).onRaise (fun x => do noteFrame x env; theTreesLotGoes x)) fs s
  unfold forTurn
  rw [Sem.onRaise_eq_wrap]
  have ex : ∀ x s', Seg (model prog w) A R Y n s0 (.forLoop target it body orelse env) (lost env x) fs s' → Seg (model prog w) A R Y n s0 (.forLoop target it body orelse env) ((do noteFrame x env; theTreesLotGoes x : Sem Unit).bind fun _ => .raise x) fs s' := fun x s' z => by
    rw [Sem.bind_eq_wrap]; exact z
  refine seg_bind_wrap (wpAny_standAt ?_)
  refine seg_bind_wrap (wpAny_onRaise (wpAny_mono h (fun r s1 h1 => ?_) fun x s' z => wpAny_standAt (ex x s' z)))
  cases r with
  | none => exact h1
  | some v =>
    refine seg_bind_wrap (wpAny_mono h1 (fun _ s2 h2 => ?_) fun x s' z => ex x s' z)
    refine seg_bind_wrap (wpAny_mono h2 (fun _ s3 h3 => ?_) fun x s' z => ex x s' z)
    rw [Sem.bind_eq_wrap', Sem.wrap_wrap]
    rw [Sem.wrap_congr (execs body env) _ _ (K' := fun f => match f with
            | .next | .cont => .pure (.again (.forLoop target it body orelse env))
            | .brk => .pure (.done .next)
            | .ret v => .pure (.done (.ret v))) (H' := lost env) (fun f => by cases f <;> rfl) (fun e => by first | exact Sem.bind_eq_wrap _ _ | (show (do noteFrame e env; theTreesLotGoes e : Sem Unit).bind (fun _ => .raise e) = _; rw [Sem.bind_eq_wrap]))]
    exact h3
end
end DL
end

section
set_option Elab.async false
set_option linter.all false
set_option maxRecDepth 100000
set_option maxHeartbeats 1000000
/-! GK2: if and for within a generator's body. -/
namespace DL
open PySem PySem.Spec PyProof.Rows L2 GenW
section
variable {X : Cx}
def tGIf (c : TT) (t u : TGn) : TGn := fun D ys σ H => c σ H fun b H1 => if b = true then t D ys σ H1 else u D ys σ H1
theorem gs_if {test : Expr} {b1 b2 : List Stmt} {pos : Pos} {tc : TT} {t u : TGn} (hc : PT X test tc) (h1 : GSs X b1 t) (h2 : GSs X b2 u) : GS X (.If test b1 b2 pos) (tGIf tc t u) := by
  refine ⟨fun A S ip R n ys s0 c fs K J gd lv s σ H D g hn k hI ht => ?_⟩
  obtain ⟨acc, cc, r, I⟩ := hI
  refine seg_if ?_
  rw [g.over]
  refine wpAny_mono (hc.run _ s σ H _ I ht) (fun b s' hb => ?_) fun x s' hx => k.exc n s0 x s' hx
  obtain ⟨H2, I2, q2⟩ := hb
  cases b with
  | true =>
    rw [if_pos rfl] at q2
    exact h1.run A S ip R n ys s0 c fs K J gd lv s' σ H2 D g hn k ⟨acc, cc, r, I2⟩ q2
  | false =>
    rw [if_neg Bool.false_ne_true] at q2
    exact h2.run A S ip R n ys s0 c fs K J gd lv s' σ H2 D g hn k ⟨acc, cc, r, I2⟩ q2
def tGFor (wi : TI) (g : TG) (tb : TGn) : TGn := fun D ys σ H => wi σ H fun J H1 => ∃ W : Nat → Nat → List V → L2.St → Hp → Prop, (∃ m, W 0 m ys σ H1) ∧ ∀ i m ys σ H, W i m ys σ H →
  (J.stop i H ∧ D.nx ys σ H) ∨ (J.go i H ∧ ∃ N : List V → L2.St → Hp → Prop, (∀ ys' σ' H', N ys' σ' H' → ∃ m', m' < m ∧ W (i + 1) m' ys' σ' H') ∧ ∀ x H', J.yld i H x H' → g x σ H' fun σ2 H2 => tb { D with nx := N, ct := N, bk := D.nx } ys σ2 H2)
theorem fp_pins {X : Cx} {S : Addr} {o o' : Obj} {ip : List (Addr × Obj)} {H : Hp} {b : Addr} (h : FpOk X ((S, o) :: ip) H b) : FpOk X ((S, o') :: ip) H b := by
  obtain ⟨h1, h2, h3, h4, h5, h6⟩ := h
  refine ⟨h1, h2, h3, h4, h5, fun p hp => ?_⟩
  rcases List.mem_append.mp hp with hp | hp
  · exact h6 p (List.mem_append_left _ hp)
  · rcases List.mem_cons.mp hp with rfl | hp
    · exact h6 (S, o) (List.mem_append_right _ List.mem_cons_self)
    · exact h6 p (List.mem_append_right _ (List.mem_cons_of_mem _ hp))
theorem gs_for {tg iter : Expr} {body : List Stmt} {pos : Pos} {wi : TI} {gt : TG} {tb : TGn} (hp : PassesOwn (model X.prog X.w) X.A X.env X.xe) (hc : X.calm = true) (hi : PI X tg iter wi) (hg : PG X tg gt) (hb : GSs X body tb)
    (hs : ∀ x, foldedSetIterable iter X.env x = pure x := by intro _; rfl) : GS X (.For tg iter body [] pos) (tGFor wi gt tb) := by
  refine ⟨fun A S ip R n ys s0 c fs K J gd lv s σ H D g hn k hI ht => ?_⟩
  obtain ⟨acc, cc, r, I⟩ := hI
  refine seg_for ?_ hs
  rw [g.over]
  refine wpAny_mono (hi.run _ s σ H _ I ht) (fun v s1 h1 => wpAny_mono h1 (fun itv s2 h2 => ?_) fun x s' hx => k.exc n s0 x s' hx) fun x s' hx => k.exc n s0 x s' hx
  obtain ⟨it, fp, tn, JJ, H2, e, I2, T, st2, f2, W, ⟨m0, w0⟩, turn⟩ := h2
  subst e
  intro p
  have gl := fun (kk : Result → Sem PySem.Fin) => gc_loop (k := kk) (c' := .forLoop tg (.ref it) body [] X.env) (l := lv []) (kp := []) (p := p) g rfl rfl
  have loop : ∀ (m i n : Nat) (ys : List V) (s0 s : Shared) (σ : L2.St) (H : Hp), n + ys.length = sizeLine → W i m ys σ H → GI X S ip ys σ H s → tn i s.heap → (∀ b ∈ fp, H b = none) →
      Seg (model X.prog X.w) A R (GY X S) n s0 (.forLoop tg (.ref it) body [] X.env) ((model X.prog X.w).den (.forLoop tg (.ref it) body [] X.env))
        (.ret (fun r => ((match r with | .ok f => (.pure f : Sem Flow) | .error e => .raise e).onRaise (cameBack X.env)).wrap K J gd lv) none (gd false) (lv []) c p [] :: fs) s := by
    intro m
    induction m using Nat.strongRecOn with
    | ind m ih =>
      intro i n ys s0 s σ H hn w hI st fr
      have ee : ∀ (n : Nat) (s0 : Shared) (x : Value) (s' : Shared), X.xe x s' → Seg (model X.prog X.w) A R (GY X S) n s0 (.forLoop tg (.ref it) body [] X.env) (lost X.env x)
          (.ret (fun r => ((match r with | .ok f => (.pure f : Sem Flow) | .error e => .raise e).onRaise (cameBack X.env)).wrap K J gd lv) none (gd false) (lv []) c p [] :: fs) s' := fun n s0 x s' hx => by
        refine seg_wrap ?_
        rw [(gl _).over]
        refine wpAny_bind (wpAny_mono (hp x s' hx) (fun _ s'' hcb => wpAny_theTreesLotGoes ?_) fun y s'' hcb => ?_)
        · exact seg_leaf (.error x) (seg_cameBack g k hcb)
        · exact seg_leaf (.error y) (seg_cameBack g k hcb)
      refine seg_forLoop ?_
      rw [(gl _).over]
      obtain ⟨acc', cc', r', I'⟩ := hI
      have stat : ∀ {H' : Hp}, (∀ b ∈ fp, H' b = none) → ∀ b ∈ fp, FpOk X ((S, lstObj acc' cc') :: ip) H' b := fun {H'} hn b hb => by
        obtain ⟨h1, h2⟩ := fp_pins (o' := lstObj acc' cc') (f2 b hb)
        exact ⟨hn b hb, h2⟩
      rcases turn i m ys σ H w with ⟨stop, qn⟩ | ⟨go, N, hN, step⟩
      · refine wpAny_mono (T.done X rfl rfl rfl hc i _ s σ H X.xe I' (stat fr) st stop) (fun r3 s4 hr => ?_) fun x s' hx => ee n s0 x s' hx
        obtain ⟨hr, I4⟩ := hr
        subst hr
        refine seg_again rfl ?_
        exact seg_leaf (.ok .next) (k.ok n ys s0 s4 .next hn ⟨σ, H, ⟨acc', cc', r', I4⟩, qn⟩)
      · refine wpAny_mono (T.item X rfl rfl rfl hc i _ s σ H X.xe I' (stat fr) st go) (fun r3 s4 hr => ?_) fun x s' hx => ee n s0 x s' hx
        obtain ⟨u, hr, h4⟩ := hr
        subst hr
        refine wpAny_mono h4 (fun _ s5 h5 => ?_) fun x s' hx => ee n s0 x s' hx
        obtain ⟨x, H5, I5, r5, y5, st5, fr5⟩ := h5
        have I5' : Inv X ((S, lstObj acc' cc') :: (ip ++ pinsAt fp s5.heap)) σ H5 s5 := I5.pinned (stat fr5) (T.obj _ _ st5)
        refine wpAny_mono (hg.run _ s5 σ H5 x u _ I5' r5 (step x H5 y5)) (fun _ s6 h6 => ?_) fun x s' hx => ee n s0 x s' hx
        obtain ⟨σ6, H6, I6, q6⟩ := h6
        have gl2 : ∀ kk : Result → Sem PySem.Fin, GC X S (ip ++ pinsAt fp s5.heap) A (.forLoop tg (.ref it) body [] X.env) (.ret kk none (gd false) (lv []) c p [] :: fs) id := fun kk => by
          have z := gl kk
          refine ⟨z.pn, fun q hq => ?_, z.apart, z.over, z.split, z.guard, z.gd⟩
          rcases List.mem_append.mp hq with hq | hq
          · exact z.ip q hq
          · obtain ⟨hb, _⟩ := of_pinsAt hq
            exact Ne.symm ((stat fr5 q.1 hb).2.2.2.2.2 (S, lstObj acc' cc') (List.mem_append_right _ List.mem_cons_self))
        refine hb.run A S (ip ++ pinsAt fp s5.heap) R n ys s0 _ _ _ _ id id s6 σ6 H6 { D with nx := N, ct := N, bk := D.nx } (gl2 _) hn ⟨fun n' ys' s0' s3 f hn' hs => ?_, fun n' s0' x s3 hx => ee n' s0' x s3 hx⟩ ⟨acc', cc', r', I6⟩ q6
        have unpin : ∀ {ys7 : List V} {σ7 : L2.St} {H7 : Hp} {s7 : Shared}, GI X S (ip ++ pinsAt fp s5.heap) ys7 σ7 H7 s7 → GI X S ip ys7 σ7 H7 s7 ∧ tn (i + 1) s7.heap ∧ ∀ b ∈ fp, H7 b = none := fun {ys7 σ7 H7 s7} hg7 => by
          obtain ⟨acc7, cc7, r7, I7⟩ := hg7
          have I7' : Inv X (((S, lstObj acc7 cc7) :: ip) ++ pinsAt fp s5.heap) σ7 H7 s7 := I7
          refine ⟨⟨acc7, cc7, r7, I7'.unpinned⟩, T.keep _ _ _ st5 fun b hb o e => (I7'.pin (b, o) (List.mem_append_right _ (List.mem_append_right _ (mem_pinsAt hb e)))).1, fun b hb => ?_⟩
          obtain ⟨o, e, d⟩ := T.obj _ _ st5 b hb
          exact (I7'.pin (b, o) (List.mem_append_right _ (List.mem_append_right _ (mem_pinsAt hb e)))).2.1
        have again : ∀ {σ7 : L2.St} {H7 : Hp}, GI X S (ip ++ pinsAt fp s5.heap) ys' σ7 H7 s3 → N ys' σ7 H7 → Seg (model X.prog X.w) A R (GY X S) n' s0' (.forLoop tg (.ref it) body [] X.env) (.pure (.again (.forLoop tg (.ref it) body [] X.env)))
            (.ret (fun r => ((match r with | .ok f => (.pure f : Sem Flow) | .error e => .raise e).onRaise (cameBack X.env)).wrap K J gd lv) none (gd false) (lv []) c p [] :: fs) s3 := fun {σ7 H7} hg7 n7 => by
          obtain ⟨hg8, st8, fr8⟩ := unpin hg7
          obtain ⟨m', hm, w7⟩ := hN ys' σ7 H7 n7
          exact seg_again rfl (ih m' hm (i + 1) n' ys' s0' s3 σ7 H7 hn' w7 hg8 st8 fr8)
        cases f with
        | next =>
          obtain ⟨σ3, H3, I3, n3⟩ := hs
          exact again I3 n3
        | cont =>
          obtain ⟨σ3, H3, I3, n3⟩ := hs
          exact again I3 n3
        | brk =>
          obtain ⟨σ3, H3, I3, n3⟩ := hs
          exact seg_leaf (.ok .next) (k.ok n' ys' s0' s3 .next hn' ⟨σ3, H3, (unpin I3).1, n3⟩)
        | ret v =>
          obtain ⟨x3, σ3, H3, I3, r3, n3⟩ := hs
          exact seg_leaf (.ok (.ret v)) (k.ok n' ys' s0' s3 (.ret v) hn' ⟨x3, σ3, H3, (unpin I3).1, r3, n3⟩)
  exact loop m0 0 n ys s0 s2 σ H2 hn w0 ⟨acc, cc, r, I2⟩ st2 fun b hb => (f2 b hb).1
end
end DL
end

section
set_option Elab.async false
set_option linter.all false
set_option autoImplicit false
set_option maxRecDepth 100000
set_option maxHeartbeats 2000000
/-! DL22: bodies of generators as data; a generator called within list(..). -/
namespace DL
open PySem PySem.Spec PyProof.Rows L2 GenW
structure DGEnds where
  nx : List D → DEnv → Sto → Prop
  rt : List D → DV
  bk : List D → DEnv → Sto → Prop := fun _ _ _ => False
  ct : List D → DEnv → Sto → Prop := fun _ _ _ => False
abbrev DGn := DGEnds → List D → DEnv → Sto → Prop
def DGEnds.at (E : DGEnds) (ys : List D) : DEnds := { nx := E.nx ys, rt := E.rt ys, bk := E.bk ys, ct := E.ct ys }
structure GEndsR (K : PySem.W.Frag) (Z : Hp) (E' : DGEnds) (E : GEnds) : Prop where
  nx : ∀ (Z' : Hp) (S' : Sto) (H' : Hp) (env' : DEnv) (σ' : L2.St) (ds : List D) (ys : List V), Same Z Z' → RelE K Z' env' σ' → Rel K Z' S' H' → Reps K Z' ds ys → E'.nx ds env' S' → E.nx ys σ' H'
  rt : ∀ (Z' : Hp) (S' : Sto) (H' : Hp) (d : D) (v : V) (ds : List D) (ys : List V), Same Z Z' → Rel K Z' S' H' → Rep K Z' d v → Reps K Z' ds ys → E'.rt ds d S' → E.rt ys v H'
  bk : ∀ (Z' : Hp) (S' : Sto) (H' : Hp) (env' : DEnv) (σ' : L2.St) (ds : List D) (ys : List V), Same Z Z' → RelE K Z' env' σ' → Rel K Z' S' H' → Reps K Z' ds ys → E'.bk ds env' S' → E.bk ys σ' H'
  ct : ∀ (Z' : Hp) (S' : Sto) (H' : Hp) (env' : DEnv) (σ' : L2.St) (ds : List D) (ys : List V), Same Z Z' → RelE K Z' env' σ' → Rel K Z' S' H' → Reps K Z' ds ys → E'.ct ds env' S' → E.ct ys σ' H'
structure LGn (K : PySem.W.Frag) (Z0 : Hp) (t : TGn) (t' : DGn) : Prop where
  run : ∀ (Z : Hp) (S : Sto) (H : Hp) (env : DEnv) (σ : L2.St) (E : GEnds) (E' : DGEnds) (ds : List D) (ys : List V), Same Z0 Z → RelE K Z env σ → Rel K Z S H → Reps K Z ds ys → t' E' ds env S → GEndsR K Z E' E → t E ys σ H
section
variable {K : PySem.W.Frag} {Z0 : Hp}
theorem GEndsR.mono {Z Z' : Hp} {E' : DGEnds} {E : GEnds} (h : GEndsR K Z E' E) (s : Same Z Z') : GEndsR K Z' E' E :=
  ⟨fun Z2 S H e σ ds ys q => h.nx Z2 S H e σ ds ys (s.trans q), fun Z2 S H d v ds ys q => h.rt Z2 S H d v ds ys (s.trans q), fun Z2 S H e σ ds ys q => h.bk Z2 S H e σ ds ys (s.trans q), fun Z2 S H e σ ds ys q => h.ct Z2 S H e σ ds ys (s.trans q)⟩
theorem GEndsR.at {Z : Hp} {E' : DGEnds} {E : GEnds} (h : GEndsR K Z E' E) {ds : List D} {ys : List V} (r : Reps K Z ds ys) : EndsR K Z (E'.at ds) (E.at ys) :=
  ⟨fun Z2 S H e σ q re rl hh => h.nx Z2 S H e σ ds ys q re rl (r.mono q) hh, fun Z2 S H d v q rl rv hh => h.rt Z2 S H d v ds ys q rl rv (r.mono q) hh, fun Z2 S H e σ q re rl hh => h.bk Z2 S H e σ ds ys q re rl (r.mono q) hh, fun Z2 S H e σ q re rl hh => h.ct Z2 S H e σ ds ys q re rl (r.mono q) hh⟩
/-! ### statements -/
def gPlain (t : DS) : DGn := fun E ys env S => t (E.at ys) env S
theorem lgn_plain {t : TS} {t' : DS} (h : LS K Z0 t t') : LGn K Z0 (tPlain t) (gPlain t') := ⟨fun Z S H env σ E E' ds ys s0 re rl r q e => h.run Z S H env σ _ _ s0 re rl q (e.at r)⟩
def g0 : DGn := fun E ys env S => E.nx ys env S
theorem lgn_nil : LGn K Z0 tG0 g0 := ⟨fun Z S H env σ E E' ds ys s0 re rl r q e => e.nx _ _ _ _ _ _ _ (Same.refl _) re rl r q⟩
def gThen (t u : DGn) : DGn := fun E ys env S => t { E with nx := u E } ys env S
theorem lgn_then {t u : TGn} {t' u' : DGn} (h1 : LGn K Z0 t t') (h2 : LGn K Z0 u u') : LGn K Z0 (tGThen t u) (gThen t' u') := ⟨fun Z S H env σ E E' ds ys s0 re rl r q e =>
  h1.run Z S H env σ _ _ ds ys s0 re rl r q ⟨fun Z1 S1 H1 env1 σ1 ds1 ys1 s1 re1 r1 rr1 hx => h2.run Z1 S1 H1 env1 σ1 _ _ ds1 ys1 (s0.trans s1) re1 r1 rr1 hx (e.mono s1), e.rt, e.bk, e.ct⟩⟩
def gIf (c : DT) (t u : DGn) : DGn := fun E ys env S => c env S fun b S1 => if b = true then t E ys env S1 else u E ys env S1
theorem lgn_if {c : TT} {c' : DT} {t u : TGn} {t' u' : DGn} (hc : LT K Z0 c c') (h1 : LGn K Z0 t t') (h2 : LGn K Z0 u u') : LGn K Z0 (tGIf c t u) (gIf c' t' u') := ⟨fun Z S H env σ E E' ds ys s0 re rl r q e =>
  hc.run Z S H env σ _ _ s0 re rl q fun Z1 S1 H1 b s1 r1 hx => by
    by_cases hb : b = true
    · rw [if_pos hb] at hx ⊢
      exact h1.run Z1 S1 H1 env σ _ _ ds ys (s0.trans s1) (re.mono s1) r1 (r.mono s1) hx (e.mono s1)
    · rw [if_neg hb] at hx ⊢
      exact h2.run Z1 S1 H1 env σ _ _ ds ys (s0.trans s1) (re.mono s1) r1 (r.mono s1) hx (e.mono s1)⟩
def gYield (te : DE) : DGn := fun E ys env S => ys.length < sizeLine ∧ te env S fun x S1 => E.nx (ys ++ [x]) env S1
theorem lgn_yield {te : TE} {te' : DE} (h : LE K Z0 te te') : LGn K Z0 (tGYield te) (gYield te') := ⟨fun Z S H env σ E E' ds ys s0 re rl r q e =>
  ⟨by rw [← r.length]; exact q.1, h.run Z S H env σ _ _ s0 re rl q.2 fun Z1 S1 H1 d v s1 r1 p1 hx => e.nx _ _ _ _ _ _ _ s1 (re.mono s1) r1 ((r.mono s1).append (.cons p1 .nil)) hx⟩⟩
def gWhile (c : DT) (tb : DGn) : DGn := fun E ys env S => ∃ P : Nat → List D → DEnv → Sto → Prop, (∃ m, P m ys env S) ∧ ∀ m ys env S, P m ys env S →
  c env S fun b S1 => if b = true then tb { E with nx := fun ys e s => ∃ m', m' < m ∧ P m' ys e s, ct := fun ys e s => ∃ m', m' < m ∧ P m' ys e s, bk := E.nx } ys env S1 else E.nx ys env S1
theorem lgn_while {c : TT} {c' : DT} {t : TGn} {t' : DGn} (hc : LT K Z0 c c') (hb : LGn K Z0 t t') : LGn K Z0 (tGWhile c t) (gWhile c' t') := ⟨fun Z S H env σ E E' ds ys s0 re rl r hh e => by
  obtain ⟨P, ⟨m0, p0⟩, turn⟩ := hh
  refine ⟨fun m ys σ H => ∃ Z' S env ds, Same Z Z' ∧ RelE K Z' env σ ∧ Rel K Z' S H ∧ Reps K Z' ds ys ∧ P m ds env S, ⟨m0, Z, S, env, ds, Same.refl Z, re, rl, r, p0⟩, ?_⟩
  rintro m ys1 σ1 H1 ⟨Z1, S1, env1, ds1, s1, re1, r1, rr1, p1⟩
  refine hc.run Z1 S1 H1 env1 σ1 _ _ (s0.trans s1) re1 r1 (turn m ds1 env1 S1 p1) fun Z2 S2 H2 b s2 r2 hx => ?_
  by_cases hb' : b = true
  · rw [if_pos hb'] at hx ⊢
    refine ⟨fun ys' σ' H' => ∃ Z' S env ds m', m' < m ∧ Same Z Z' ∧ RelE K Z' env σ' ∧ Rel K Z' S H' ∧ Reps K Z' ds ys' ∧ P m' ds env S, fun ys' σ' H' ⟨Z', S, env, ds, m', hm, s', re', r', rr', p'⟩ => ⟨m', hm, Z', S, env, ds, s', re', r', rr', p'⟩, ?_⟩
    refine hb.run Z2 S2 H2 env1 σ1 _ _ ds1 ys1 (s0.trans (s1.trans s2)) (re1.mono s2) r2 (rr1.mono s2) hx ⟨fun Z3 S3 H3 env3 σ3 ds3 ys3 s3 re3 r3 rr3 p3 => ?_, fun Z3 S3 H3 d v ds3 ys3 s3 => e.rt Z3 S3 H3 d v ds3 ys3 ((s1.trans s2).trans s3),
      fun Z3 S3 H3 env3 σ3 ds3 ys3 s3 => e.nx Z3 S3 H3 env3 σ3 ds3 ys3 ((s1.trans s2).trans s3), fun Z3 S3 H3 env3 σ3 ds3 ys3 s3 re3 r3 rr3 p3 => ?_⟩
    all_goals
      obtain ⟨m', hm, p3⟩ := p3
      exact ⟨Z3, S3, env3, ds3, m', hm, (s1.trans s2).trans s3, re3, r3, rr3, p3⟩
  · rw [if_neg hb'] at hx ⊢
    exact e.nx _ _ _ _ _ _ _ (s1.trans s2) (re1.mono s2) r2 (rr1.mono s2) hx⟩
def gFor (wi : DI) (g : DG) (tb : DGn) : DGn := fun E ys env S => wi env S fun items G S1 => ∃ P : Nat → List D → DEnv → Sto → Prop, P 0 ys env S1 ∧ (∀ i ys env S, P i ys env S → G S) ∧
  (∀ i x ys env S, items[i]? = some x → P i ys env S → g x env S fun env2 S2 => tb { E with nx := P (i + 1), ct := P (i + 1), bk := E.nx } ys env2 S2) ∧ (∀ ys env S, P items.length ys env S → E.nx ys env S)
theorem lgn_for {wi : TI} {wi' : DI} {ws : List Nat} {g : TG} {g' : DG} {t : TGn} {t' : DGn} (hi : LI K Z0 wi wi') (hg : LG K Z0 ws g g') (hb : LGn K Z0 t t') : LGn K Z0 (tGFor wi g t) (gFor wi' g' t') := ⟨fun Z S H env σ E E' ds ys s0 re rl r hh e => by
  refine hi.run Z S H env σ _ _ s0 re rl hh fun Z1 S1 H1 J items G s1 r1 wk hx => ?_
  obtain ⟨P, p0, pG, turn, done⟩ := hx
  refine ⟨fun i m ys σ H => i ≤ items.length ∧ m = items.length - i ∧ ∃ Z' S env ds, Same Z1 Z' ∧ RelE K Z' env σ ∧ Rel K Z' S H ∧ Reps K Z' ds ys ∧ P i ds env S, ⟨items.length, Nat.zero_le _, rfl, Z1, S1, env, ds, Same.refl _, re.mono s1, r1, r.mono s1, p0⟩, ?_⟩
  rintro i m ys2 σ2 H2 ⟨hi, rfl, Z2, S2, env2, ds2, s2, re2, r2, rr2, p2⟩
  by_cases hlt : i < items.length
  · refine .inr ⟨wk.goes Z2 S2 H2 i s2 r2 (pG i ds2 env2 S2 p2) hlt, fun ys' σ' H' => ∃ Z' S env ds, Same Z1 Z' ∧ RelE K Z' env σ' ∧ Rel K Z' S H' ∧ Reps K Z' ds ys' ∧ P (i + 1) ds env S, fun ys' σ' H' ⟨Z', S, env, ds, s', re', r', rr', p'⟩ => ⟨items.length - (i + 1), by omega, hlt, rfl, Z', S, env, ds, s', re', r', rr', p'⟩, fun x H' y => ?_⟩
    obtain ⟨Z3, d, s3, r3, e3, q3⟩ := wk.yields Z2 S2 H2 i x H' s2 r2 (pG i ds2 env2 S2 p2) hlt y
    refine hg.run Z3 S2 H' env2 σ2 d x _ _ ((s0.trans s1).trans (s2.trans s3)) (re2.mono s3) r3 q3 (turn i d ds2 env2 S2 e3 p2) fun Z4 S4 H4 env4 σ4 s4 re4 r4 _ h4 => ?_
    have sT := (s2.trans s3).trans s4
    exact hb.run Z4 S4 H4 env4 σ4 _ _ ds2 ys2 ((s0.trans s1).trans sT) re4 r4 (rr2.mono (s3.trans s4)) h4 ⟨fun Z5 S5 H5 env5 σ5 ds5 ys5 s5 re5 r5 rr5 p5 => ⟨Z5, S5, env5, ds5, sT.trans s5, re5, r5, rr5, p5⟩, fun Z5 S5 H5 d v ds5 ys5 s5 => e.rt Z5 S5 H5 d v ds5 ys5 ((s1.trans sT).trans s5),
      fun Z5 S5 H5 env5 σ5 ds5 ys5 s5 => e.nx Z5 S5 H5 env5 σ5 ds5 ys5 ((s1.trans sT).trans s5), fun Z5 S5 H5 env5 σ5 ds5 ys5 s5 re5 r5 rr5 p5 => ⟨Z5, S5, env5, ds5, sT.trans s5, re5, r5, rr5, p5⟩⟩
  · have ei : i = items.length := by omega
    subst ei
    exact .inl ⟨wk.stops Z2 S2 H2 s2 r2 (pG _ ds2 env2 S2 p2), e.nx _ _ _ _ _ _ _ (s1.trans s2) re2 r2 rr2 (done ds2 env2 S2 p2)⟩⟩
end
/-! ### judgements -/
structure PDGn (F : Fm) (K : PySem.W.Frag) (s : Stmt) (t' : DCtx → DGn) : Prop where
  ex : ∃ t : HCtx → TGn, (∀ i h, F.ok i h → GS (F.X i) s (t h)) ∧ ∀ Z0 h c, RC K Z0 h c → LGn K Z0 (t h) (t' c)
structure PDGb (F : Fm) (K : PySem.W.Frag) (s : List Stmt) (t' : DCtx → DGn) : Prop where
  ex : ∃ t : HCtx → TGn, (∀ i h, F.ok i h → GSs (F.X i) s (t h)) ∧ ∀ Z0 h c, RC K Z0 h c → LGn K Z0 (t h) (t' c)
section
variable {F : Fm} {K : PySem.W.Frag} {P : Program} {w : World} {mg : Str → Option Value} {base : Heap} [fam : Fam F P w K mg base]
variable {c e : Expr} {te : DCtx → DE} {tt : DCtx → DT} {s : Stmt} {ss s1 s2 : List Stmt} {ds : DCtx → DS} {du dv : DCtx → DGn} {pos p yp : Pos} {ws : List Nat}
include fam
theorem gn_plain (h : PDS F K s ds) : PDGn F K s (fun c => gPlain (ds c)) := by
  obtain ⟨t1, a1, l1⟩ := h.ex
  exact ⟨_, fun k h q => gs_ps (a1 k h q), fun Z h c r => lgn_plain (l1 Z h c r)⟩
theorem gb_nil : PDGb F K [] (fun _ => g0) := ⟨fun _ => _, fun _ _ _ => gss_nil, fun _ _ _ _ => lgn_nil⟩
theorem gb_c (h1 : PDGn F K s du) (h2 : PDGb F K ss dv) : PDGb F K (s :: ss) (fun c => gThen (du c) (dv c)) := by
  obtain ⟨t1, a1, l1⟩ := h1.ex
  obtain ⟨t2, a2, l2⟩ := h2.ex
  exact ⟨_, fun k h q => gss_cons (a1 k h q) (a2 k h q), fun Z h c r => lgn_then (l1 Z h c r) (l2 Z h c r)⟩
theorem gn_if (hc : PDT F K c tt) (h1 : PDGb F K s1 du) (h2 : PDGb F K s2 dv) : PDGn F K (.If c s1 s2 pos) (fun c => gIf (tt c) (du c) (dv c)) := by
  obtain ⟨t0, a0, l0⟩ := hc.ex
  obtain ⟨t1, a1, l1⟩ := h1.ex
  obtain ⟨t2, a2, l2⟩ := h2.ex
  exact ⟨_, fun k h q => gs_if (a0 k h q) (a1 k h q) (a2 k h q), fun Z h c r => lgn_if (l0 Z h c r) (l1 Z h c r) (l2 Z h c r)⟩
theorem gn_yield (h : PD F K e te) (hco : ∀ k, (F.X k).env.scope.isCoroutine = false := by intro _; rfl) (hi : ∀ k, interactive (F.X k).env = false := by intro _; rfl) : PDGn F K (.Expr (.Yield (some e) yp) pos) (fun c => gYield (te c)) := by
  obtain ⟨t1, a1, l1⟩ := h.ex
  exact ⟨_, fun k h q => gs_yield (a1 k h q) (hco k) (hi k), fun Z h c r => lgn_yield (l1 Z h c r)⟩
theorem gn_while (hp : PsO F) (hc : PDT F K c tt) (hb : PDGb F K ss du) : PDGn F K (.While c ss [] pos) (fun c => gWhile (tt c) (du c)) := by
  obtain ⟨t1, a1, l1⟩ := hc.ex
  obtain ⟨t2, a2, l2⟩ := hb.ex
  exact ⟨_, fun k h q => gs_while (hp k) (a1 k h q) (a2 k h q), fun Z h c r => lgn_while (l1 Z h c r) (l2 Z h c r)⟩
theorem gn_for {tg iter : Expr} {wi : DCtx → DI} {g : DCtx → DG} (hp : PsO F) (hi : PDI F K tg iter wi) (hg : PDG F K ws tg g) (hb : PDGb F K ss du) (hc : ∀ k, (F.X k).calm = true := by intro _; rfl) (hs : ∀ k x, foldedSetIterable iter (F.X k).env x = pure x := by intro _ _; rfl) :
    PDGn F K (.For tg iter ss [] pos) (fun c => gFor (wi c) (g c) (du c)) := by
  obtain ⟨t1, a1, l1⟩ := hi.ex
  obtain ⟨t2, a2, l2⟩ := hg.ex
  obtain ⟨t3, a3, l3⟩ := hb.ex
  exact ⟨_, fun k h q => gs_for (hp k) (hc k) (a1 k h q) (a2 k h q) (a3 k h q) (hs k), fun Z h c r => lgn_for (l1 Z h c r) (l2 Z h c r) (l3 Z h c r)⟩
end
/-! ### a generator def by its body -/
/-- what a generator promises: all that it hands out -/
abbrev DFG := List D → Sto → (List D → Sto → Prop) → DX → Prop
def spDG (K : PySem.W.Frag) (F : DFG) : SpG := fun vs H Q E => ∃ (Z : Hp) (S : Sto) (ds : List D) (Q' : List D → Sto → Prop) (E' : DX), Rel K Z S H ∧ Reps K Z ds vs ∧ F ds S Q' E' ∧
  (∀ (Z' : Hp) (S' : Sto) (H' : Hp) (ys : List D) (vs : List V), Same Z Z' → Rel K Z' S' H' → Reps K Z' ys vs → Q' ys S' → Q vs H') ∧
  (∀ (Z' : Hp) (S' : Sto) (H' : Hp) (C : Addr) (fs : List (Str × D)) (d : Option Addr), Same Z Z' → Rel K Z' S' H' → XR K Z' fs d → E' C fs S' → E (.ref C) d H')
section
variable {P : Program} {w : World} {K : PySem.W.Frag} {mg : Str → Option Value} {base : Heap}
structure GI' (qual : Str) (scope : Scope) (f : Addr) (k : Nat) extends BI qual scope f k where
  pn : List (Addr × Obj)
def GF (P : Program) (w : World) (K : PySem.W.Frag) (mg : Str → Option Value) (base : Heap) (N : List Str) (qual : Str) (scope : Scope) (f : Addr) (k : Nat) : Fm where
  ι := GI' qual scope f k
  X := fun i => gcxOf P w K mg base N qual scope f i.cdv i.A i.outer i.s i.H i.E i.pn
  ok := fun i h => h.W = fun cls d _ H => i.E cls d H
  tk := fun i h e => by rw [e]; exact takes_gcx
instance {N : List Str} {qual : Str} {scope : Scope} {f : Addr} {k : Nat} : Fam (GF P w K mg base N qual scope f k) P w K mg base :=
  ⟨fun _ => rfl, fun _ => rfl, fun _ => rfl, fun _ => rfl, fun _ => rfl⟩
theorem gf_room {N : List Str} {qual : Str} {scope : Scope} {f : Addr} {k : Nat} : ∀ i, Room k ((GF P w K mg base N qual scope f k).X i).A := fun i => i.room
theorem gf_pso {N : List Str} {qual : Str} {scope : Scope} {f : Addr} {k : Nat} : PsO (GF P w K mg base N qual scope f k) := fun i => owns_gcx
/-- a generator's end: what it laid may be forgotten -/
def endG (Q : List D → Sto → Prop) : DGEnds := { nx := fun ys _ S' => ∃ S2 : Sto, (∀ b o, S2 b = some o → S' b = some o) ∧ Q ys S2, rt := fun ys d S' => d = .non ∧ ∃ S2 : Sto, (∀ b o, S2 b = some o → S' b = some o) ∧ Q ys S2 }
theorem gn_ok {x qual : Str} {params : Arguments} {body : List Stmt} {scope : Scope} {dvs : List V} {kws : List (Str × V)} {f : Addr} {fd : FuncData} {N ps : List Str} {k : Nat} {G : DFG} (F0 : FunD K x qual params body scope dvs kws f fd) (S : GScope N ps scope)
    (len : ∀ ds S Q E, G ds S Q E → ds.length = ps.length) {t' : DCtx → DGn} (hbody : PDGb (GF P w K mg base N qual scope f k) K body t')
    (rd : ∀ ds S Q E, G ds S Q E → t' ⟨fun C fs _ S => E C fs S, none⟩ (endG Q) [] (startD N ds) S) : GFn P w K mg base (k + 1) f fd ps (spDG K G) := by
  obtain ⟨oc, od, dV, kV, doc, pm, an, cdv, ct, osl, rfl, lk, hcd, _, _⟩ := F0.ex
  refine gfn_of lk hcd S (fun vs H Q E h => ?_) fun A outer s H vs Q E pn hr h => ?_
  · obtain ⟨Z, St, ds, Q', E', _, r, hF, _⟩ := h
    rw [← r.length]
    exact len _ _ _ _ hF
  · obtain ⟨Z, St, ds, Q', E', rl, r, hF, hQ, hE⟩ := h
    obtain ⟨t, a1, l1⟩ := hbody
    refine ⟨t ⟨fun cls d _ H => E cls d H, 0, .none, none⟩, a1 ⟨⟨cdv, A, outer, s, H, E, hr⟩, pn⟩ _ rfl, (l1 Z _ _ ⟨⟨fun Z1 S1 H1 env σ C fs d s1 _ r1 x1 w1 => hE Z1 S1 H1 C fs d s1 r1 x1 w1⟩, fun _ _ _ h => by cases h⟩).run Z St H _ _ _ _ [] [] (Same.refl Z) (relE_start r) rl .nil (rd ds St Q' E' hF)
      ⟨fun Z1 S1 H1 env1 σ1 ds ys s1 _ r1 rr ⟨S2, w2, h1⟩ => hQ Z1 S2 H1 ds ys s1 (r1.weak w2) rr h1, fun Z1 S1 H1 d v ds ys s1 r1 p1 rr h1 => ?_, fun _ _ _ _ _ _ _ _ _ _ _ h => h.elim, fun _ _ _ _ _ _ _ _ _ _ _ h => h.elim⟩⟩
    obtain ⟨rfl, S2, w2, h1⟩ := h1
    cases p1
    exact ⟨rfl, hQ Z1 S2 H1 ds ys s1 (r1.weak w2) rr h1⟩
/-- a generator def that is known -/
structure GnD (P : Program) (w : World) (K : PySem.W.Frag) (mg : Str → Option Value) (base : Heap) (k : Nat) (x : Str) (F : DFG) (dds : List D) : Prop where
  ex : ∃ (f : Addr) (fd : FuncData) (ps : List Str) (dvs : List V) (ds : List Value), GFn P w K mg base k f fd ps (spDG K F) ∧ mg x = some (.ref f) ∧ PySem.W.keepIn K (.ref f) = true ∧ Binds K fd ps ds ∧ Vals dvs ds ∧ ∀ Z, Reps K Z dds dvs
end
/-! ### list(g(..)) -/
/-- not a class that ends an iterator -/
def NoS (K : PySem.W.Frag) (cls : Value) : Prop := PySem.W.subIn K cls (.type "StopIteration") = some false
def tLiG (K : PySem.W.Frag) (sp : SpG) (dvs : List V) (W : WX) (t : TA) : TE := fun σ H Q => t σ H fun vs H1 => sp (vs ++ dvs) H1 (fun out H2 => ∀ p, H2 p = none → Q (.ref p) (upd H2 p (.lst out))) fun cls d H => NoS K cls ∧ W cls d σ H
section
variable {X : Cx} {k : Nat} {f : Addr} {fd : FuncData} {ps : List Str} {sp : SpG} {dvs : List V} {ds : List Value} {W : WX} {x nm : Str} {p p2 pos pos2 : Pos} {e : Expr} {es : List Expr} {t : TA}
theorem pe_liG (tk : Takes X W) (F : GFn X.prog X.w X.K X.mg X.base k f fd ps sp) (hr : Room (k + 3) X.A) (hgl : Gl X x) (hm : X.mg x = some (.ref f)) (hk : PySem.W.keepIn X.K (.ref f) = true) (hb : Binds X.K fd ps ds) (hd : Vals dvs ds)
    (ha : PA X (e :: es) t) (hg : Gl X nm) (hmg : X.mg nm = none) (hv : bootBuiltins nm = some (.type "list")) (hdx : (x == ("__debug__" : Str)) = false) (he : starEach (e :: es) X.env = (false, eval e X.env) :: starEach es X.env) (hpl : (backTo pos (starEach es X.env)).any (·.1) = false)
    (hnm : nm ≠ "__name__") (hdb : (nm == ("__debug__" : Str)) = false)
    (hl : starEach [.Call (.Name x p) (e :: es) [] pos] X.env = (false, eval (.Call (.Name x p) (e :: es) [] pos) X.env) :: starEach [] X.env) : PE X (.Call (.Name nm p2) [.Call (.Name x p) (e :: es) [] pos] [] pos2) (tLiG X.K sp dvs W t) := by
  refine ⟨fun pins s σ H Q I hq => wpAny_Call_Name_kw (ld_blt I hg hmg hv (PyProof.Rows.callWith_type1 ?_ hl rfl) hnm hdb)⟩
  rw [hl]
  show wpAny _ _ (spliced ((false, eval _ X.env) :: backTo pos2 (starEach [] X.env))) _ _ s
  have go := (pgen_call (E := fun cls d H => NoS X.K cls ∧ W cls d σ H) F (hr.mono (by omega)) hgl hm hk hb hd ha hdx he hpl (p := p)).run pins s σ H _ I hq
  refine Calls.spliced_cons (thn go fun gv s1 hgv => Calls.spliced_nil ?_)
  obtain ⟨Hg, sg, exs, Ig, okx, made⟩ := hgv
  have up : sg.heap.objs.size ≤ s1.heap.objs.size := by
    obtain ⟨_, _, _, _, u1, u2, _⟩ := made
    exact Nat.le_of_lt (Nat.lt_of_le_of_lt u1 u2)
  refine call_list_new hr Ig.ok.frames made (fun A1 s2 ac cc H2 out k0 k1 k2 k3 k4 k5 k6 k7 k8 k9 => ⟨.ref A1, upd H2 A1 (.lst out), Ig.drained (Nat.le_trans up k0) k3 k1 k2 okx k4 k5 k6 k7 k8, rfl, k9 A1 k8⟩) fun ev s2 gn hc => ?_
  have inK : X.K.In s2.heap := by
    obtain ⟨_, B, _, _, _, _, fl, _, un, _⟩ := id hc
    refine Ig.ok.mod.kin.keeps fun b o hb0 => fl.1 b o (un.keep b o (Ig.bs b o hb0).1 (Ig.bs b o hb0).2 fun hmem => ?_)
    rcases List.mem_cons.mp (Ig.stkSub b hmem) with q | q
    · have l1 := Heap.lt_size hb0
      have l2 := Nat.le_trans Ig.ok.bsz Ig.ok.above
      rw [q] at l1
      exact (Nat.lt_irrefl _ (Nat.lt_of_lt_of_le l1 l2)).elim
    · exact Ig.ok.nofr hb0 q
  have hns := notStop_of (fun _ _ _ z => z.1) inK hc
  have hc2 : CX X.prog X.w X.stack Hg sg (fun cls d H => NoS X.K cls ∧ W cls d σ H) ev (s2.setGen gn .finished) := by
    obtain ⟨a, B, Hx, cls, d, z1, z2, z3, z4, z5, z6, z7, z8⟩ := hc
    exact ⟨a, B, Hx, cls, d, z1, z2, z3, z4, z5, z6, allBare_setGen z7 rfl, z8⟩
  exact ⟨hns, tk ev _ (XE.of_call Ig (fun _ _ _ z => z.2) hc2)⟩
end
def dLiG (F : DFG) (NS : Addr → Prop) (dds : List D) (W' : DW) (t : DA) : DE := fun env S Q => t env S fun ds S1 => F (ds ++ dds) S1 (fun ys S2 => Q (.lst ys) S2) (fun C fs S' => NS C ∧ W' C fs env S')
def dLiGM (F : DFG) (NS : Addr → Prop) (dds : List D) (W' : DW) (t : DA) : DE := fun env S Q => t env S fun ds S1 => F (ds ++ dds) S1 (fun ys S2 => ∀ a, S2 a = none → Q (.raw a) (updS S2 a (.lst ys))) (fun C fs S' => NS C ∧ W' C fs env S')
section
variable {K : PySem.W.Frag} {Z0 : Hp} {ar : TA} {ar' : DA} {G : DFG} {W : WX} {W' : DW} {dvs : List V} {dds : List D} {NS : Addr → Prop}
theorem le_liG (hn : ∀ C, NS C → NoS K (.ref C)) (hd : ∀ Z, Reps K Z dds dvs) (rw' : RW K Z0 W W') (h : LA K Z0 ar ar') : LE K Z0 (tLiG K (spDG K G) dvs W ar) (dLiG G NS dds W' ar') := ⟨fun Z S H env σ Q Q' s0 re rl hh q =>
  h.run Z S H env σ _ _ s0 re rl hh fun Z1 S1 H1 ds vs s1 r1 p1 h1 => ⟨Z1, S1, ds ++ dds, _, _, r1, p1.append (hd Z1), h1, fun Z2 S2 H2 ys us s2 r2 p2 h2 => fun p hp => by
      obtain ⟨r3, s3⟩ := r2.laid (o := .lst us) hp
      exact q _ _ _ _ _ ((s1.trans s2).trans s3) r3 (.lst upd_same (p2.mono s3)) h2,
    fun Z2 S2 H2 C fs d s2 r2 x2 w2 => ⟨hn C w2.1, rw'.run Z2 S2 H2 env σ C fs d ((s0.trans s1).trans s2) (re.mono (s1.trans s2)) r2 x2 w2.2⟩⟩⟩
theorem le_liGM (hn : ∀ C, NS C → NoS K (.ref C)) (hd : ∀ Z, Reps K Z dds dvs) (rw' : RW K Z0 W W') (h : LA K Z0 ar ar') : LE K Z0 (tLiG K (spDG K G) dvs W ar) (dLiGM G NS dds W' ar') := ⟨fun Z S H env σ Q Q' s0 re rl hh q =>
  h.run Z S H env σ _ _ s0 re rl hh fun Z1 S1 H1 ds vs s1 r1 p1 h1 => ⟨Z1, S1, ds ++ dds, _, _, r1, p1.append (hd Z1), h1, fun Z2 S2 H2 ys us s2 r2 p2 h2 => fun p hp => by
      obtain ⟨r3, n3⟩ := r2.new (o := .lst ys) (u := .lst us) hp ⟨_, rfl, p2⟩
      exact q _ _ _ _ _ (s1.trans s2) r3 (.raw p) (h2 p n3),
    fun Z2 S2 H2 C fs d s2 r2 x2 w2 => ⟨hn C w2.1, rw'.run Z2 S2 H2 env σ C fs d ((s0.trans s1).trans s2) (re.mono (s1.trans s2)) r2 x2 w2.2⟩⟩⟩
end
section
variable {F : Fm} {K : PySem.W.Frag} {P : Program} {w : World} {mg : Str → Option Value} {base : Heap} [fam : Fam F P w K mg base]
variable {e : Expr} {es : List Expr} {t : DCtx → DA} {pos p p2 pos2 : Pos} {x : Str} {NS : Addr → Prop}
include fam
theorem liG_pe {k : Nat} {G : DFG} {dds : List D} (c : GnD P w K mg base k x G dds) {j : Nat} (hr : ∀ k, Room j (F.X k).A) (hk : k + 3 ≤ j) (hml : mg "list" = none) (ha : PDA F K (e :: es) t) (hg : ∀ k, Gl (F.X k) x) (hgl : ∀ k, Gl (F.X k) "list")
    (hdb : (x == ("__debug__" : Str)) = false) (he : ∀ k, starEach (e :: es) (F.X k).env = (false, eval e (F.X k).env) :: starEach es (F.X k).env) (hpl : ∀ k, (backTo pos (starEach es (F.X k).env)).any (·.1) = false)
    (hl : ∀ k, starEach [.Call (.Name x p) (e :: es) [] pos] (F.X k).env = (false, eval (.Call (.Name x p) (e :: es) [] pos) (F.X k).env) :: starEach [] (F.X k).env) :
    ∃ (dvs : List V) (ta : HCtx → TA), (∀ Z, Reps K Z dds dvs) ∧ (∀ i h, F.ok i h → PE (F.X i) (.Call (.Name "list" p2) [.Call (.Name x p) (e :: es) [] pos] [] pos2) (tLiG K (spDG K G) dvs h.W (ta h))) ∧ ∀ Z0 h c, RC K Z0 h c → LA K Z0 (ta h) (t c) := by
  obtain ⟨f, fd, ps, dvs, ds, h1, h2, h3, h4, h5, h6⟩ := c.ex
  obtain ⟨ta, a1, a2⟩ := ha.ex
  refine ⟨dvs, ta, h6, fun i h q => ?_, a2⟩
  have e1 := fam.prog i
  have e2 := fam.w i
  have e3 := fam.k i
  have e4 := fam.mg i
  have e5 := fam.base i
  have hh := pe_liG (X := F.X i) (k := k) (sp := spDG K G) (ds := ds) (dvs := dvs) (f := f) (fd := fd) (ps := ps) (p := p) (p2 := p2) (pos2 := pos2) (F.tk i h q) (by rw [e1, e2, e3, e4, e5]; exact h1) ((hr i).mono hk) (hg i) (by rw [e4]; exact h2) (by rw [e3]; exact h3) (by rw [e3]; exact h4) h5 (a1 i h q) (hgl i) (by rw [e4]; exact hml) (by decide +kernel) hdb (he i) (hpl i) (by decide) (by decide) (hl i)
  rw [e3] at hh
  exact hh
theorem pd_liG {k : Nat} {G : DFG} {dds : List D} (c : GnD P w K mg base k x G dds) {j : Nat} (hr : ∀ k, Room j (F.X k).A) (hk : k + 3 ≤ j) (hn : ∀ C, NS C → NoS K (.ref C)) (hml : mg "list" = none) (ha : PDA F K (e :: es) t) (hg : ∀ k, Gl (F.X k) x := by intro _; rfl) (hgl : ∀ k, Gl (F.X k) "list" := by intro _; rfl)
    (hdb : (x == ("__debug__" : Str)) = false := by decide) (he : ∀ k, starEach (e :: es) (F.X k).env = (false, eval e (F.X k).env) :: starEach es (F.X k).env := by intro _; rfl) (hpl : ∀ k, (backTo pos (starEach es (F.X k).env)).any (·.1) = false := by intro _; rfl)
    (hl : ∀ k, starEach [.Call (.Name x p) (e :: es) [] pos] (F.X k).env = (false, eval (.Call (.Name x p) (e :: es) [] pos) (F.X k).env) :: starEach [] (F.X k).env := by intro _; rfl) :
    PD F K (.Call (.Name "list" p2) [.Call (.Name x p) (e :: es) [] pos] [] pos2) (fun c => dLiG G NS dds c.w (t c)) := by
  obtain ⟨dvs, ta, h6, a1, a2⟩ := liG_pe c hr hk hml ha hg hgl hdb he hpl hl
  exact ⟨_, a1, fun Z h c r => le_liG hn h6 r.w (a2 Z h c r)⟩
theorem pd_liGM {k : Nat} {G : DFG} {dds : List D} (c : GnD P w K mg base k x G dds) {j : Nat} (hr : ∀ k, Room j (F.X k).A) (hk : k + 3 ≤ j) (hn : ∀ C, NS C → NoS K (.ref C)) (hml : mg "list" = none) (ha : PDA F K (e :: es) t) (hg : ∀ k, Gl (F.X k) x := by intro _; rfl) (hgl : ∀ k, Gl (F.X k) "list" := by intro _; rfl)
    (hdb : (x == ("__debug__" : Str)) = false := by decide) (he : ∀ k, starEach (e :: es) (F.X k).env = (false, eval e (F.X k).env) :: starEach es (F.X k).env := by intro _; rfl) (hpl : ∀ k, (backTo pos (starEach es (F.X k).env)).any (·.1) = false := by intro _; rfl)
    (hl : ∀ k, starEach [.Call (.Name x p) (e :: es) [] pos] (F.X k).env = (false, eval (.Call (.Name x p) (e :: es) [] pos) (F.X k).env) :: starEach [] (F.X k).env := by intro _; rfl) :
    PD F K (.Call (.Name "list" p2) [.Call (.Name x p) (e :: es) [] pos] [] pos2) (fun c => dLiGM G NS dds c.w (t c)) := by
  obtain ⟨dvs, ta, h6, a1, a2⟩ := liG_pe c hr hk hml ha hg hgl hdb he hpl hl
  exact ⟨_, a1, fun Z h c r => le_liGM hn h6 r.w (a2 Z h c r)⟩
end
/-- the fact that a class ends no iterator -/
def nosB (K : PySem.W.Frag) (C : Addr) : Bool := PySem.W.subIn K (.ref C) (.type "StopIteration") == some false
theorem nosB_ok {K : PySem.W.Frag} {C : Addr} (h : nosB K C = true) : NoS K (.ref C) := beq_iff_eq.mp h
end DL
end

section
set_option Elab.async false
set_option linter.all false
set_option autoImplicit false
set_option maxRecDepth 100000
set_option maxHeartbeats 2000000
/-! DL23: (n, run) < (m, run); dicts that change. -/
namespace DL
open PySem PySem.Spec PyProof.Rows L2
/-- the order of lists of ints -/
def ltI : List Int → List Int → Bool
  | [], [] => false
  | [], _ :: _ => true
  | _ :: _, [] => false
  | x :: xs, y :: ys => if x = y then ltI xs ys else decide (x < y)
theorem lexAt_shift {e r : Nat → Bool} {z : Bool} : ∀ (k i : Nat), Ob.lexAt e r z (i + 1) k = Ob.lexAt (fun j => e (j + 1)) (fun j => r (j + 1)) z i k
  | 0, _ => rfl
  | k + 1, i => by rw [Ob.lexAt_succ, Ob.lexAt_succ, lexAt_shift k (i + 1)]
theorem lexAt_ltI : ∀ ns ms : List Int, Ob.lexAt (fun j => decide (ns.getD j 0 = ms.getD j 0)) (fun j => decide (ns.getD j 0 < ms.getD j 0)) (decide (ns.length < ms.length)) 0 (min ns.length ms.length) = ltI ns ms
  | [], [] => rfl
  | [], _ :: _ => rfl
  | _ :: _, [] => rfl
  | x :: xs, y :: ys => by
    have e : min (x :: xs).length (y :: ys).length = min xs.length ys.length + 1 := by simp only [List.length_cons]; omega
    rw [e, Ob.lexAt_succ, lexAt_shift]
    have ih := lexAt_ltI xs ys
    show (if decide (x = y) = true then Ob.lexAt (fun j => decide (xs.getD j 0 = ys.getD j 0)) (fun j => decide (xs.getD j 0 < ys.getD j 0)) (decide ((x :: xs).length < (y :: ys).length)) 0 (min xs.length ys.length) else decide (x < y)) = _
    have e2 : decide ((x :: xs).length < (y :: ys).length) = decide (xs.length < ys.length) := by simp
    rw [e2, ih]
    by_cases hxy : x = y
    · simp [ltI, hxy]
    · simp [ltI, hxy]
section
variable {X : Cx} {pins : List (Addr × Obj)} {σ : L2.St} {H : Hp} {s : Shared} {a b : Addr} {ns ms : List Int} {A : Around}
theorem tupI_at (I : Inv X pins σ H s) (ha : SqT X.K H a (ns.map V.int)) : ∃ its : List Value, s.heap.IsTuple a its.toArray ∧ its.length = ns.length ∧ ∀ j (h : j < its.toArray.size), ∃ t, its.toArray[j] = .int (ns.getD j 0) t := by
  obtain ⟨its, r1, p1, _⟩ := I.tuple ha
  have i1 : IntsAre its ns := Vals.ints r1
  exact ⟨its, p1, i1.length, fun j h => PyProof.Rows.IntsAre.int_at i1 _ _ (by simp at h; simp [h])⟩
theorem ieq (i j : Int) : (i == j) = decide (i = j) := by
  by_cases q : i = j
  · simp [q]
  · simp [q]
theorem all_eq : ∀ ns ms : List Int, ((List.range (min ns.length ms.length)).all (fun j => decide (ns.getD j 0 = ms.getD j 0)) && ns.length == ms.length) = decide (ns = ms) := fun ns ms => by
  rw [Bool.eq_iff_iff]
  simp only [Bool.and_eq_true, List.all_eq_true, List.mem_range, decide_eq_true_eq, beq_iff_eq]
  constructor
  · rintro ⟨h1, h2⟩
    refine List.ext_getElem h2 fun i h3 h4 => ?_
    have := h1 i (by omega)
    simpa [List.getD_eq_getElem?_getD, h3, h4] using this
  · rintro rfl
    exact ⟨fun _ _ => rfl, rfl⟩
theorem tupI_eq (I : Inv X pins σ H s) (ha : SqT X.K H a (ns.map V.int)) (hb : SqT X.K H b (ms.map V.int)) (hu : A.units < cLine) : SeqAt.EqAt A s (.ref a) (.ref b) (decide (ns = ms)) := by
  by_cases hab : a = b
  · subst hab
    have e : ns = ms := (List.map_inj_right (fun i j h => by cases h; rfl)).mp (I.tuple_inj ha hb)
    rw [decide_eq_true e]
    exact SeqAt.EqAt.same _
  · obtain ⟨its, p1, l1, g1⟩ := tupI_at I ha
    obtain ⟨its2, p2, l2, g2⟩ := tupI_at I hb
    have R := SeqAt.RcAt.tuples (A := A) (e := fun j => decide (ns.getD j 0 = ms.getD j 0)) p1 p2 hu fun j h1 h2 => by
      obtain ⟨t, et⟩ := g1 j h1
      obtain ⟨t', et'⟩ := g2 j h2
      rw [et, et', ← ieq]
      exact SeqAt.EqAt.int_int _ _ _ _
    simp only [List.size_toArray, l1, l2] at R
    rw [all_eq] at R
    exact SeqAt.EqAt.of_refs hab R
theorem tupI_lt (I : Inv X pins σ H s) (ha : SqT X.K H a (ns.map V.int)) (hb : SqT X.K H b (ms.map V.int)) (hu : A.units < cLine) : Ob.RcOp .Lt A s (.ref a) (.ref b) (ltI ns ms) := by
  obtain ⟨its, p1, l1, g1⟩ := tupI_at I ha
  obtain ⟨its2, p2, l2, g2⟩ := tupI_at I hb
  have R := Ob.RcOp.tuples_lt (A := A) (s := s) (e := fun j => decide (ns.getD j 0 = ms.getD j 0)) (r := fun j => decide (ns.getD j 0 < ms.getD j 0)) p1 p2 hu (fun j h1 h2 => by
      obtain ⟨t, et⟩ := g1 j h1
      obtain ⟨t', et'⟩ := g2 j h2
      rw [et, et', ← ieq]
      exact SeqAt.EqAt.int_int _ _ _ _) fun j h1 h2 _ => by
      obtain ⟨t, et⟩ := g1 j h1
      obtain ⟨t', et'⟩ := g2 j h2
      rw [et, et']
      exact Ob.RcOp.lt_int _ _ _ _
  simp only [List.size_toArray, l1, l2] at R
  rw [lexAt_ltI] at R
  exact R
end
/-- (n, ns) < (m, ms) -/
def ltP (n : Int) (ns : List Int) (m : Int) (ms : List Int) : Bool := if n = m then ltI ns ms else decide (n < m)
theorem ltI_irr : ∀ ns : List Int, ltI ns ns = false
  | [] => rfl
  | x :: xs => by simp [ltI, ltI_irr xs]
def rLtP (K : PySem.W.Frag) : R2 := fun x y H Q => ∃ (p q a b : Addr) (n m : Int) (ns ms : List Int), x = .ref p ∧ y = .ref q ∧ SqT K H p [.int n, .ref a] ∧ SqT K H q [.int m, .ref b] ∧ SqT K H a (ns.map V.int) ∧ SqT K H b (ms.map V.int) ∧ Q (.bl (ltP n ns m ms)) H
theorem pair_at {X : Cx} {pins : List (Addr × Obj)} {σ : L2.St} {H : Hp} {s : Shared} {p a : Addr} {n : Int} (I : Inv X pins σ H s) (h : SqT X.K H p [.int n, .ref a]) : ∃ t, s.heap.IsTuple p #[.int n t, .ref a] := by
  obtain ⟨its, r1, p1, _⟩ := I.tuple h
  cases r1 with
  | cons h1 h2 =>
    cases h2 with
    | cons h3 h4 =>
      cases h4
      obtain ⟨t, rfl⟩ := h1
      obtain rfl := h3
      exact ⟨t, p1⟩
theorem op_ltP {X : Cx} (hu : X.A.units + 8 < cLine) : OpR X (compareOp .Lt) (rLtP X.K) := by
  intro pins s σ H x y v u Q I rx ry h
  obtain ⟨p, q, a, b, n, m, ns, ms, rfl, rfl, hp, hq, ha, hb, hQ⟩ := h
  cases rx
  cases ry
  obtain ⟨t, p1⟩ := pair_at I hp
  obtain ⟨t', p2⟩ := pair_at I hq
  have hu1 : X.A.in1.units < cLine := by show X.A.units + 1 < cLine; omega
  have R := Ob.RcOp.tuples_lt (A := X.A) (s := s) (e := fun j => if j = 0 then decide (n = m) else decide (ns = ms)) (r := fun j => if j = 0 then decide (n < m) else ltI ns ms) p1 p2 (by omega) (fun j h1 h2 => by
      match j, h1 with
      | 0, _ => show SeqAt.EqAt _ s (.int n t) (.int m t') (decide (n = m)); rw [← ieq]; exact SeqAt.EqAt.int_int _ _ _ _
      | 1, _ => exact tupI_eq I ha hb hu1
      | j + 2, h => exact absurd h (by show ¬ j + 2 < 2; omega)) fun j h1 h2 _ => by
      match j, h1 with
      | 0, _ => exact Ob.RcOp.lt_int n m t t'
      | 1, _ => exact tupI_lt I ha hb hu1
      | j + 2, h => exact absurd h (by show ¬ j + 2 < 2; omega)
  have e : Ob.lexAt (fun j => if j = 0 then decide (n = m) else decide (ns = ms)) (fun j => if j = 0 then decide (n < m) else ltI ns ms) (decide ((#[Value.int n t, .ref a] : Array Value).size < (#[Value.int m t', .ref b] : Array Value).size)) 0 (min (#[Value.int n t, .ref a] : Array Value).size (#[Value.int m t', .ref b] : Array Value).size) = ltP n ns m ms := by
    show (if decide (n = m) = true then (if decide (ns = ms) = true then false else ltI ns ms) else decide (n < m)) = _
    unfold ltP
    by_cases h1 : n = m
    · by_cases h2 : ns = ms
      · simp [h1, h2, ltI_irr]
      · simp [h1, h2]
    · simp [h1]
  rw [e] at R
  exact R X.prog X.w X.xe (EP X pins σ Q) ⟨.bl _, H, I, rfl, hQ⟩
def rLtP' : R2' := fun x y S Q => ∃ (n m : Int) (ns ms : List Int), x = .tup [.int n, .tup (ns.map D.int)] ∧ y = .tup [.int m, .tup (ms.map D.int)] ∧ Q (.bl (ltP n ns m ms)) S
theorem reps_ints {K : PySem.W.Frag} {Z : Hp} : ∀ {ns : List Int} {xs : List V}, Reps K Z (ns.map D.int) xs → xs = ns.map V.int
  | [], _, .nil => rfl
  | n :: ns, _, .cons (.int _) r => by rw [reps_ints r]; rfl
theorem lr_ltP {K : PySem.W.Frag} {Z0 : Hp} : L2R K Z0 (rLtP K) rLtP' := ⟨fun Z S H x y d e Q Q' s0 rl px py h q => by
  obtain ⟨n, m, ns, ms, rfl, rfl, hQ⟩ := h
  cases px with
  | tup h1 r1 =>
    cases py with
    | tup h2 r2 =>
      cases r1 with
      | cons i1 r1 =>
        cases r1 with
        | cons t1 r1 =>
          cases r1
          cases r2 with
          | cons i2 r2 =>
            cases r2 with
            | cons t2 r2 =>
              cases r2
              cases i1
              cases i2
              cases t1 with
              | tup h3 r3 =>
                cases t2 with
                | tup h4 r4 =>
                  obtain rfl := reps_ints r3
                  obtain rfl := reps_ints r4
                  exact ⟨_, _, _, _, n, m, ns, ms, rfl, rfl, Same.sqt rl.sub h1, Same.sqt rl.sub h2, Same.sqt rl.sub h3, Same.sqt rl.sub h4, q Z S H _ _ (Same.refl Z) rl (.bl _) hQ⟩⟩
theorem c_ltP {F : Fm} {K : PySem.W.Frag} {P : Program} {w : World} {mg : Str → Option Value} {base : Heap} [fam : Fam F P w K mg base] {j : Nat} (hr : ∀ k, Room j (F.X k).A) : CmpD F K .Lt rLtP' := ⟨_, opK (r := rLtP) fun k => op_ltP (by have := (hr k).un; omega), fun _ => lr_ltP⟩

/-! ### dicts that change -/
def dkOf (S : Sto) : D → Option (List (Key × D))
  | .dk kvs => some kvs
  | .raw a => (match S a with
    | some (.dk kvs) => some kvs
    | _ => none)
  | _ => none
def keyD : D → Option Key
  | .int i => some (.inl i)
  | .str x => some (.inr x)
  | _ => none
def valK (kvs : List (Key × D)) (k : Key) : Option D := (kvs.find? fun kv => decide (kv.1 = k)).map (·.2)
def putKD (kvs : List (Key × D)) (k : Key) (v : D) : List (Key × D) :=
  if (kvs.any fun kv => decide (kv.1 = k)) = true then kvs.map (fun kv => if kv.1 = k then (kv.1, v) else kv) else kvs ++ [(k, v)]
section
variable {K : PySem.W.Frag} {Z Z0 : Hp} {S : Sto} {H : Hp}
theorem Rel.dkr (r : Rel K Z S H) {d : D} {v : V} {kvs : List (Key × D)} (h : Rep K Z d v) (e : dkOf S d = some kvs) : ∃ a gs, v = .ref a ∧ H a = some (.dK gs) ∧ RepK K Z kvs gs := by
  cases h with
  | dk h1 h2 => cases e; exact ⟨_, _, rfl, r.sub _ _ h1, h2⟩
  | raw a =>
    have e' : (match S a with
      | some (.dk kvs) => some kvs
      | _ => none) = some kvs := e
    split at e'
    · rename_i q
      cases e'
      obtain ⟨_, u, h1, gs, rfl, h2⟩ := r.own a _ q
      exact ⟨a, gs, rfl, h1, h2⟩
    · cases e'
  | _ => cases e
theorem keyR {d : D} {v : V} {k : Key} (h : Rep K Z d v) (e : keyD d = some k) : v = kV k := by
  cases h with
  | int i => cases e; rfl
  | str x => cases e; rfl
  | _ => cases e
theorem RepK.val : ∀ {kvs : List (Key × D)} {gs : List (Key × V)} (k : Key), RepK K Z kvs gs → (valK kvs k = none ∧ valV gs k = none) ∨ ∃ d v, valK kvs k = some d ∧ valV gs k = some v ∧ Rep K Z d v
  | _, _, k, .nil => .inl ⟨rfl, rfl⟩
  | _, _, k, .cons (f := f) (ds := ds) (vs := vs) h r => by
    by_cases e : f = k
    · exact .inr ⟨_, _, by simp [valK, List.find?_cons, e], by simp [valV, List.find?_cons, e], h⟩
    · rcases RepK.val k r with ⟨h1, h2⟩ | ⟨d, v, h1, h2, h3⟩
      · exact .inl ⟨by simpa [valK, List.find?_cons, e] using h1, by simpa [valV, List.find?_cons, e] using h2⟩
      · exact .inr ⟨d, v, by simpa [valK, List.find?_cons, e] using h1, by simpa [valV, List.find?_cons, e] using h2, h3⟩
theorem RepK.any : ∀ {kvs : List (Key × D)} {gs : List (Key × V)} (k : Key), RepK K Z kvs gs → (kvs.any fun kv => decide (kv.1 = k)) = gs.any fun kv => decide (kv.1 = k)
  | _, _, k, .nil => rfl
  | _, _, k, .cons h r => by rw [List.any_cons, List.any_cons, RepK.any k r]
theorem RepK.len : ∀ {kvs : List (Key × D)} {gs : List (Key × V)}, RepK K Z kvs gs → kvs.length = gs.length
  | _, _, .nil => rfl
  | _, _, .cons h r => by rw [List.length_cons, List.length_cons, RepK.len r]
theorem RepK.repl {d : D} {v : V} (hv : Rep K Z d v) (k : Key) : ∀ {kvs : List (Key × D)} {gs : List (Key × V)}, RepK K Z kvs gs → RepK K Z (kvs.map fun kv => if kv.1 = k then (kv.1, d) else kv) (gs.map fun kv => if kv.1 = k then (kv.1, v) else kv)
  | _, _, .nil => .nil
  | _, _, .cons (f := f) h r => by
    rw [List.map_cons, List.map_cons]
    by_cases e : f = k
    · simp only [e, if_true]; exact .cons hv (RepK.repl hv k r)
    · simp only [e, if_false]; exact .cons h (RepK.repl hv k r)
theorem RepK.snoc {d : D} {v : V} (hv : Rep K Z d v) (k : Key) : ∀ {kvs : List (Key × D)} {gs : List (Key × V)}, RepK K Z kvs gs → RepK K Z (kvs ++ [(k, d)]) (gs ++ [(k, v)])
  | _, _, .nil => .cons hv .nil
  | _, _, .cons h r => .cons h (RepK.snoc hv k r)
theorem RepK.put {d : D} {v : V} (hv : Rep K Z d v) (k : Key) {kvs : List (Key × D)} {gs : List (Key × V)} (r : RepK K Z kvs gs) : RepK K Z (putKD kvs k d) (putK gs k v) := by
  unfold putKD putK
  rw [RepK.any k r]
  split
  · exact RepK.repl hv k r
  · exact RepK.snoc hv k r
def dDGet (td ty : DE) : DE := fun env S Q => td env S fun x S1 => ty env S1 fun y S2 => ∃ kvs k d, dkOf S2 x = some kvs ∧ keyD y = some k ∧ valK kvs k = some d ∧ Q d S2
def dDIn (neg : Bool) (ty td : DE) : DE := fun env S Q => ty env S fun y S1 => td env S1 fun x S2 => ∃ kvs k, dkOf S2 x = some kvs ∧ keyD y = some k ∧ Q (.bl (neg != (valK kvs k).isSome)) S2
def dDPut (td ty tv : DE) : DS := fun E env S => tv env S fun v S1 => td env S1 fun x S2 => ty env S2 fun y S3 => ∃ a kvs k, x = .raw a ∧ S3 a = some (.dk kvs) ∧ keyD y = some k ∧ kvs.length < sizeLine ∧ E.nx env (updS S3 a (.dk (putKD kvs k v)))
def dDisp1 (tk tv : DE) : DE := fun env S Q => ∀ a, S a = none → tk env (updS S a (.dk [])) fun x S1 => tv env S1 fun y S2 => S2 a = some (.dk []) ∧ ∃ k, keyD x = some k ∧ Q (.raw a) (updS S2 a (.dk [(k, y)]))
theorem le_dget {td ty : TE} {td' ty' : DE} (h1 : LE K Z0 td td') (h2 : LE K Z0 ty ty') : LE K Z0 (tDGet td ty) (dDGet td' ty') := ⟨fun Z S H env σ Q Q' s0 re rl hh q =>
  h1.run Z S H env σ _ _ s0 re rl hh fun Z1 S1 H1 x v s1 r1 p1 hx => h2.run Z1 S1 H1 env σ _ _ (s0.trans s1) (re.mono s1) r1 hx fun Z2 S2 H2 y u s2 r2 p2 hy => by
    obtain ⟨kvs, k, d, e1, e2, e3, hq⟩ := hy
    obtain ⟨a, gs, rfl, g1, g2⟩ := r2.dkr (p1.mono s2) e1
    obtain rfl := keyR p2 e2
    rcases g2.val k with ⟨n1, _⟩ | ⟨d', v', m1, m2, m3⟩
    · rw [n1] at e3; cases e3
    · rw [m1] at e3; cases e3
      exact ⟨a, v', rfl, .inl ⟨gs, k, .inl g1, rfl, m2.symm⟩, q _ _ _ _ _ (s1.trans s2) r2 m3 hq⟩⟩
theorem le_din {td ty : TE} {td' ty' : DE} (h1 : LE K Z0 td td') (h2 : LE K Z0 ty ty') : LE K Z0 (tDIn ty td) (dDIn false ty' td') := ⟨fun Z S H env σ Q Q' s0 re rl hh q =>
  h2.run Z S H env σ _ _ s0 re rl hh fun Z1 S1 H1 y u s1 r1 p1 hx => h1.run Z1 S1 H1 env σ _ _ (s0.trans s1) (re.mono s1) r1 hx fun Z2 S2 H2 x v s2 r2 p2 hy => by
    obtain ⟨kvs, k, e1, e2, hq⟩ := hy
    obtain ⟨a, gs, rfl, g1, g2⟩ := r2.dkr p2 e1
    obtain rfl := keyR p1 e2
    refine ⟨a, valV gs k, rfl, .inl ⟨gs, k, .inl g1, rfl, rfl⟩, ?_⟩
    have e : (valV gs k).isSome = (false != (valK kvs k).isSome) := by
      rcases g2.val k with ⟨n1, n2⟩ | ⟨d', v', m1, m2, m3⟩
      · rw [n1, n2]; rfl
      · rw [m1, m2]; rfl
    rw [e]
    exact q _ _ _ _ _ (s1.trans s2) r2 (.bl _) hq⟩
theorem le_dnin {td ty : TE} {td' ty' : DE} (h1 : LE K Z0 td td') (h2 : LE K Z0 ty ty') : LE K Z0 (tDNotIn ty td) (dDIn true ty' td') := ⟨fun Z S H env σ Q Q' s0 re rl hh q =>
  h2.run Z S H env σ _ _ s0 re rl hh fun Z1 S1 H1 y u s1 r1 p1 hx => h1.run Z1 S1 H1 env σ _ _ (s0.trans s1) (re.mono s1) r1 hx fun Z2 S2 H2 x v s2 r2 p2 hy => by
    obtain ⟨kvs, k, e1, e2, hq⟩ := hy
    obtain ⟨a, gs, rfl, g1, g2⟩ := r2.dkr p2 e1
    obtain rfl := keyR p1 e2
    refine ⟨a, valV gs k, rfl, .inl ⟨gs, k, .inl g1, rfl, rfl⟩, ?_⟩
    have e : (!(valV gs k).isSome) = (true != (valK kvs k).isSome) := by
      rcases g2.val k with ⟨n1, n2⟩ | ⟨d', v', m1, m2, m3⟩
      · rw [n1, n2]; rfl
      · rw [m1, m2]; rfl
    rw [e]
    exact q _ _ _ _ _ (s1.trans s2) r2 (.bl _) hq⟩
theorem ls_dput {td ty tv : TE} {td' ty' tv' : DE} (h1 : LE K Z0 td td') (h2 : LE K Z0 ty ty') (h3 : LE K Z0 tv tv') : LS K Z0 (sDPut td ty tv) (dDPut td' ty' tv') := ⟨fun Z S H env σ E E' s0 re rl hh e =>
  h3.run Z S H env σ _ _ s0 re rl hh fun Z1 S1 H1 v u s1 r1 p1 hx => h1.run Z1 S1 H1 env σ _ _ (s0.trans s1) (re.mono s1) r1 hx fun Z2 S2 H2 x w2 s2 r2 p2 hy =>
    h2.run Z2 S2 H2 env σ _ _ ((s0.trans s1).trans s2) (re.mono (s1.trans s2)) r2 hy fun Z3 S3 H3 y w3 s3 r3 p3 hz => by
      obtain ⟨a, kvs, k, rfl, e1, e2, hl, hq⟩ := hz
      cases p2
      obtain ⟨_, _, g1, gs, rfl, g2⟩ := r3.own a _ e1
      obtain rfl := keyR p3 e2
      refine ⟨a, _, rfl, .inl ⟨gs, k, g1, rfl, by rw [← g2.len]; exact hl, rfl⟩, ?_⟩
      exact e.nx _ _ _ _ _ ((s1.trans s2).trans s3) (re.mono ((s1.trans s2).trans s3)) (r3.write (o' := .dk (putKD kvs k v)) e1 ⟨_, rfl, RepK.put (p1.mono (s2.trans s3)) k g2⟩) hq⟩
theorem le_disp1 {tk tv : TE} {tk' tv' : DE} (h1 : LE K Z0 tk tk') (h2 : LE K Z0 tv tv') : LE K Z0 (tDisp [(tk, tv)]) (dDisp1 tk' tv') := ⟨fun Z S H env σ Q Q' s0 re rl hh q p hp => by
  obtain ⟨r1, n1⟩ := rl.new (o := .dk []) (u := .dK []) hp ⟨[], rfl, .nil⟩
  refine h1.run Z _ _ env σ _ _ s0 re r1 (hh p n1) fun Z1 S1 H1 x v s1 r1 p1 hx => ?_
  refine h2.run Z1 S1 H1 env σ _ _ (s0.trans s1) (re.mono s1) r1 hx fun Z2 S2 H2 y u s2 r2 p2 hy => ?_
  obtain ⟨e1, k, e2, hq⟩ := hy
  obtain rfl := keyR p1 e2
  obtain ⟨_, _, g1, gs, rfl, g2⟩ := r2.own p _ e1
  cases g2
  refine ⟨g1, [(k, u)], rfl, by simp, ?_⟩
  exact q _ _ _ _ _ (s1.trans s2) (r2.write (o' := .dk [(k, y)]) e1 ⟨_, rfl, .cons p2 .nil⟩) (.raw p) hq⟩
end
section
variable {F : Fm} {K : PySem.W.Frag} {P : Program} {w : World} {mg : Str → Option Value} {base : Heap} [fam : Fam F P w K mg base]
variable {o i value : Expr} {td ty tv : DCtx → DE} {pos pos' : Pos} {j : Nat}
include fam
theorem pd_dget (hr : ∀ k, Room j (F.X k).A) (ho : PD F K o td) (hi : PD F K i ty) (hs : NoSl i := by intro _ _; rfl) : PD F K (.Subscript o i pos) (fun c => dDGet (td c) (ty c)) := by
  obtain ⟨t1, a1, l1⟩ := ho.ex
  obtain ⟨t2, a2, l2⟩ := hi.ex
  exact ⟨_, fun k h q => pe_dget (by have := (hr k).un; omega) (a1 k h q) (a2 k h q) hs, fun Z h c r => le_dget (l1 Z h c r) (l2 Z h c r)⟩
theorem pdt_din (hr : ∀ k, Room j (F.X k).A) (hi : PD F K i ty) (ho : PD F K o td) (hm : behindInMarks .In o = false := by rfl) : PDT F K (.Compare i [.In] [o] pos) (fun c => dB (dDIn false (ty c) (td c))) := by
  obtain ⟨t1, a1, l1⟩ := ho.ex
  obtain ⟨t2, a2, l2⟩ := hi.ex
  exact ⟨_, fun k h q => pt_cmp (pc_din (by have := (hr k).un; omega) (a2 k h q) (a1 k h q)) hm, fun Z h c r => lt_Test (le_din (l1 Z h c r) (l2 Z h c r))⟩
theorem pdt_dnin (hr : ∀ k, Room j (F.X k).A) (hi : PD F K i ty) (ho : PD F K o td) (hm : behindInMarks .NotIn o = false := by rfl) : PDT F K (.Compare i [.NotIn] [o] pos) (fun c => dB (dDIn true (ty c) (td c))) := by
  obtain ⟨t1, a1, l1⟩ := ho.ex
  obtain ⟨t2, a2, l2⟩ := hi.ex
  exact ⟨_, fun k h q => pt_cmp (pc_dnotin (by have := (hr k).un; omega) (a2 k h q) (a1 k h q)) hm, fun Z h c r => lt_Test (le_dnin (l1 Z h c r) (l2 Z h c r))⟩
theorem s_dput (hr : ∀ k, Room j (F.X k).A) (ho : PD F K o td) (hi : PD F K i ty) (hv : PD F K value tv) (hs : ∀ k, swapsWith value (some (.Subscript o i pos')) pos.line (F.X k).env = pure false := by intro _; rfl) :
    PDS F K (.Assign [.Subscript o i pos'] value pos) (fun c => dDPut (td c) (ty c) (tv c)) := by
  obtain ⟨t1, a1, l1⟩ := ho.ex
  obtain ⟨t2, a2, l2⟩ := hi.ex
  obtain ⟨t3, a3, l3⟩ := hv.ex
  exact ⟨_, fun k h q => ps_dput (by have := (hr k).un; omega) (a1 k h q) (a2 k h q) (a3 k h q) (hs k), fun Z h c r => ls_dput (l1 Z h c r) (l2 Z h c r) (l3 Z h c r)⟩
theorem pd_disp1 {ke ve : Expr} {tk tv : DCtx → DE} (hk : PD F K ke tk) (hv : PD F K ve tv) : PD F K (.Dict [some ke] [ve] pos) (fun c => dDisp1 (tk c) (tv c)) := by
  obtain ⟨t1, a1, l1⟩ := hk.ex
  obtain ⟨t2, a2, l2⟩ := hv.ex
  exact ⟨_, fun k h q => pe_disp (pps_cons (a1 k h q) (a2 k h q) pps_nil) rfl rfl (fun z => by cases z) (by simp), fun Z h c r => le_disp1 (l1 Z h c r) (l2 Z h c r)⟩
end
end DL
end

section
set_option Elab.async false
set_option linter.all false
set_option autoImplicit false
set_option maxRecDepth 100000
set_option maxHeartbeats 2000000
/-! DL24: own methods called, the load of the method's name depending on the context; equations for the walk of generators and dicts. -/
namespace DL
open PySem PySem.Spec PyProof.Rows L2
section
variable {F : Fm} {K : PySem.W.Frag} {P : Program} {w : World} {mg : Str → Option Value} {base : Heap} [fam : Fam F P w K mg base]
variable {e o : Expr} {es : List Expr} {to : DCtx → DE} {t : DCtx → DA} {pos p apos : Pos} {x m : Str}
include fam
theorem pd_methI {pl : F.ι → Sem Bool} {k : Nat} {C : Addr} {G : DF} {dds : List D} (c : MtD P w K mg base k C m G dds) {j : Nat} (hr : ∀ k, Room j (F.X k).A) (hk : k ≤ j) (ho : PD F K o to) (ha : PDA F K (e :: es) t)
    (he : ∀ k, starEach (e :: es) (F.X k).env = (false, eval e (F.X k).env) :: starEach es (F.X k).env := by intro _; rfl) (hpl : ∀ k, (backTo pos (starEach es (F.X k).env)).any (·.1) = false := by intro _; rfl)
    (ht : ∀ k, eval (.Call (.Attribute o m apos) (e :: es) [] pos) (F.X k).env = (do let ov ← eval o (F.X k).env; standAt apos.atName; let (f, first) ← holding [ov] (getMethod ov m (pl k)); callWith pos f first (backTo pos (starEach (e :: es) (F.X k).env)) (backToKw pos (keywordEach [] (F.X k).env))) := by intro _; rfl) :
    PD F K (.Call (.Attribute o m apos) (e :: es) [] pos) (fun c => dMeth C m G dds c.w (to c) (t c)) := by
  obtain ⟨f, fd, ps, dvs, ds, h0, h1, h2, h4, h5, h6⟩ := c.ex
  obtain ⟨tt, b1, b2⟩ := ho.ex
  obtain ⟨ta, a1, a2⟩ := ha.ex
  refine ⟨fun h => tMethAt C m (spD K G) dvs (WE h.W) (tt h) (ta h), fun i h q => ?_, fun Z h c r => le_meth h6 r.w (b2 Z h c r) (a2 Z h c r)⟩
  have e1 := fam.prog i
  have e2 := fam.w i
  have e3 := fam.k i
  have e4 := fam.mg i
  have e5 := fam.base i
  exact pe_methAt (X := F.X i) (CX := L2.CX (F.X i).prog (F.X i).w) (E := WE h.W) (b1 i h q) (by rw [e3]; exact h0) (by rw [e3]; exact h1) (by rw [e1, e2, e3, e4, e5]; exact h2) ((hr i).mono hk) (by rw [e3]; exact h4) h5 (fun σ => passAt (F.tk i h q) σ) (a1 i h q) (he i) (hpl i) (ht i)
end
section
variable {E : DGEnds} {ys : List D} {env : DEnv} {S : Sto} {t : DS} {t1 t2 : DGn} {te : DE} {c : DT} {g : DG} {wi : DI} {Q : DV}
theorem x_gPlain : gPlain t E ys env S = t { nx := E.nx ys, rt := E.rt ys, bk := E.bk ys, ct := E.ct ys } env S := rfl
theorem x_g0 : g0 E ys env S = E.nx ys env S := rfl
theorem x_gIfS : gIf c t1 t2 E ys env S = c env S fun b S1 => if b = true then t1 E ys env S1 else t2 E ys env S1 := rfl
theorem x_gYield : gYield te E ys env S = (ys.length < sizeLine ∧ te env S fun x S1 => E.nx (ys ++ [x]) env S1) := rfl
theorem x_gWhile : gWhile c t1 E ys env S = ∃ P : Nat → List D → DEnv → Sto → Prop, (∃ m, P m ys env S) ∧ ∀ m ys env S, P m ys env S →
  c env S fun b S1 => if b = true then t1 { E with nx := fun ys e s => ∃ m', m' < m ∧ P m' ys e s, ct := fun ys e s => ∃ m', m' < m ∧ P m' ys e s, bk := E.nx } ys env S1 else E.nx ys env S1 := rfl
theorem x_gThen (h : ∀ R : List D → DEnv → Sto → Prop, (∀ ys e s, t2 E ys e s → R ys e s) → t1 { nx := R, rt := E.rt, bk := E.bk, ct := E.ct } ys env S) : gThen t1 t2 E ys env S := h (t2 E) fun _ _ _ z => z
theorem x_liG {F : DFG} {NS : Addr → Prop} {dds : List D} {W' : DW} {ta : DA} : dLiG F NS dds W' ta env S Q = ta env S fun ds S1 => F (ds ++ dds) S1 (fun ys S2 => Q (.lst ys) S2) (fun C fs S' => NS C ∧ W' C fs env S') := rfl
theorem x_liGM {F : DFG} {NS : Addr → Prop} {dds : List D} {W' : DW} {ta : DA} : dLiGM F NS dds W' ta env S Q = ta env S fun ds S1 => F (ds ++ dds) S1 (fun ys S2 => ∀ a, S2 a = none → Q (.raw a) (updS S2 a (.lst ys))) (fun C fs S' => NS C ∧ W' C fs env S') := rfl
theorem x_meth {C : Addr} {m : Str} {F : DF} {dds : List D} {W' : DW} {to : DE} {ta : DA} : dMeth C m F dds W' to ta env S Q = to env S fun x S1 => ∃ fs, insOf S1 x = some (C, fs) ∧ fs.lookup m = none ∧ ta env S1 fun ds S2 => F (x :: (ds ++ dds)) S2 Q (fun C fs S' => W' C fs env S') := rfl
theorem x_dget {td ty : DE} : dDGet td ty env S Q = td env S fun x S1 => ty env S1 fun y S2 => ∃ kvs k d, dkOf S2 x = some kvs ∧ keyD y = some k ∧ valK kvs k = some d ∧ Q d S2 := rfl
theorem x_din {b : Bool} {td ty : DE} : dDIn b ty td env S Q = ty env S fun y S1 => td env S1 fun x S2 => ∃ kvs k, dkOf S2 x = some kvs ∧ keyD y = some k ∧ Q (.bl (b != (valK kvs k).isSome)) S2 := rfl
theorem x_dput {E : DEnds} {td ty tv : DE} : dDPut td ty tv E env S = tv env S fun v S1 => td env S1 fun x S2 => ty env S2 fun y S3 => ∃ a kvs k, x = .raw a ∧ S3 a = some (.dk kvs) ∧ keyD y = some k ∧ kvs.length < sizeLine ∧ E.nx env (updS S3 a (.dk (putKD kvs k v))) := rfl
theorem x_disp1 {tk tv : DE} : dDisp1 tk tv env S Q = ∀ a, S a = none → tk env (updS S a (.dk [])) fun x S1 => tv env S1 fun y S2 => S2 a = some (.dk []) ∧ ∃ k, keyD x = some k ∧ Q (.raw a) (updS S2 a (.dk [(k, y)])) := rfl
end
end DL
end

section
set_option Elab.async false
set_option linter.all false
set_option autoImplicit false
set_option maxRecDepth 100000
set_option maxHeartbeats 2000000
/-! DL25: dicts whose keys are tuples of ints. -/
namespace DL
open PySem PySem.Spec PyProof.Rows L2
abbrev kI (ks : List Int) : List Key := ks.map fun i => (Sum.inl i : Key)
inductive RepT (K : PySem.W.Frag) (Z : Hp) : List (List Int × D) → List (List Key × V) → Prop
  | nil : RepT K Z [] []
  | cons {k : List Int} {d : D} {v : V} {ds : List (List Int × D)} {vs : List (List Key × V)} : Rep K Z d v → RepT K Z ds vs → RepT K Z ((k, d) :: ds) ((kI k, v) :: vs)
theorem RepT.mono {K : PySem.W.Frag} {Z Z' : Hp} (s : Same Z Z') {ds : List (List Int × D)} {vs : List (List Key × V)} (h : RepT K Z ds vs) : RepT K Z' ds vs := by
  induction h with
  | nil => exact .nil
  | cons h r ih => exact .cons (h.mono s) ih
def tdP (K : PySem.W.Frag) (kvs : List (List Int × D)) : Pr := ⟨fun Z u => ∃ gs, u = .dT gs ∧ RepT K Z kvs gs, fun Z Z' u s ⟨gs, e, r⟩ => ⟨gs, e, r.mono s⟩⟩
def valT (kvs : List (List Int × D)) (k : List Int) : Option D := (kvs.find? fun kv => decide (kv.1 = k)).map (·.2)
def putT (kvs : List (List Int × D)) (k : List Int) (v : D) : List (List Int × D) :=
  if (kvs.any fun kv => decide (kv.1 = k)) = true then kvs.map (fun kv => if kv.1 = k then (kv.1, v) else kv) else kvs ++ [(k, v)]
theorem kI_inj : ∀ {a b : List Int}, kI a = kI b → a = b
  | [], [], _ => rfl
  | [], _ :: _, h => by cases h
  | _ :: _, [], h => by cases h
  | x :: a, y :: b, h => by
    simp only [kI, List.map_cons, List.cons.injEq, Sum.inl.injEq] at h
    rw [h.1, kI_inj h.2]
section
variable {K : PySem.W.Frag} {Z Z0 : Hp} {S : Sto} {H : Hp}
theorem RepT.val {kvs : List (List Int × D)} {gs : List (List Key × V)} (k : List Int) (r : RepT K Z kvs gs) : (valT kvs k = none ∧ valV gs (kI k) = none) ∨ ∃ d v, valT kvs k = some d ∧ valV gs (kI k) = some v ∧ Rep K Z d v := by
  induction r with
  | nil => exact .inl ⟨rfl, rfl⟩
  | @cons f d v ds vs h r ih =>
    by_cases e : f = k
    · subst e
      exact .inr ⟨d, v, by simp [valT, List.find?_cons], valV_pos rfl, h⟩
    · have e2 : ¬ kI f = kI k := fun z => e (kI_inj z)
      rcases ih with ⟨h1, h2⟩ | ⟨d, v, h1, h2, h3⟩
      · exact .inl ⟨by simpa [valT, List.find?_cons, e] using h1, by rw [valV_neg e2]; exact h2⟩
      · exact .inr ⟨d, v, by simpa [valT, List.find?_cons, e] using h1, by rw [valV_neg e2]; exact h2, h3⟩
theorem RepT.any {kvs : List (List Int × D)} {gs : List (List Key × V)} (k : List Int) (r : RepT K Z kvs gs) : (kvs.any fun kv => decide (kv.1 = k)) = gs.any fun kv => decide (kv.1 = kI k) := by
  induction r with
  | nil => rfl
  | @cons f d v ds vs h r ih =>
    rw [List.any_cons, List.any_cons, ih]
    have : decide (f = k) = decide (kI f = kI k) := by
      by_cases e : f = k
      · subst e; simp
      · rw [decide_eq_false e, decide_eq_false fun z => e (kI_inj z)]
    rw [this]
theorem RepT.len {kvs : List (List Int × D)} {gs : List (List Key × V)} (r : RepT K Z kvs gs) : kvs.length = gs.length := by
  induction r with
  | nil => rfl
  | cons h r ih => rw [List.length_cons, List.length_cons, ih]
theorem RepT.repl {d : D} {v : V} (hv : Rep K Z d v) (k : List Int) {kvs : List (List Int × D)} {gs : List (List Key × V)} (r : RepT K Z kvs gs) : RepT K Z (kvs.map fun kv => if kv.1 = k then (kv.1, d) else kv) (gs.map fun kv => if kv.1 = kI k then (kv.1, v) else kv) := by
  induction r with
  | nil => exact .nil
  | @cons f d' v' ds vs h r ih =>
    rw [List.map_cons, List.map_cons]
    by_cases e : f = k
    · subst e
      rw [if_pos rfl, if_pos rfl]; exact .cons hv ih
    · rw [if_neg e, if_neg fun z => e (kI_inj z)]; exact .cons h ih
theorem RepT.snoc {d : D} {v : V} (hv : Rep K Z d v) (k : List Int) {kvs : List (List Int × D)} {gs : List (List Key × V)} (r : RepT K Z kvs gs) : RepT K Z (kvs ++ [(k, d)]) (gs ++ [(kI k, v)]) := by
  induction r with
  | nil => exact .cons hv .nil
  | cons h r ih => exact .cons h ih
theorem RepT.put {d : D} {v : V} (hv : Rep K Z d v) (k : List Int) {kvs : List (List Int × D)} {gs : List (List Key × V)} (r : RepT K Z kvs gs) : RepT K Z (putT kvs k d) (putK gs (kI k) v) := by
  unfold putT putK
  rw [RepT.any k r]
  split
  · exact RepT.repl hv k r
  · exact RepT.snoc hv k r
theorem Rel.keyT (r : Rel K Z S H) {ks : List Int} {v : V} (h : Rep K Z (.tup (ks.map D.int)) v) : ∃ b, v = .ref b ∧ H b = some (.tup ((kI ks).map kV)) := by
  cases h with
  | tup h1 h2 =>
    obtain rfl := reps_ints h2
    refine ⟨_, rfl, ?_⟩
    rw [r.sub _ _ h1, List.map_map]
    rfl
def dTNew (K : PySem.W.Frag) : DE := fun env S Q => ∀ a, S a = none → Q (.raw a) (updS S a (.abs (tdP K [])))
def dTGet (K : PySem.W.Frag) (td ty : DE) : DE := fun env S Q => td env S fun x S1 => ty env S1 fun y S2 => ∃ a kvs ks d, x = .raw a ∧ S2 a = some (.abs (tdP K kvs)) ∧ y = .tup (ks.map D.int) ∧ valT kvs ks = some d ∧ Q d S2
def dTPut (K : PySem.W.Frag) (td ty tv : DE) : DS := fun E env S => tv env S fun v S1 => td env S1 fun x S2 => ty env S2 fun y S3 => ∃ a kvs ks, x = .raw a ∧ S3 a = some (.abs (tdP K kvs)) ∧ y = .tup (ks.map D.int) ∧ kvs.length < sizeLine ∧ E.nx env (updS S3 a (.abs (tdP K (putT kvs ks v))))
theorem le_tnew : LE K Z0 tDNewT (dTNew K) := ⟨fun Z S H env σ Q Q' s0 re rl hh q p hp => by
  obtain ⟨r1, n1⟩ := rl.new (o := .abs (tdP K [])) (u := .dT []) hp ⟨[], rfl, .nil⟩
  exact q _ _ _ _ _ (Same.refl _) r1 (.raw p) (hh p n1)⟩
theorem le_tget {td ty : TE} {td' ty' : DE} (h1 : LE K Z0 td td') (h2 : LE K Z0 ty ty') : LE K Z0 (tDGet td ty) (dTGet K td' ty') := ⟨fun Z S H env σ Q Q' s0 re rl hh q =>
  h1.run Z S H env σ _ _ s0 re rl hh fun Z1 S1 H1 x v s1 r1 p1 hx => h2.run Z1 S1 H1 env σ _ _ (s0.trans s1) (re.mono s1) r1 hx fun Z2 S2 H2 y u s2 r2 p2 hy => by
    obtain ⟨a, kvs, ks, d, rfl, e1, rfl, e3, hq⟩ := hy
    cases p1
    obtain ⟨_, _, g1, gs, rfl, g2⟩ := r2.own a _ e1
    obtain ⟨b, rfl, hb⟩ := r2.keyT p2
    rcases g2.val ks with ⟨n1, _⟩ | ⟨d', v', m1, m2, m3⟩
    · rw [n1] at e3; cases e3
    · rw [m1] at e3; cases e3
      exact ⟨a, v', rfl, .inr ⟨gs, kI ks, b, .inl g1, rfl, hb, m2.symm⟩, q _ _ _ _ _ (s1.trans s2) r2 m3 hq⟩⟩
theorem ls_tput {td ty tv : TE} {td' ty' tv' : DE} (h1 : LE K Z0 td td') (h2 : LE K Z0 ty ty') (h3 : LE K Z0 tv tv') : LS K Z0 (sDPut td ty tv) (dTPut K td' ty' tv') := ⟨fun Z S H env σ E E' s0 re rl hh e =>
  h3.run Z S H env σ _ _ s0 re rl hh fun Z1 S1 H1 v u s1 r1 p1 hx => h1.run Z1 S1 H1 env σ _ _ (s0.trans s1) (re.mono s1) r1 hx fun Z2 S2 H2 x w2 s2 r2 p2 hy =>
    h2.run Z2 S2 H2 env σ _ _ ((s0.trans s1).trans s2) (re.mono (s1.trans s2)) r2 hy fun Z3 S3 H3 y w3 s3 r3 p3 hz => by
      obtain ⟨a, kvs, ks, rfl, e1, rfl, hl, hq⟩ := hz
      cases p2
      obtain ⟨_, _, g1, gs, rfl, g2⟩ := r3.own a _ e1
      obtain ⟨b, rfl, hb⟩ := r3.keyT p3
      refine ⟨a, _, rfl, .inr ⟨gs, kI ks, b, g1, rfl, hb, by rw [← g2.len]; exact hl, rfl⟩, ?_⟩
      exact e.nx _ _ _ _ _ ((s1.trans s2).trans s3) (re.mono ((s1.trans s2).trans s3)) (r3.write (o' := .abs (tdP K (putT kvs ks v))) e1 ⟨_, rfl, RepT.put (p1.mono (s2.trans s3)) ks g2⟩) hq⟩
end
section
variable {F : Fm} {K : PySem.W.Frag} {P : Program} {w : World} {mg : Str → Option Value} {base : Heap} [fam : Fam F P w K mg base]
variable {o i value : Expr} {td ty tv : DCtx → DE} {pos pos' : Pos} {j : Nat}
include fam
theorem pd_tnew : PD F K (.Dict [] [] pos) (fun _ => dTNew K) := ⟨fun _ => _, fun _ _ _ => pe_dnewT, fun _ _ _ _ => le_tnew⟩
theorem pd_tget (hr : ∀ k, Room j (F.X k).A) (ho : PD F K o td) (hi : PD F K i ty) (hs : NoSl i := by intro _ _; rfl) : PD F K (.Subscript o i pos) (fun c => dTGet K (td c) (ty c)) := by
  obtain ⟨t1, a1, l1⟩ := ho.ex
  obtain ⟨t2, a2, l2⟩ := hi.ex
  exact ⟨_, fun k h q => pe_dget (by have := (hr k).un; omega) (a1 k h q) (a2 k h q) hs, fun Z h c r => le_tget (l1 Z h c r) (l2 Z h c r)⟩
theorem s_tput (hr : ∀ k, Room j (F.X k).A) (ho : PD F K o td) (hi : PD F K i ty) (hv : PD F K value tv) (hs : ∀ k, swapsWith value (some (.Subscript o i pos')) pos.line (F.X k).env = pure false := by intro _; rfl) :
    PDS F K (.Assign [.Subscript o i pos'] value pos) (fun c => dTPut K (td c) (ty c) (tv c)) := by
  obtain ⟨t1, a1, l1⟩ := ho.ex
  obtain ⟨t2, a2, l2⟩ := hi.ex
  obtain ⟨t3, a3, l3⟩ := hv.ex
  exact ⟨_, fun k h q => ps_dput (by have := (hr k).un; omega) (a1 k h q) (a2 k h q) (a3 k h q) (hs k), fun Z h c r => ls_tput (l1 Z h c r) (l2 Z h c r) (l3 Z h c r)⟩
end
section
variable {K : PySem.W.Frag} {env : DEnv} {S : Sto} {Q : DV}
theorem x_tnew : dTNew K env S Q = ∀ a, S a = none → Q (.raw a) (updS S a (.abs (tdP K []))) := rfl
theorem x_tget {td ty : DE} : dTGet K td ty env S Q = td env S fun x S1 => ty env S1 fun y S2 => ∃ a kvs ks d, x = .raw a ∧ S2 a = some (.abs (tdP K kvs)) ∧ y = .tup (ks.map D.int) ∧ valT kvs ks = some d ∧ Q d S2 := rfl
theorem x_tput {E : DEnds} {td ty tv : DE} : dTPut K td ty tv E env S = tv env S fun v S1 => td env S1 fun x S2 => ty env S2 fun y S3 => ∃ a kvs ks, x = .raw a ∧ S3 a = some (.abs (tdP K kvs)) ∧ y = .tup (ks.map D.int) ∧ kvs.length < sizeLine ∧ E.nx env (updS S3 a (.abs (tdP K (putT kvs ks v)))) := rfl
end
end DL
end

section
set_option Elab.async false
set_option linter.all false
set_option autoImplicit false
set_option maxRecDepth 100000
set_option maxHeartbeats 2000000
/-! DL26: a, b = a list or a tuple. -/
namespace DL
open PySem PySem.Spec PyProof.Rows L2
def dgSq (n : Nat) (u : DGs) : DG := fun d env S Q => match d with
  | .tup ds => ds.length = n ∧ u ds env S Q
  | .lst ds => ds.length = n ∧ u ds env S Q
  | _ => False
def gSqu (K : PySem.W.Frag) (n : Nat) (t : TGs) : TG := fun v σ H Q => gTup K n t v σ H Q ∨ gUnl K n t v σ H Q
theorem pg_squ {X : Cx} {es : List Expr} {k : Nat} {t : TGs} {n : Nat} {pos : Pos} (hc : X.calm = true) (h : PGs X es t) (hn : (assignEach es X.env).length = n) (hst : (assignEach es X.env).findIdx? (·.1) = none) : PG X (.Tuple es k pos) (gSqu X.K n t) :=
  ⟨fun pins s σ H v u Q I r hw => by
    rcases hw with hw | hw
    · exact (pg_tup hc h hn hst).run pins s σ H v u Q I r hw
    · exact (pg_unl hc h hn hst).run pins s σ H v u Q I r hw⟩
theorem lg_squ {K : PySem.W.Frag} {Z0 : Hp} {ws : List Nat} {n : Nat} {u : TGs} {u' : DGs} (h : LGs K Z0 ws u u') : LG K Z0 ws (gSqu K n u) (dgSq n u') := ⟨fun Z S H env σ d v Q Q' s0 re rl p hh q => by
  cases p with
  | @tup a xs ds h1 h2 => exact .inl ⟨a, xs, rfl, Same.sqt rl.sub h1, by rw [← h2.length]; exact hh.1, h.run Z S H env σ _ _ _ _ s0 re rl h2 hh.2 q⟩
  | @lst a xs ds h1 h2 => exact .inr ⟨a, xs, rfl, .inl (.inl (rl.sub _ _ h1)), by rw [← h2.length]; exact hh.1, h.run Z S H env σ _ _ _ _ s0 re rl h2 hh.2 q⟩
  | _ => exact hh.elim⟩
section
variable {F : Fm} {K : PySem.W.Frag} {P : Program} {w : World} {mg : Str → Option Value} {base : Heap} [fam : Fam F P w K mg base]
variable {es : List Expr} {pos : Pos} {ws : List Nat}
include fam
theorem pg_sq {n m : Nat} {gs : DCtx → DGs} (h : PDGs F K ws es gs) (hc : ∀ k, (F.X k).calm = true := by intro _; rfl) (hn : ∀ k, (assignEach es (F.X k).env).length = n := by intro _; rfl) (hst : ∀ k, (assignEach es (F.X k).env).findIdx? (·.1) = none := by intro _; rfl) :
    PDG F K ws (.Tuple es m pos) (fun c => dgSq n (gs c)) := by
  obtain ⟨t1, a1, l1⟩ := h.ex
  exact ⟨_, fun k h q => by have hh := pg_squ (hc k) (a1 k h q) (hn k) (hst k) (k := m) (pos := pos); rw [fam.k k] at hh; exact hh, fun Z h c r => lg_squ (l1 Z h c r)⟩
end
theorem x_gSqT {n : Nat} {u : DGs} {ds : List D} {env : DEnv} {S : Sto} {Q : DEnv → Sto → Prop} : dgSq n u (.tup ds) env S Q = (ds.length = n ∧ u ds env S Q) := rfl
theorem x_gSqL {n : Nat} {u : DGs} {ds : List D} {env : DEnv} {S : Sto} {Q : DEnv → Sto → Prop} : dgSq n u (.lst ds) env S Q = (ds.length = n ∧ u ds env S Q) := rfl
end DL
end

section
set_option Elab.async false
set_option linter.all false
set_option autoImplicit false
set_option maxRecDepth 100000
set_option maxHeartbeats 2000000
/-! DL27: sum of a list or a tuple of ints. -/
namespace DL
open PySem PySem.Spec PyProof.Rows L2
def rSumQ (K : PySem.W.Frag) : List V → Hp → VK → Prop := fun vs H Q => rSum K vs H Q ∨ ∃ (a : Addr) (ns : List Int), vs = [V.ref a] ∧ SqT K H a (ns.map V.int) ∧ Q (.int ns.sum) H
theorem cr_sumQ {X : Cx} (hc : X.calm = true) : CallR X (.builtin "sum") (rSumQ X.K) := by
  intro pins s σ H vs us Q I r h
  rcases h with h | ⟨a, ns, rfl, hs, q⟩
  · exact cr_sum hc pins s σ H vs us Q I r h
  · obtain ⟨its, rv, hl, _⟩ := I.tuple hs
    rw [Vals.ref1 r]
    have hi : IntsAre its ns := rv.ints
    obtain ⟨xs, e⟩ := hi.allInts.items
    have hn : numsOf (intItems xs).toList = ns := by rw [← e]; exact hi.numsOf
    rw [nums_intItems] at hn
    have hl2 : s.heap.IsTuple a (intItems xs) := by rw [← e]; exact hl
    refine PySem.W.ktm_sumG (I.ok.hd hc) hl2 fun h' tk t' hk => ⟨.int ns.sum, H, I.kept hk, ⟨t', ?_⟩, q⟩
    rw [preSum_eq, List.take_of_length_le (by simp), hn]
def rSumQ' : RL' := fun ds S Q => match ds with
  | [d] => (match (asQ S d).bind intsOf with
    | some ns => Q (.int ns.sum) S
    | none => False)
  | _ => False
theorem ints_reps {K : PySem.W.Frag} {Z : Hp} : ∀ {ds : List D} {ns : List Int} {vs : List V}, intsOf ds = some ns → Reps K Z ds vs → vs = ns.map V.int
  | [], _, _, h, .nil => by cases h; rfl
  | d :: ds, ns, _, h, .cons hd r => by
    cases hd with
    | int i =>
      have h' : (intsOf ds).map (i :: ·) = some ns := h
      obtain ⟨ms, h1, rfl⟩ := Option.map_eq_some_iff.mp h'
      rw [ints_reps h1 r]; rfl
    | _ => cases h
theorem lr_sumQ {K : PySem.W.Frag} {Z0 : Hp} : LR K Z0 (rSumQ K) rSumQ' := ⟨fun Z S H xs ds Q Q' s0 rl pr h q => by
  unfold rSumQ' at h
  split at h
  · obtain ⟨v, rfl, p⟩ := one_of pr
    split at h
    · rename_i d ns hb
      obtain ⟨es, h1, h2⟩ := Option.bind_eq_some_iff.mp hb
      obtain ⟨a, us, rfl, h3, h4⟩ := rl.seq p h1
      obtain rfl := ints_reps h2 h4
      rcases h3 with h3 | h3
      · exact .inl ⟨a, ns, rfl, h3, q _ _ _ _ _ (Same.refl _) rl (.int _) h⟩
      · exact .inr ⟨a, ns, rfl, h3, q _ _ _ _ _ (Same.refl _) rl (.int _) h⟩
    · exact h.elim
  · exact h.elim⟩
section
variable {F : Fm} {K : PySem.W.Frag} {P : Program} {w : World} {mg : Str → Option Value} {base : Heap} [fam : Fam F P w K mg base]
variable {e : Expr} {es : List Expr} {t : DCtx → DA} {pos p : Pos}
include fam
theorem pd_sumQ (hm : mg "sum" = none) (ha : PDA F K (e :: es) t) (hc : ∀ k, (F.X k).calm = true := by intro _; rfl) (hg : ∀ k, Gl (F.X k) "sum" := by intro _; rfl) (he : ∀ k, starEach (e :: es) (F.X k).env = (false, eval e (F.X k).env) :: starEach es (F.X k).env := by intro _; rfl)
    (hpl : ∀ k, (backTo pos (starEach es (F.X k).env)).any (·.1) = false := by intro _; rfl) : PD F K (.Call (.Name "sum" p) (e :: es) [] pos) (fun c => dCB rSumQ' (t c)) := pd_callB (callK (r := rSumQ) fun k => cr_sumQ (hc k)) (fun _ => lr_sumQ) hm (by decide +kernel) ha hg (by decide) (by decide) he hpl
end
end DL
end

section
set_option Elab.async false
set_option linter.all false
set_option autoImplicit false
set_option maxRecDepth 100000
set_option maxHeartbeats 2000000
/-! DL28: sorted of a list of ints; x in a row of things none of which equals x. -/
namespace DL
open PySem PySem.Spec PyProof.Rows L2
def rInF (K : PySem.W.Frag) (neg : Bool) : R2 := fun x y H Q => ∃ (p : Addr) (xs : List V) (e : PyData), y = .ref p ∧ (SqL K H p xs ∨ SqT K H p xs) ∧ Dp K H x e ∧ SeqAt.shaped e = true ∧ (∀ u ∈ xs, ∃ d, Dp K H u d ∧ SeqAt.shaped d = true ∧ PyData.eqv d e = false) ∧ Q (.bl neg) H
section
variable {X : Cx} {pins : List (Addr × Obj)} {σ : L2.St} {H : Hp} {s : Shared}
theorem mem_F (hu : X.A.units + 65 < cLine) (I : Inv X pins σ H s) {e : PyData} {v : Value} {bs : List Addr} (r2 : PySem.Reads s.heap v e bs) (se : SeqAt.shaped e = true) : ∀ {xs : List V} {us : List Value}, Vals xs us → (∀ u ∈ xs, ∃ d, Dp X.K H u d ∧ SeqAt.shaped d = true ∧ PyData.eqv d e = false) → ∀ u ∈ us, SeqAt.EqAt X.A.in1 s u v false
  | _, _, .nil, _ => fun u hu => by cases hu
  | y :: xs, u :: us, .cons r t, h => fun u' hm => by
    rcases List.mem_cons.mp hm with rfl | hm
    · obtain ⟨d, hd, sd, he⟩ := h y List.mem_cons_self
      obtain ⟨as, r1⟩ := Dp.reads I d y _ hd r
      have := SeqAt.eqAt_reads d e X.A.in1 s _ _ _ _ r1 r2 (SeqAt.canLay_of_shaped sd) (SeqAt.canLay_of_shaped se) (SeqAt.room_of_shaped sd (by show X.A.units + 1 + 64 < cLine; omega))
      rw [he] at this
      exact this
    · exact mem_F hu I r2 se t (fun w hw => h w (List.mem_cons_of_mem _ hw)) u' hm
theorem any_F (us : Array Value) : us.any (fun _ => false) = false := by
  rw [Array.any_eq_false]; simp
end
theorem op_inF {X : Cx} (hu : X.A.units + 65 < cLine) : OpR X (compareOp .In) (rInF X.K false) := by
  intro pins s σ H x y v u Q I rx ry h
  obtain ⟨p, xs, e, rfl, hq, he, se, hx, q⟩ := h
  obtain ⟨bs, r2⟩ := Dp.reads I e x v he rx
  cases ry
  rcases hq with hq | hq
  · obtain ⟨its, r, pl, hz⟩ := I.list hq
    refine SeqAt.in_listAt (fun _ => false) pl.isList (fun w hw => mem_F hu I r2 se r hx w (by simpa using hw)) ?_
    rw [any_F]
    exact ⟨.bl _, H, I, rfl, q⟩
  · obtain ⟨its, r, pl, hz⟩ := I.tuple hq
    refine SeqAt.in_tupleAt (fun _ => false) pl (fun w hw => mem_F hu I r2 se r hx w (by simpa using hw)) ?_
    rw [any_F]
    exact ⟨.bl _, H, I, rfl, q⟩
def rInF' : R2' := fun x y S Q => match asQ S y with
  | some ds => shp 60 (frz S x) = true ∧ (∀ d ∈ ds, shp 60 (frz S d) = true ∧ eqD (frz S d) (frz S x) = false) ∧ Q (.bl false) S
  | none => False
theorem reps_mem {K : PySem.W.Frag} {Z : Hp} : ∀ {ds : List D} {xs : List V}, Reps K Z ds xs → ∀ u ∈ xs, ∃ d ∈ ds, Rep K Z d u
  | _, _, .nil, u, h => by cases h
  | d :: ds, x :: xs, .cons a r, u, h => by
    rcases List.mem_cons.mp h with rfl | h
    · exact ⟨d, List.mem_cons_self, a⟩
    · obtain ⟨e, he, hr⟩ := reps_mem r u h
      exact ⟨e, List.mem_cons_of_mem _ he, hr⟩
theorem lr_inF {K : PySem.W.Frag} {Z0 : Hp} : L2R K Z0 (rInF K false) rInF' := ⟨fun Z S H x y d e Q Q' s0 rl px pe h q => by
  have h' : (match asQ S e with
  | some ds => shp 60 (frz S d) = true ∧ (∀ y ∈ ds, shp 60 (frz S y) = true ∧ eqD (frz S y) (frz S d) = false) ∧ Q' (.bl false) S
  | none => False) := h
  cases ee : asQ S e with
  | none => rw [ee] at h'; exact h'.elim
  | some ds =>
    rw [ee] at h'
    obtain ⟨f1, f2, h'⟩ := h'
    obtain ⟨a, xs, rfl, h1, h2⟩ := rl.seq pe ee
    refine ⟨a, xs, py (frz S d), rfl, h1, rl.dp px 60 f1, shp_shaped f1 (by decide), fun u hu => ?_, q Z S H _ _ (Same.refl Z) rl (.bl _) h'⟩
    obtain ⟨y, hy, hr⟩ := reps_mem h2 u hu
    obtain ⟨g1, g2⟩ := f2 y hy
    exact ⟨py (frz S y), rl.dp hr 60 g1, shp_shaped g1 (by decide), by rw [eqv_py _ _ 60 60 g1 f1]; exact g2⟩⟩
def rSorted' : RL' := fun ds S Q => match ds with
  | [d] => (match (asL S d).bind intsOf with
    | some ns => ns.length < 64 ∧ ∀ ns' : List Int, ns'.Perm ns → ns'.Pairwise (· ≤ ·) → Q (.lst (ns'.map D.int)) S
    | none => False)
  | _ => False
theorem reps_intL {K : PySem.W.Frag} {Z : Hp} : ∀ ns : List Int, Reps K Z (ns.map D.int) (ns.map V.int)
  | [] => .nil
  | n :: ns => .cons (.int n) (reps_intL ns)
theorem lr_sorted {K : PySem.W.Frag} {Z0 : Hp} : LR K Z0 (rSorted K) rSorted' := ⟨fun Z S H xs ds Q Q' s0 rl pr h q => by
  unfold rSorted' at h
  split at h
  · obtain ⟨v, rfl, p⟩ := one_of pr
    split at h
    · rename_i e
      obtain ⟨a, rfl, h1⟩ := rl.ints p e
      refine ⟨a, _, rfl, h1, h.1, fun ns' l hp hs hl => ?_⟩
      obtain ⟨r2, s2⟩ := rl.laid (o := .lst (ns'.map V.int)) hl
      exact q _ _ _ _ _ s2 r2 (.lst upd_same (reps_intL ns')) (h.2 ns' hp hs)
    · exact h.elim
  · exact h.elim⟩
theorem x_sorted {S : Sto} {ns : List Int} {Q : DV} : rSorted' [.lst (ns.map D.int)] S Q = (ns.length < 64 ∧ ∀ ns' : List Int, ns'.Perm ns → ns'.Pairwise (· ≤ ·) → Q (.lst (ns'.map D.int)) S) := by
  unfold rSorted'
  have : (asL S (.lst (ns.map D.int))).bind intsOf = some ns := intsOf_ints ns
  simp only [this]
section
variable {F : Fm} {K : PySem.W.Frag} {P : Program} {w : World} {mg : Str → Option Value} {base : Heap} [fam : Fam F P w K mg base]
variable {e : Expr} {es : List Expr} {t : DCtx → DA} {pos p : Pos}
include fam
theorem c_inF {j : Nat} (hr : ∀ k, Room j (F.X k).A) : CmpD F K .In rInF' := ⟨_, opK (r := fun K => rInF K false) fun k => op_inF (by have := (hr k).un; omega), fun _ => lr_inF⟩
theorem pd_sorted (hm : mg "sorted" = none) (ha : PDA F K (e :: es) t) (hg : ∀ k, Gl (F.X k) "sorted" := by intro _; rfl) (he : ∀ k, starEach (e :: es) (F.X k).env = (false, eval e (F.X k).env) :: starEach es (F.X k).env := by intro _; rfl)
    (hpl : ∀ k, (backTo pos (starEach es (F.X k).env)).any (·.1) = false := by intro _; rfl) : PD F K (.Call (.Name "sorted" p) (e :: es) [] pos) (fun c => dCB rSorted' (t c)) := pd_callB (callK (r := rSorted) fun k => cr_sorted) (fun _ => lr_sorted) hm (by decide +kernel) ha hg (by decide) (by decide) he hpl
end
end DL
end

section
set_option Elab.async false
set_option linter.all false
set_option maxRecDepth 100000
set_option maxHeartbeats 1000000
/-! GK3: defs that run while no repr runs above them, and a law that is such a def. -/
namespace DL
open PySem PySem.Spec PyProof.Rows L2
/-- a def keeps its promise wherever no repr is under way -/
structure FnG (P : Program) (w : World) (K : PySem.W.Frag) (mg : Str → Option Value) (base : Heap) (C0 : CXT) (k : Nat) (f : Addr) (fd : FuncData) (ps : List Str) (sp : Sp) : Prop where
  ln : ∀ xs M q e, sp xs M q e → xs.length = ps.length
  go : ∀ (B : Around) (ups : List Env) (s0 : Shared) (M : Hp) (ar : Args) (rs : List Value) (xs : List V) (q : VK) (e : XK), B.guards = some [] → Room k B → Env0 P w K mg base B ups s0 M → BindsTo s0 fd ar (ps.zip rs) → Vals xs rs → sp xs M q e →
    codeAny (model P w) B (.call (.ref f) ar) (CR C0 ups P w M s0 q e) s0
section
variable {P : Program} {w : World} {K : PySem.W.Frag} {mg mb : Str → Option Value} {base : Heap}
/-- .. by its body -/
theorem fng_of {C0 : CXT} {x qual : Str} {params : Arguments} {body : List Stmt} {scope : Scope} {dvs : List V} {kws : List (Str × V)} {f : Addr} {fd : FuncData} {N ps : List Str} {k : Nat} {sp : Sp} (F0 : FunD K x qual params body scope dvs kws f fd) (S : FnScope N ps scope)
    (ln : ∀ xs M q e, sp xs M q e → xs.length = ps.length)
    (inner : ∀ (cv : Value) (B : Around) (ups : List Env) (s0 : Shared) (M : Hp) (xs : List V) (q : VK) (e : XK), B.guards = some [] → Room k (B.deeper (envOfC qual scope s0.heap.objs.size f cv)) → sp xs M q e →
      ∃ t, PSs (cxOf C0 P w K mg base N qual scope f cv B ups s0 M e) body t ∧ t { nx := fun _ M' => q .non M', rt := q } (start N xs) M) : FnG P w K mg base C0 (k + 1) f fd ps sp := by
  obtain ⟨c1, c2, c3, c4, c5, c6, c7, cv, c9, c10, rfl, look, code, _, _⟩ := F0.ex
  refine ⟨ln, fun B ups s0 M ar rs xs q e gB room e0 bnd rel h => ?_⟩
  have n0 := ln _ _ _ _ h
  have inK : K.In s0.heap := e0.mod.kin.keeps fun a o z => (e0.bs a o z).1
  have noLim : s0.heap.NoLimit := e0.mod.nolimit.keeps fun a o z => (e0.bs a o z).1
  refine codeAny_call_function room.depth (inK _ _ look) rfl S.co S.gen rfl (PySem.W.codeRec_of inK code) (bnd _ _ _ _ ?_)
  refine wpAny_newFunctionEnv_cells S.kind (fun y hy => ?_) fun en he s1 ic => ?_
  · have hm := List.of_mem_zip (show (y.1, y.2) ∈ ps.zip rs from hy)
    rcases S.par y.1 hm.1 with z | z
    · exact Or.inl z
    · exact Or.inr ⟨z, PySem.W.cellsFrom_some _ _ _ (Or.inl z)⟩
  · subst he
    refine ⟨noLim.keeps ic.toInCall.keep, codeAny_func ?_⟩
    obtain ⟨t, pt, ht⟩ := inner cv B ups s0 M xs q e gB (room.deeper _) h
    have I0 : Inv (cxOf C0 P w K mg base N qual scope f cv B ups s0 M e) [] (start N xs) M s1 := inv_start S room.hd e0 n0 rel ic
    refine wpAny_mono (pt.run [] s1 (start N xs) M _ I0 ht) (fun fl s2 z => ?_) fun _ _ z => z
    match fl, z with
    | .ret u, ⟨v, σ2, M2, J, rv, qq⟩ => exact ⟨v, M2, J.os, J.bare, J.base, J.hok, rv, qq⟩
    | .next, ⟨σ2, M2, J, qq⟩ => exact ⟨V.non, M2, J.os, J.bare, J.base, J.hok, rfl, qq⟩
    | .brk, ⟨_, _, _, z⟩ => exact z.elim
    | .cont, ⟨_, _, _, z⟩ => exact z.elim
/-- the abstract heap that tracks the script alone -/
def scrH (K : PySem.W.Frag) (a : Addr) (o : Obj) (xs : List V) : Hp := fun b => if b = a then (if (K.lookup a).isNone = true then some (.frz o (.lst xs)) else none) else none
theorem scrH_ne {K : PySem.W.Frag} {a b : Addr} {o : Obj} {xs : List V} (h : b ≠ a) : scrH K a o xs b = none := if_neg h
theorem scrH_or {K : PySem.W.Frag} {a b : Addr} {o : Obj} {xs : List V} : scrH K a o xs b = none ∨ (b = a ∧ K.lookup a = none ∧ scrH K a o xs b = some (.frz o (.lst xs))) := by
  by_cases h : b = a
  · subst h
    cases e : K.lookup b with
    | none =>
      refine Or.inr ⟨rfl, rfl, ?_⟩
      unfold scrH
      rw [if_pos rfl, e]; rfl
    | some u =>
      refine Or.inl ?_
      unfold scrH
      rw [if_pos rfl, e]; rfl
  · exact Or.inl (scrH_ne h)
/-- the law, called behind the top -/
theorem lawG {C0 : CXT} {k : Nat} {fa a : Addr} {fd : FuncData} {x : Str} {sp : Sp} {s1 : Shared} {vs : List Value} {ns : List Int}
    (inK : K.In s1.heap) (hns : s1.heap.Ns mainGlobals mg) (hbn : s1.heap.Ns builtinsNs mb) (hbb : ∀ y : Str, y ≠ "__name__" → mb y = bootBuiltins y) (noLim : s1.heap.NoLimit) (g0 : s1.gens = #[])
    (ha : s1.heap.get? a = some { cls := .type "list", data := .seq vs.toArray }) (hi : IntsAre vs ns) (hsz : ns.length ≤ sizeLine) (room : Room k callerA)
    (F : ∀ bs : Heap, K.In bs → bs.Ns mainGlobals mg → FnG P w K mg bs C0 k fa fd [x] sp) (bnd : ∀ (s : Shared) (u : Value), BindsTo s fd ⟨[u], []⟩ [(x, u)])
    (hsp : ∀ M : Hp, Only M → SqL K M a (ns.map V.int) → sp [.ref a] M (fun v _ => v = .bl true) fun _ _ _ => False)
    (noX : ∀ M e s2, C0 [] M s1 (fun _ _ _ => False) e s2 → False) :
    codeAny (model P w) callerA (.call (.ref fa) ⟨[.ref a], []⟩) (fun r s2 => r = .ok (.ret (.bool true)) ∧ OldK s1.heap s2.heap ∧ s2.os = s1.os ∧ AllBare s2.gens) s1 := by
  have rel := vals_ints hi
  have len := hi.length
  let so : Obj := { cls := .type "list", data := .seq vs.toArray }
  let M : Hp := scrH K a so (ns.map V.int)
  have tr : ∀ b, M b = none ∨ (b = a ∧ K.lookup a = none ∧ M b = some (.frz so (.lst (ns.map V.int)))) := fun b => scrH_or
  have only : Only M := fun b => by
    rcases tr b with z | ⟨_, _, z⟩
    · exact Or.inl z
    · exact Or.inr ⟨_, _, z⟩
  have sq : SqL K M a (ns.map V.int) := by
    cases e : K.lookup a with
    | some o =>
      have z := inK a o e
      rw [ha] at z
      cases z
      exact Or.inr ⟨_, vs.toArray, _, e, rfl, rfl, rfl, by rw [List.size_toArray, len]; exact hsz, by simpa using rel⟩
    | none =>
      refine Or.inl (Or.inr ⟨so, ?_⟩)
      show scrH K a so (ns.map V.int) a = _
      unfold scrH
      rw [if_pos rfl, e]; rfl
  have ok : HOk P w M s1.heap := fun b u z => by
    rcases tr b with z0 | ⟨rfl, _, z0⟩
    · rw [z0] at z; cases z
    · rw [z0] at z; cases z
      exact ⟨ha, by rw [List.length_map]; exact hsz, vs, _, rel, ha⟩
  have hid : ∀ {b : Addr} {o : Obj}, s1.heap.get? b = some o → M b = none → (hidT s1.heap M).get? b = some o := fun e n => hidT_get e n
  have dict : ∀ {b : Addr} {m : Str → Option Value}, s1.heap.Ns b m → (hidT s1.heap M).Ns b m := fun {b m} ⟨o, es, ep, e, d, r⟩ => ⟨o, es, ep, hid e (by
    rcases tr b with z | ⟨rfl, _, _⟩
    · exact z
    · rw [ha] at e; cases e; cases d), d, r⟩
  have inB : K.In (hidT s1.heap M) := fun b o e => hid (inK b o e) (by
    rcases tr b with z | ⟨rfl, z, _⟩
    · exact z
    · rw [z] at e; cases e)
  have mod : Mod K mg (hidT s1.heap M) := ⟨inB, dict hns, ⟨mb, dict hbn, hbb⟩, by obtain ⟨mc, z1, z2⟩ := noLim; exact ⟨mc, dict z1, z2⟩⟩
  have e0 : Env0 P w K mg (hidT s1.heap M) callerA [] s1 M := ⟨rfl, mod, fun _ _ e => of_hidT e, Nat.le_of_eq (hidT_size _ _), trivial, (fun b z => absurd (show b ∈ ([] : List Addr) from z) (List.not_mem_nil)), ok, .of_eq g0⟩
  have run := (F _ inB (dict hns)).go callerA [] s1 M ⟨[.ref a], []⟩ [.ref a] [.ref a] _ _ rfl room e0 (bnd s1 (.ref a)) (.cons rfl .nil) (hsp M only sq)
  refine codeAny_mono run fun r s2 z => ?_
  match r, z with
  | .error e, z => exact (noX M e s2 z).elim
  | .ok .next, z => exact False.elim z
  | .ok .brk, z => exact False.elim z
  | .ok .cont, z => exact False.elim z
  | .ok (.ret u), ⟨v, M2, os, bare, un, ok2, rv, q⟩ =>
    have q : v = .bl true := q
    subst q
    have eu : u = Value.bool true := rv
    subst eu
    refine ⟨rfl, OldK.of_keep (fun b o e => ?_), os, bare⟩
    rcases tr b with z | ⟨rfl, _, z⟩
    · exact un.keep b o e z (fun y => by cases y) (fun y => by cases y)
    · obtain ⟨e1, _⟩ := ok b _ z
      obtain ⟨e2, _⟩ := ok2 b _ (un.frzs b so _ z)
      rw [e] at e1
      cases e1
      exact e2
end
/-- a law that keeps its promise where no repr is under way -/
theorem walkG {l : PySem.W.OpenLaw} {n k : Nat} {q : Program} {loose : List Str} {XP : (Str → Option Value) → Heap → Prop} {YP : World → Heap → Prop} {d : DefRec} {C0 : CXT} {x : Str}
    (hn : l.most = some n) (hn2 : n ≤ sizeLine) (hdf : d.params.defaults = []) (room : Room k callerA)
    (F : ∀ (w : World) (mg : Str → Option Value) (fu : Addr) (h : Heap), YP w h → h.Ns mainGlobals mg → mg d.name = some (.ref fu) →
      ∃ (K : PySem.W.Frag) (fd : FuncData) (sp : Sp), K.In h ∧ (∀ (s : Shared) (z : Value), BindsTo s fd ⟨[z], []⟩ [(x, z)]) ∧
        (∀ (M : Hp) (a : Addr) (ns : List Int), ns.length ≤ n → Only M → SqL K M a (ns.map V.int) → sp [.ref a] M (fun v _ => v = .bl true) fun _ _ _ => False) ∧
        ∀ bs : Heap, K.In bs → bs.Ns mainGlobals mg → FnG l.prog w K mg bs C0 k fu fd [x] sp)
    (noX : ∀ (M : Hp) (s : Shared) (e : Value) (s2 : Shared), C0 [] M s (fun _ _ _ => False) e s2 → False) :
    PySem.W.WalkO q loose XP YP l.row.toRowW d [] (fun f us => PySem.call f us) :=
  Att.attach_call hn hdf fun w s0 s1 mg mb fa o pm cd doc a vs ns G Y ho hd hcd hmg hobj hints hlen hg => by
    obtain ⟨K, fd, sp, inK, hb, hsp, hF⟩ := F w mg fa _ Y G.T.g hmg
    exact lawG inK G.T.g G.T.b G.T.builtins G.T.nolimit hg hobj hints (Nat.le_trans hlen hn2) room hF hb (fun M hO hS => hsp M a ns hlen hO hS) fun M e s2 => noX M s1 e s2
end DL
end

section
set_option Elab.async false
set_option linter.all false
set_option autoImplicit false
set_option maxRecDepth 100000
set_option maxHeartbeats 2000000
/-! DL29: repr where no repr is under way; a def's body there. -/
namespace DL
open PySem PySem.Spec PyProof.Rows L2

theorem call_repr {X : Cx} (hg : X.A.guards = some []) (hu : X.A.units + 64 < cLine) : CallR X (.builtin "repr") (fun xs H Q => ∃ v d, xs = [v] ∧ Dp X.K H v d ∧ d.showable = true ∧ d.hasDict = false ∧ d.depth ≤ 60 ∧ d.shown.length ≤ sizeLine ∧ Q (.str d.shown) H) := by
  intro pins s σ H xs us Q I r h
  obtain ⟨v, d, rfl, hd, hs, hh, hp, hl, q⟩ := h
  cases r with
  | cons r rr =>
    cases rr
    obtain ⟨as, rd⟩ := Dp.reads I d v _ hd r
    have far : ∀ {a : Addr} {d : PyData} {as : List Addr}, Reads s.heap (.ref a) d as → d.showable = true → d.hasDict = false → d.depth ≤ 60 → d.shown.length ≤ sizeLine → Q (.str d.shown) H →
        wpAny (model X.prog X.w) X.A (call (.builtin "repr") [.ref a]) (EP X pins σ Q) X.xe s := fun rd hs hh hp hl q =>
      repr_of_reads' rd hs (fun e => by rw [hh] at e; cases e) hg (by omega) (fun _ _ e => e) (fun h' u tk hk => ⟨.str _, H, I.kept hk, ⟨_, rfl⟩, q⟩) hl
    cases rd with
    | none => exact PySem.P.repr_of_none ⟨.str _, H, I.tok _, ⟨_, rfl⟩, by simpa only [PyData.shown] using q⟩
    | bool b => exact PySem.P.repr_of_bool ⟨.str _, H, I.tok _, ⟨_, rfl⟩, by simpa only [PyData.shown] using q⟩
    | int i t => exact PySem.P.repr_of_int (by simpa [PyData.showable] using hs) ⟨.str _, H, I.tok _, ⟨_, rfl⟩, by simpa only [PyData.shown] using q⟩
    | str x t => exact PySem.P.repr_of_str ⟨.str _, H, I.tok _, ⟨_, rfl⟩, by simpa only [PyData.shown] using q⟩ (by simpa only [PyData.shown] using hl)
    | list a b c d => exact far (.list a b c d) hs hh hp hl q
    | tuple a b c d => exact far (.tuple a b c d) hs hh hp hl q
    | dict => simp [PyData.hasDict] at hh
/-- repr of data -/
def rRepr' : RL' := fun ds S Q => match ds with
  | [d] => shp 60 (frz S d) = true ∧ (py (frz S d)).showable = true ∧ (py (frz S d)).shown.length ≤ sizeLine ∧ Q (.str (py (frz S d)).shown) S
  | _ => False
theorem lr_repr {K : PySem.W.Frag} {Z0 : Hp} : LR K Z0 (fun xs H Q => ∃ v d, xs = [v] ∧ Dp K H v d ∧ d.showable = true ∧ d.hasDict = false ∧ d.depth ≤ 60 ∧ d.shown.length ≤ sizeLine ∧ Q (.str d.shown) H) rRepr' := ⟨fun Z S H xs ds Q Q' s0 rl pr h q => by
  unfold rRepr' at h
  split at h
  · obtain ⟨v, rfl, p⟩ := one_of pr
    obtain ⟨h1, h2, h3, h4⟩ := h
    obtain ⟨z1, z2⟩ := shp_lay 60 _ h1
    exact ⟨v, _, rfl, rl.dp p 60 h1, h2, PyData.hasDict_of_canLay _ z1, z2, h3, q _ _ _ _ _ (Same.refl _) rl (.str _) h4⟩
  · exact h.elim⟩
/-- contexts with no repr under way -/
def NoG (F : Fm) : Prop := ∀ i, (F.X i).A.guards = some []
section
variable {F : Fm} {K : PySem.W.Frag} {P : Program} {w : World} {mg : Str → Option Value} {base : Heap} [fam : Fam F P w K mg base]
variable {e : Expr} {es : List Expr} {t : DCtx → DA} {pos p : Pos}
include fam
theorem pd_repr (ng : NoG F) {j : Nat} (hr : ∀ k, Room j (F.X k).A) (hm : mg "repr" = none) (ha : PDA F K (e :: es) t) (hg : ∀ k, Gl (F.X k) "repr" := by intro _; rfl) (he : ∀ k, starEach (e :: es) (F.X k).env = (false, eval e (F.X k).env) :: starEach es (F.X k).env := by intro _; rfl)
    (hpl : ∀ k, (backTo pos (starEach es (F.X k).env)).any (·.1) = false := by intro _; rfl) : PD F K (.Call (.Name "repr" p) (e :: es) [] pos) (fun c => dCB rRepr' (t c)) :=
  pd_callB (callK (r := fun K xs H Q => ∃ v d, xs = [v] ∧ Dp K H v d ∧ d.showable = true ∧ d.hasDict = false ∧ d.depth ≤ 60 ∧ d.shown.length ≤ sizeLine ∧ Q (.str d.shown) H) fun k => call_repr (ng k) (hr k).units) (fun _ => lr_repr) hm (by decide +kernel) ha hg (by decide) (by decide) he hpl
end

/-! ### a def's body where no repr is under way -/
section
variable {P : Program} {w : World} {K : PySem.W.Frag} {mg : Str → Option Value} {base : Heap}
structure BIG (qual : Str) (scope : Scope) (f : Addr) (k : Nat) extends BI qual scope f k where
  ng : A.guards = some []
def BFG (P : Program) (w : World) (K : PySem.W.Frag) (mg : Str → Option Value) (base : Heap) (N : List Str) (qual : Str) (scope : Scope) (f : Addr) (k : Nat) : Fm where
  ι := BIG qual scope f k
  X := fun i => cxOf (L2.CX P w) P w K mg base N qual scope f i.cdv i.A i.outer i.s i.H i.E
  ok := fun i h => h.W = fun cls d _ H => i.E cls d H
  tk := fun i h e => by rw [e]; exact takes_of rfl rfl rfl rfl
instance {N : List Str} {qual : Str} {scope : Scope} {f : Addr} {k : Nat} : Fam (BFG P w K mg base N qual scope f k) P w K mg base :=
  ⟨fun _ => rfl, fun _ => rfl, fun _ => rfl, fun _ => rfl, fun _ => rfl⟩
theorem bfg_room {N : List Str} {qual : Str} {scope : Scope} {f : Addr} {k : Nat} : ∀ i, Room k ((BFG P w K mg base N qual scope f k).X i).A := fun i => i.room
theorem bfg_pso {N : List Str} {qual : Str} {scope : Scope} {f : Addr} {k : Nat} : PsO (BFG P w K mg base N qual scope f k) := fun i => passes_of (K := fun e s'' => CX P w i.outer i.H i.s i.E e s'') rfl
theorem bfg_ng {N : List Str} {qual : Str} {scope : Scope} {f : Addr} {k : Nat} : NoG (BFG P w K mg base N qual scope f k) := fun i => by
  have h := i.ng
  show (i.A.deeper _).guards = some []
  exact h
/-- a def, by its body, where no repr is under way -/
theorem fng_ok {x qual : Str} {params : Arguments} {body : List Stmt} {scope : Scope} {dvs : List V} {kws : List (Str × V)} {f : Addr} {fd : FuncData} {N ps : List Str} {k : Nat} {G : DF} (F0 : FunD K x qual params body scope dvs kws f fd) (S : FnScope N ps scope)
    (len : ∀ ds S Q E, G ds S Q E → ds.length = ps.length) {t' : DCtx → DS} (hbody : PDSs (BFG P w K mg base N qual scope f k) K body t')
    (rd : ∀ ds S Q E, G ds S Q E → t' ⟨fun C fs _ S => E C fs S, none⟩ { nx := fun _ S' => Q .non S', rt := Q } (startD N ds) S) : FnG P w K mg base (L2.CX P w) (k + 1) f fd ps (spD K G) := by
  refine fng_of F0 S (fun vs H Q E h => ?_) fun cdv A outer s H vs Q E ng hr h => ?_
  · obtain ⟨Z, St, ds, Q', E', _, r, hF, _⟩ := h
    rw [← r.length]
    exact len _ _ _ _ hF
  · obtain ⟨Z, St, ds, Q', E', rl, r, hF, hQ, hE⟩ := h
    obtain ⟨t, a1, l1⟩ := hbody
    refine ⟨t ⟨fun cls d _ H => E cls d H, 0, .none, none⟩, a1 ⟨⟨cdv, A, outer, s, H, E, hr⟩, ng⟩ _ rfl, (l1 Z _ _ ⟨⟨fun Z1 S1 H1 env σ C fs d s1 _ r1 x1 w1 => hE Z1 S1 H1 C fs d s1 r1 x1 w1⟩, fun _ _ _ h => by cases h⟩).run Z St H _ _ _ _ (Same.refl Z) (relE_start r) rl (rd ds St Q' E' hF)
      ⟨fun Z1 S1 H1 env1 σ1 s1 _ r1 h1 => hQ Z1 S1 H1 .non .non s1 r1 .non h1, fun Z1 S1 H1 d v s1 r1 p1 h1 => hQ Z1 S1 H1 d v s1 r1 p1 h1, fun _ _ _ _ _ _ _ _ h => h.elim, fun _ _ _ _ _ _ _ _ h => h.elim⟩⟩
end

/-! ### calls of such defs -/
theorem run_G {X : Cx} {k : Nat} {f : Addr} {fd : FuncData} {ps : List Str} {sp : Sp} {dvs : List V} {ds : List Value} {W : L2.St → XK} {pins : List (Addr × Obj)} {σ : L2.St} {M : Hp} {s0 : Shared} {q : VK} {us : List Value} {vs : List V}
    (G : FnG X.prog X.w X.K X.mg X.base (L2.CX X.prog X.w) k f fd ps sp) (ng : X.A.guards = some []) (room : Room k X.A) (hb : Binds X.K fd ps ds) (hd : Vals dvs ds) (leave : PassesAt (L2.CX X.prog X.w) X σ (W σ))
    (J : Inv X pins σ M s0) (rel : Vals vs us) (h : sp (vs ++ dvs) M q (W σ)) : wpAny (model X.prog X.w) X.A (call (.ref f) us) (EP X pins σ q) X.xe s0 := by
  have rel2 : Vals (vs ++ dvs) (us ++ ds) := rel.append hd
  have len2 : (us ++ ds).length = ps.length := rel2.length.symm.trans (G.ln _ _ _ _ h)
  refine wpAny_call (codeAny_mono (G.go X.A X.stack s0 M ⟨us, []⟩ (us ++ ds) (vs ++ dvs) q (W σ) ng room J.env0 (hb s0 us J.kIn len2) rel2 h) fun res s2 z => ?_)
  match res, z with
  | .error e, z => exact leave pins M s0 e s2 J z
  | .ok (.ret u), z => exact J.after z
  | .ok .next, z => exact False.elim z
  | .ok .brk, z => exact False.elim z
  | .ok .cont, z => exact False.elim z
theorem pe_callG {X : Cx} {k : Nat} {f : Addr} {fd : FuncData} {ps : List Str} {sp : Sp} {dvs : List V} {ds : List Value} {W : L2.St → XK} {x : Str} {e : Expr} {es : List Expr} {t : TA} {p pos : Pos}
    (G : FnG X.prog X.w X.K X.mg X.base (L2.CX X.prog X.w) k f fd ps sp) (ng : X.A.guards = some []) (room : Room k X.A) (gl : Gl X x) (hm : X.mg x = some (.ref f)) (kp : PySem.W.keepIn X.K (.ref f) = true) (hb : Binds X.K fd ps ds) (hd : Vals dvs ds) (leave : ∀ σ, PassesAt (L2.CX X.prog X.w) X σ (W σ))
    (ha : PA X (e :: es) t) (hdb : (x == ("__debug__" : Str)) = false) (he : starEach (e :: es) X.env = (false, eval e X.env) :: starEach es X.env) (hpl : (backTo pos (starEach es X.env)).any (·.1) = false) :
    PE X (.Call (.Name x p) (e :: es) [] pos) (tCallSD sp dvs W t) := by
  refine ⟨fun pins s σ M Q J h => ?_⟩
  refine wpAny_Call_Name_kw (ld_glob J gl hm ?_ hdb)
  exact PySem.W.callWith_K (h₀ := X.base) J.ok.mod.kin kp (thn (ha.run pos pins s σ M _ J h) fun us s1 ⟨vs, M1, J1, rel, q⟩ => ⟨J1.kIn, run_G G ng room hb hd (leave σ) J1 rel q⟩) he hpl
/-- known under its name -/
structure FnGD (P : Program) (w : World) (K : PySem.W.Frag) (mg : Str → Option Value) (base : Heap) (k : Nat) (x : Str) (F : DF) (dds : List D) : Prop where
  ex : ∃ (f : Addr) (fd : FuncData) (ps : List Str) (dvs : List V) (ds : List Value), FnG P w K mg base (L2.CX P w) k f fd ps (spD K F) ∧ mg x = some (.ref f) ∧ PySem.W.keepIn K (.ref f) = true ∧ Binds K fd ps ds ∧ Vals dvs ds ∧ ∀ Z, Reps K Z dds dvs
theorem FnG.fnGD {P : Program} {w : World} {K : PySem.W.Frag} {mg : Str → Option Value} {base : Heap} {x : Str} {f : Addr} {fd : FuncData} {ps : List Str} {k : Nat} {G : DF} (h : FnG P w K mg base (L2.CX P w) k f fd ps (spD K G)) (hm : mg x = some (.ref f)) (hk : PySem.W.keepIn K (.ref f) = true) (hb : Binds K fd ps []) : FnGD P w K mg base k x G [] :=
  ⟨f, fd, ps, [], [], h, hm, hk, hb, .nil, fun _ => .nil⟩
section
variable {F : Fm} {K : PySem.W.Frag} {P : Program} {w : World} {mg : Str → Option Value} {base : Heap} [fam : Fam F P w K mg base]
variable {e : Expr} {es : List Expr} {t : DCtx → DA} {pos p : Pos} {x : Str}
include fam
theorem pd_callG {k : Nat} {G : DF} {dds : List D} (ng : NoG F) (c : FnGD P w K mg base k x G dds) {j : Nat} (hr : ∀ k, Room j (F.X k).A) (hk : k ≤ j) (ha : PDA F K (e :: es) t) (hg : ∀ k, Gl (F.X k) x := by intro _; rfl)
    (hdb : (x == ("__debug__" : Str)) = false := by decide) (he : ∀ k, starEach (e :: es) (F.X k).env = (false, eval e (F.X k).env) :: starEach es (F.X k).env := by intro _; rfl) (hpl : ∀ k, (backTo pos (starEach es (F.X k).env)).any (·.1) = false := by intro _; rfl) :
    PD F K (.Call (.Name x p) (e :: es) [] pos) (fun c => dCall G dds c.w (t c)) := by
  obtain ⟨f, fd, ps, dvs, ds, h1, h2, h3, h4, h5, h6⟩ := c.ex
  obtain ⟨ta, a1, a2⟩ := ha.ex
  refine ⟨_, fun i h q => ?_, fun Z h c r => le_call h6 r.w (a2 Z h c r)⟩
  have e1 := fam.prog i
  have e2 := fam.w i
  have e3 := fam.k i
  have e4 := fam.mg i
  have e5 := fam.base i
  exact pe_callG (X := F.X i) (by rw [e1, e2, e3, e4, e5]; exact h1) (ng i) ((hr i).mono hk) (hg i) (by rw [e4]; exact h2) (by rw [e3]; exact h3) (by rw [e3]; exact h4) h5 (fun σ => passAt (F.tk i h q) σ) (a1 i h q) hdb (he i) (hpl i)
end
theorem blk_ng {F : Fm} {scope : Scope} (h : NoG F) : NoG (blkF F scope) := fun q => h q.1
theorem tr_ng {F : Fm} (h : NoG F) : NoG (trF F) := fun q => h q.i
/-- what leaves such a law -/
theorem cxeG {P : Program} {w : World} {K : PySem.W.Frag} {mg : Str → Option Value} {base : Heap} {k : Nat} {f : Addr} {fd : FuncData} {ps : List Str} {sp : Sp} (G : FnG P w K mg base (L2.CX P w) k f fd ps sp) : FnG P w K mg base CXE k f fd ps sp :=
  ⟨G.ln, fun B ups s0 M ar rs xs q e gB room e0 bnd rel h => codeAny_mono (G.go B ups s0 M ar rs xs q e gB room e0 bnd rel h) fun res s2 z => by
    match res, z with
    | .error e, z => exact ⟨P, w, z⟩
    | .ok (.ret u), z => exact z
    | .ok .next, z => exact z
    | .ok .brk, z => exact z
    | .ok .cont, z => exact z⟩
end DL
end

section
set_option Elab.async false
set_option linter.all false
set_option autoImplicit false
set_option maxRecDepth 100000
set_option maxHeartbeats 2000000
/-! DL30: how long a repr may be. -/
namespace DL
open PySem PySem.Spec PyProof.Rows L2
mutual
/-- what may be shown: numbers below 2 ^ 100 -/
def smD : D → Bool
  | .non => true
  | .bl _ => true
  | .int i => decide (i.natAbs < 1267650600228229401496703205376)
  | .str x => PyData.strOk (reprText x)
  | .tup ds => smDs ds
  | .lst ds => smDs ds
  | _ => false
def smDs : List D → Bool
  | [] => true
  | d :: ds => smD d && smDs ds
end
mutual
/-- a bound for the text and two signs more -/
def wtD : D → Nat
  | .non => 8
  | .bl _ => 8
  | .int _ => 104
  | .str x => (reprText x).length + 2
  | .tup ds => 6 + wtDs ds
  | .lst ds => 6 + wtDs ds
  | _ => 0
def wtDs : List D → Nat
  | [] => 0
  | d :: ds => wtD d + wtDs ds
end
theorem txt_len : ∀ (ts : List Str) (k : Nat) (acc : Str), (textFrom k acc ts).length ≤ acc.length + piled ts
  | [], k, acc => by show acc.length ≤ _; omega
  | t :: r, k, acc => by
    have h := txt_len r (k + 1) (acc ++ (if k > 0 then ", " else "" : String) ++ t)
    have e : (acc ++ (if k > 0 then ", " else "" : String) ++ t).length ≤ acc.length + 2 + t.length := by
      rw [strLen_append, strLen_append]
      split
      · exact Nat.le_refl _
      · show acc.length + 0 + t.length ≤ _; omega
    rw [piled_cons]
    show (textFrom (k + 1) (acc ++ (if k > 0 then ", " else "" : String) ++ t) r).length ≤ _
    omega
theorem lst_len (ts : List Str) : (listText ts).length ≤ 2 + piled ts := by
  have h := txt_len ts 0 "["
  have e : (listText ts).length = (textFrom 0 "[" ts).length + 1 := by
    show (textFrom 0 "[" ts ++ "]").length = _
    rw [strLen_append]; rfl
  have e2 : ("[" : Str).length = 1 := rfl
  omega
theorem tup_len (ts : List Str) : (tupleText ts).length ≤ 3 + piled ts := by
  unfold tupleText
  rw [strLen_append, strLen_append]
  have e2 : ("(" : Str).length = 1 := rfl
  have e3 : ((if ts.length == 1 then ",)" else ")" : String) : Str).length ≤ 2 := by
    split
    · exact Nat.le_refl _
    · show 1 ≤ 2; omega
  by_cases h : ts = []
  · subst h
    have : (Str.join ", " ([] : List Str)).length = 0 := rfl
    omega
  · have := join_length_add ts h
    omega
theorem shown_log {i : Int} (h : i.natAbs < 1267650600228229401496703205376) : i.natAbs.log2 < 100 := by
  by_cases z : i.natAbs = 0
  · rw [z]; decide
  · exact (Nat.log2_lt z).mpr h
mutual
theorem shown_le : ∀ d : D, smD d = true → (py d).showable = true ∧ (py d).shown.length + 2 ≤ wtD d
  | .non, _ => by
    unfold py PyData.showable PyData.shown wtD
    exact ⟨rfl, by decide +kernel⟩
  | .bl b, _ => by
    unfold py PyData.showable PyData.shown wtD
    refine ⟨rfl, ?_⟩
    cases b <;> decide +kernel
  | .int i, h => by
    unfold smD at h
    have h1 := shown_log (of_decide_eq_true h)
    unfold py PyData.showable PyData.shown wtD
    refine ⟨decide_eq_true (by omega), ?_⟩
    have h2 := int_text_length_le (a := i) (k := 100) (by decide) h1
    show (Str.ofString (toString i)).length + 2 ≤ 104
    rw [PySem.ofString_length]
    omega
  | .str x, _ => by
    unfold py PyData.showable PyData.shown wtD
    exact ⟨rfl, Nat.le_refl _⟩
  | .tup ds, h => by
    unfold smD at h
    obtain ⟨h1, h2⟩ := shown_les ds h
    unfold py PyData.showable PyData.shown wtD
    refine ⟨h1, ?_⟩
    have := tup_len (PyData.shownAll (pys ds))
    omega
  | .lst ds, h => by
    unfold smD at h
    obtain ⟨h1, h2⟩ := shown_les ds h
    unfold py PyData.showable PyData.shown wtD
    refine ⟨h1, ?_⟩
    have := lst_len (PyData.shownAll (pys ds))
    omega
  | .ty _, h => by cases h
  | .raw _, h => by cases h
  | .ins _ _, h => by cases h
  | .dk _, h => by cases h
theorem shown_les : ∀ ds : List D, smDs ds = true → PyData.showableAll (pys ds) = true ∧ piled (PyData.shownAll (pys ds)) ≤ wtDs ds
  | [], _ => by
    unfold pys PyData.showableAll PyData.shownAll wtDs
    exact ⟨rfl, Nat.le_refl _⟩
  | d :: ds, h => by
    unfold smDs at h
    obtain ⟨h1, h2⟩ := Bool.and_eq_true_iff.mp h
    obtain ⟨a, b⟩ := shown_le d h1
    obtain ⟨a2, b2⟩ := shown_les ds h2
    unfold pys PyData.showableAll PyData.shownAll wtDs
    refine ⟨by rw [a, a2]; rfl, ?_⟩
    rw [piled_cons]
    omega
end
theorem smDs_all : ∀ {ds : List D}, smDs ds = true ↔ ∀ d ∈ ds, smD d = true
  | [] => ⟨fun _ _ h => absurd h (by simp), fun _ => by unfold smDs; rfl⟩
  | d :: ds => by
    unfold smDs
    rw [Bool.and_eq_true_iff, smDs_all, List.forall_mem_cons]
theorem wtDs_le {n : Nat} : ∀ {ds : List D}, (∀ d ∈ ds, wtD d ≤ n) → wtDs ds ≤ ds.length * n
  | [], _ => by unfold wtDs; exact Nat.zero_le _
  | d :: ds, h => by
    unfold wtDs
    have h1 := h d List.mem_cons_self
    have h2 := wtDs_le (ds := ds) fun e he => h e (List.mem_cons_of_mem _ he)
    rw [List.length_cons, Nat.succ_mul]
    omega
/-- the text of a thing -/
def reprD (d : D) : Str := (py d).shown
theorem x_repr {S : Sto} {Q : DV} {d : D} (hz : frz S d = d) (h1 : shp 60 d = true) (h2 : smD d = true) (h3 : wtD d ≤ 16000000) (q : Q (.str (reprD d)) S) : rRepr' [d] S Q := by
  obtain ⟨a, b⟩ := shown_le d h2
  show shp 60 (frz S d) = true ∧ (py (frz S d)).showable = true ∧ (py (frz S d)).shown.length ≤ sizeLine ∧ Q (.str (py (frz S d)).shown) S
  rw [hz]
  exact ⟨h1, a, by rw [sizeLine_eq]; omega, q⟩
/-! the signs of a text -/
theorem ok_app {a b : Str} (h1 : PyData.strOk a = true) (h2 : PyData.strOk b = true) : PyData.strOk (a ++ b) = true := by
  unfold PyData.strOk at h1 h2 ⊢
  show (a.cps ++ b.cps).all (· < 0x110000) = true
  rw [Array.all_append, h1, h2]; rfl
theorem char_lt (c : Char) : c.toNat < 0x110000 := by
  have h := c.valid
  have e : c.toNat = c.val.toNat := rfl
  rcases h with h | ⟨_, h⟩
  · rw [e]; omega
  · rw [e]; omega
theorem ok_of (s : String) : PyData.strOk (Str.ofString s) = true := by
  unfold PyData.strOk
  rw [Str.ofString_eq_toList, Array.all_eq_true']
  intro c hc
  have hc : c ∈ s.toList.map Char.toNat := by simpa using hc
  obtain ⟨d, _, rfl⟩ := List.mem_map.mp hc
  exact decide_eq_true (char_lt d)
theorem ok_join : ∀ {ts : List Str}, (∀ t ∈ ts, PyData.strOk t = true) → PyData.strOk (Str.join ", " ts) = true
  | [], _ => by decide +kernel
  | [x], h => h x (by simp)
  | x :: y :: r, h => by
    show PyData.strOk (x ++ ", " ++ Str.join ", " (y :: r)) = true
    exact ok_app (ok_app (h x (by simp)) (ok_of _)) (ok_join fun t ht => h t (List.mem_cons_of_mem _ ht))
theorem ok_from : ∀ {ts : List Str} (k : Nat) (acc : Str), PyData.strOk acc = true → (∀ t ∈ ts, PyData.strOk t = true) → PyData.strOk (textFrom k acc ts) = true
  | [], _, _, h, _ => h
  | t :: r, k, acc, h, h2 => by
    show PyData.strOk (textFrom (k + 1) (acc ++ (if k > 0 then ", " else "" : String) ++ t) r) = true
    exact ok_from (k + 1) _ (ok_app (ok_app h (ok_of _)) (h2 t List.mem_cons_self)) fun u hu => h2 u (List.mem_cons_of_mem _ hu)
mutual
theorem shown_ok : ∀ d : D, smD d = true → PyData.strOk (py d).shown = true
  | .non, _ => by unfold py PyData.shown; exact ok_of _
  | .bl b, _ => by unfold py PyData.shown; cases b <;> exact ok_of _
  | .int i, _ => by unfold py PyData.shown; exact ok_of _
  | .str x, h => by unfold smD at h; unfold py PyData.shown; exact h
  | .tup ds, h => by
    unfold smD at h
    unfold py PyData.shown tupleText
    exact ok_app (ok_app (ok_of _) (ok_join (shown_oks ds h))) (ok_of _)
  | .lst ds, h => by
    unfold smD at h
    unfold py PyData.shown listText
    exact ok_app (ok_from 0 "[" (ok_of _) (shown_oks ds h)) (ok_of _)
  | .ty _, h => by cases h
  | .raw _, h => by cases h
  | .ins _ _, h => by cases h
  | .dk _, h => by cases h
theorem shown_oks : ∀ ds : List D, smDs ds = true → ∀ t ∈ PyData.shownAll (pys ds), PyData.strOk t = true
  | [], _ => by unfold pys PyData.shownAll; intro t ht; simp at ht
  | d :: ds, h => by
    unfold smDs at h
    obtain ⟨h1, h2⟩ := Bool.and_eq_true_iff.mp h
    unfold pys PyData.shownAll
    intro t ht
    rcases List.mem_cons.mp ht with rfl | ht
    · exact shown_ok d h1
    · exact shown_oks ds h2 t ht
end
theorem repr_ok {d : D} (h2 : smD d = true) : PyData.strOk (reprD d) = true := shown_ok d h2
theorem x_neStr {a b : Str} {S : Sto} {Q : DV} (ha : PyData.strOk a = true) (hb : PyData.strOk b = true) (q : Q (.bl (!(a == b))) S) : rNe' (.str a) (.str b) S Q := by
  refine ⟨by show shp 60 (.str a) = true; simp only [shp, ha], by show shp 60 (.str b) = true; simp only [shp, hb], ?_⟩
  have e : eqD (frz S (.str a)) (frz S (.str b)) = (a == b) := by
    show eqD (.str a) (.str b) = _
    simp only [eqD]
  rw [e]
  exact q

mutual
theorem eqD_self : ∀ (d : D) (n : Nat), shp n d = true → eqD d d = true
  | .non, _, _ => by unfold eqD; rfl
  | .bl b, _, _ => by unfold eqD; simp
  | .int i, _, _ => by unfold eqD; simp
  | .str x, _, _ => by unfold eqD; simp
  | .tup ds, 0, h => by cases h
  | .lst ds, 0, h => by cases h
  | .tup ds, n + 1, h => by unfold eqD; unfold shp at h; exact eqDs_self ds n h
  | .lst ds, n + 1, h => by unfold eqD; unfold shp at h; exact eqDs_self ds n h
  | .ty _, n, h => by cases n <;> cases h
  | .raw _, n, h => by cases n <;> cases h
  | .ins _ _, n, h => by cases n <;> cases h
  | .dk _, n, h => by cases n <;> cases h
theorem eqDs_self : ∀ (ds : List D) (n : Nat), shps n ds = true → eqDs ds ds = true
  | [], _, _ => by unfold eqDs; rfl
  | d :: ds, n, h => by
    unfold shps at h
    obtain ⟨h1, h2⟩ := Bool.and_eq_true_iff.mp h
    unfold eqDs
    rw [eqD_self d n h1, eqDs_self ds n h2]; rfl
end
theorem x_neRefl {w : D} {S : Sto} {Q : DV} (hz : frz S w = w) (h : shp 60 w = true) (q : Q (.bl false) S) : rNe' w w S Q := by
  refine ⟨by rw [hz]; exact h, by rw [hz]; exact h, ?_⟩
  rw [hz, eqD_self w 60 h]
  exact q
theorem x_eqRefl {w : D} {S : Sto} {Q : DV} (hz : frz S w = w) (h : shp 60 w = true) (q : Q (.bl true) S) : rEq' w w S Q := by
  refine ⟨by rw [hz]; exact h, by rw [hz]; exact h, ?_⟩
  rw [hz, eqD_self w 60 h]
  exact q
end DL
end

section
set_option linter.all false
set_option autoImplicit false
/-! BF: plain laws: a walk that comes to an end does so within as many steps as there are places; passes of raising numbers. -/
namespace DL
theorem php : ∀ (n : Nat) (f : Nat → Nat), (∀ i, i ≤ n → f i < n) → ∃ i j, i < j ∧ j ≤ n ∧ f i = f j
  | 0, f, h => absurd (h 0 (Nat.le_refl _)) (Nat.not_lt_zero _)
  | n + 1, f, h => by
    by_cases hx : ∃ i, i ≤ n ∧ f i = f (n + 1)
    · obtain ⟨i, hi, e⟩ := hx
      exact ⟨i, n + 1, by omega, by omega, e⟩
    · have hne : ∀ i, i ≤ n → f i ≠ f (n + 1) := fun i hi e => hx ⟨i, hi, e⟩
      obtain ⟨i, j, h1, h2, h3⟩ := php n (fun i => if f i > f (n + 1) then f i - 1 else f i) fun i hi => by
        have a := h i (by omega)
        have b := hne i hi
        have c := h (n + 1) (Nat.le_refl _)
        split <;> omega
      have b1 := hne i (by omega)
      have b2 := hne j h2
      refine ⟨i, j, h1, by omega, ?_⟩
      split at h3 <;> split at h3 <;> omega
/-- k steps from v -/
def itn (nx : Int → Option Int) : Nat → Int → Option Int
  | 0, v => some v
  | k + 1, v => (itn nx k v).bind nx
theorem itn_add {nx : Int → Option Int} {v : Int} (a : Nat) : ∀ b : Nat, itn nx (a + b) v = (itn nx a v).bind (itn nx b)
  | 0 => by cases h : itn nx a v <;> simp [itn, h]
  | b + 1 => by
    show (itn nx (a + b) v).bind nx = _
    rw [itn_add a b]
    cases itn nx a v <;> rfl
theorem itn_in {nx : Int → Option Int} {n : Nat} (hr : ∀ v u : Int, 0 ≤ v → v < n → nx v = some u → 0 ≤ u ∧ u < n) {v : Int} (h0 : 0 ≤ v) (h1 : v < n) : ∀ (k : Nat) (u : Int), itn nx k v = some u → 0 ≤ u ∧ u < n
  | 0, u, h => by cases h; exact ⟨h0, h1⟩
  | k + 1, u, h => by
    obtain ⟨x, hx, h⟩ := Option.bind_eq_some_iff.mp h
    obtain ⟨a, b⟩ := itn_in hr h0 h1 k x hx
    exact hr x u a b h
theorem itn_none {nx : Int → Option Int} {v : Int} {k j : Nat} (h : itn nx k v = none) (hj : k ≤ j) : itn nx j v = none := by
  obtain ⟨d, rfl⟩ := Nat.exists_eq_add_of_le hj
  rw [itn_add, h]; rfl
/-- n steps taken among n places: it goes on for ever -/
theorem itn_ever {nx : Int → Option Int} {n : Nat} (hr : ∀ v u : Int, 0 ≤ v → v < n → nx v = some u → 0 ≤ u ∧ u < n) {v : Int} (h0 : 0 ≤ v) (h1 : v < n) (h : itn nx n v ≠ none) : ∀ k, itn nx k v ≠ none := by
  have ok : ∀ i, i ≤ n → ∃ u, itn nx i v = some u := fun i hi => by
    cases e : itn nx i v with
    | none => exact absurd (itn_none e hi) h
    | some u => exact ⟨u, rfl⟩
  obtain ⟨i, j, hij, hj, e⟩ := php n (fun i => ((itn nx i v).getD 0).toNat) fun i hi => by
    obtain ⟨u, hu⟩ := ok i hi
    have := itn_in hr h0 h1 i u hu
    simp only [hu, Option.getD_some]
    omega
  obtain ⟨u, hu⟩ := ok i (by omega)
  obtain ⟨w, hw⟩ := ok j hj
  have a := itn_in hr h0 h1 i u hu
  have b := itn_in hr h0 h1 j w hw
  simp only [hu, hw, Option.getD_some] at e
  have e : u = w := by omega
  subst e
  obtain ⟨d, rfl⟩ := Nat.exists_eq_add_of_le (Nat.le_of_lt hij)
  have hd : 0 < d := by omega
  have per : itn nx d u = some u := by rw [itn_add, hu] at hw; exact hw
  have all : ∀ m, itn nx (d * m) u = some u := fun m => by
    induction m with
    | zero => rfl
    | succ m ih => rw [Nat.mul_succ, itn_add, ih]; exact per
  intro k hk
  have hbig : itn nx (i + d * (k + 1)) v = some u := by rw [itn_add, hu]; exact all (k + 1)
  have : k ≤ i + d * (k + 1) := by
    have : k + 1 ≤ d * (k + 1) := Nat.le_mul_of_pos_left _ hd
    omega
  rw [itn_none hk this] at hbig
  cases hbig

/-! ### rows (place, start, by) -/
abbrev Row := Int × Option Int × Int
/-- a chain from a root to v, of at most k steps, of the weight x -/
inductive Ch (rows : List Row) : Nat → Int → Int → Prop
  | root {k : Nat} {v b : Int} : (v, none, b) ∈ rows → Ch rows k v b
  | step {k : Nat} {v u x b : Int} : Ch rows k u x → (v, some u, b) ∈ rows → Ch rows (k + 1) v (x + b)
theorem Ch.mono {rows : List Row} {k j : Nat} {v x : Int} (h : Ch rows k v x) (hj : k ≤ j) : Ch rows j v x := by
  induction h generalizing j with
  | root m => exact .root m
  | step _ m ih =>
    obtain ⟨j, rfl⟩ : ∃ i, j = i + 1 := ⟨j - 1, by omega⟩
    exact .step (ih (by omega)) m
/-- what a row asks of its place -/
def askR (nu : Int → Int) (r : Row) : Int := match r.2.1 with
  | none => r.2.2
  | some u => nu u + r.2.2
/-- each place's reason is a row of its own that asks no less than the place's number -/
structure RInv (rows : List Row) (n : Nat) (nu : Int → Int) (rho : Int → Row) : Prop where
  row : ∀ v : Int, 0 ≤ v → v < n → rho v ∈ rows ∧ (rho v).1 = v
  le : ∀ v : Int, 0 ≤ v → v < n → nu v ≤ askR nu (rho v)
def nxt (rho : Int → Row) (v : Int) : Option Int := (rho v).2.1
/-- a walk by the reasons that ends at a root: a chain that weighs at least the number -/
theorem RInv.chain {rows : List Row} {n : Nat} {nu : Int → Int} {rho : Int → Row} (I : RInv rows n nu rho) (hs : ∀ r ∈ rows, ∀ u, r.2.1 = some u → 0 ≤ u ∧ u < n) : ∀ (k : Nat) (v : Int), 0 ≤ v → v < n → itn (nxt rho) (k + 1) v = none → ∃ x, Ch rows k v x ∧ nu v ≤ x := by
  intro k
  induction k with
  | zero =>
    intro v h0 h1 h
    have h : (rho v).2.1 = none := h
    obtain ⟨hm, hp⟩ := I.row v h0 h1
    have hl := I.le v h0 h1
    obtain ⟨r, hr⟩ : ∃ r, rho v = r := ⟨_, rfl⟩
    rw [hr] at h hm hp hl
    obtain ⟨a, b, c⟩ := r
    simp only at h hp
    subst h hp
    exact ⟨c, .root hm, hl⟩
  | succ k ih =>
    intro v h0 h1 h
    obtain ⟨hm, hp⟩ := I.row v h0 h1
    have hl := I.le v h0 h1
    obtain ⟨r, hr⟩ : ∃ r, rho v = r := ⟨_, rfl⟩
    have hn : nxt rho v = r.2.1 := by unfold nxt; rw [hr]
    rw [hr] at hm hp hl
    obtain ⟨a, b, c⟩ := r
    simp only at hp hn
    subst hp
    cases b with
    | none => exact ⟨c, .root hm, hl⟩
    | some u =>
      obtain ⟨u0, u1⟩ := hs _ hm u rfl
      have h2 : itn (nxt rho) (1 + (k + 1)) a = none := by rw [Nat.add_comm]; exact h
      rw [itn_add] at h2
      have h3 : itn (nxt rho) 1 a = some u := by show (some a).bind (nxt rho) = _; exact hn
      rw [h3] at h2
      obtain ⟨x, hx, hle⟩ := ih u u0 u1 h2
      refine ⟨x + c, .step hx hm, ?_⟩
      have : askR nu (a, some u, c) = nu u + c := rfl
      rw [this] at hl
      omega
/-- a number raised beyond all chains of less than n steps: the walk by the reasons never ends -/
theorem RInv.ring {rows : List Row} {n : Nat} {nu : Int → Int} {rho : Int → Row} (I : RInv rows n nu rho) (hs : ∀ r ∈ rows, ∀ u, r.2.1 = some u → 0 ≤ u ∧ u < n) {v : Int} (h0 : 0 ≤ v) (h1 : v < n) (hbig : ∀ x, Ch rows (n - 1) v x → x < nu v) : ∀ k, itn (nxt rho) k v ≠ none := by
  have hr : ∀ v u : Int, 0 ≤ v → v < n → nxt rho v = some u → 0 ≤ u ∧ u < n := fun v u a b e => hs _ (I.row v a b).1 u e
  refine itn_ever hr h0 h1 fun h => ?_
  obtain ⟨m, rfl⟩ : ∃ m, n = m + 1 := ⟨n - 1, by omega⟩
  obtain ⟨x, hx, hle⟩ := I.chain hs m v h0 h1 h
  have := hbig x hx
  omega
end DL
end

section
set_option linter.all false
set_option autoImplicit false
/-! BF2: a pass of raising. -/
namespace DL
def updF (nu : Int → Int) (p a : Int) : Int → Int := fun v => if v = p then a else nu v
def updR (rho : Int → Row) (p : Int) (r : Row) : Int → Row := fun v => if v = p then r else rho v
theorem askR_mono {nu mu : Int → Int} (h : ∀ v, nu v ≤ mu v) (r : Row) : askR nu r ≤ askR mu r := by
  obtain ⟨p, s, b⟩ := r
  cases s with
  | none => exact Int.le_refl _
  | some u => show nu u + b ≤ mu u + b; have := h u; omega
/-- within the pass t, the rows `done` behind us -/
structure PInv (rows done : List Row) (n t : Nat) (nu : Int → Int) (rho : Int → Row) : Prop where
  r : RInv rows n nu rho
  ch : ∀ v x, Ch rows t v x → x ≤ nu v
  dn : ∀ v u b x, (v, some u, b) ∈ done → Ch rows t u x → x + b ≤ nu v
theorem PInv.skip {rows done : List Row} {n t : Nat} {nu : Int → Int} {rho : Int → Row} {p b : Int} {s : Option Int} (I : PInv rows done n t nu rho) (h : askR nu (p, s, b) ≤ nu p) : PInv rows (done ++ [(p, s, b)]) n t nu rho :=
  ⟨I.r, I.ch, fun v u c x hm hx => by
    rcases List.mem_append.mp hm with hm | hm
    · exact I.dn v u c x hm hx
    · rw [List.mem_singleton] at hm
      cases hm
      have h : nu u + b ≤ nu p := h
      have := I.ch u x hx
      omega⟩
theorem PInv.raise {rows done : List Row} {n t : Nat} {nu : Int → Int} {rho : Int → Row} {p b : Int} {s : Option Int} (I : PInv rows done n t nu rho) (hm : (p, s, b) ∈ rows) (h : nu p < askR nu (p, s, b)) :
    PInv rows (done ++ [(p, s, b)]) n t (updF nu p (askR nu (p, s, b))) (updR rho p (p, s, b)) := by
  have up : ∀ v, nu v ≤ updF nu p (askR nu (p, s, b)) v := fun v => by
    unfold updF
    split
    · rename_i e; rw [e]; omega
    · exact Int.le_refl _
  refine ⟨⟨fun v v0 v1 => ?_, fun v v0 v1 => ?_⟩, fun v x hx => Int.le_trans (I.ch v x hx) (up v), fun v u c x hd hx => ?_⟩
  · unfold updR
    split
    · rename_i e; exact ⟨hm, e.symm⟩
    · exact I.r.row v v0 v1
  · by_cases e : v = p
    · have e1 : updF nu p (askR nu (p, s, b)) v = askR nu (p, s, b) := if_pos e
      have e2 : updR rho p (p, s, b) v = (p, s, b) := if_pos e
      rw [e1, e2]
      exact askR_mono up _
    · have e1 : updF nu p (askR nu (p, s, b)) v = nu v := if_neg e
      have e2 : updR rho p (p, s, b) v = rho v := if_neg e
      rw [e1, e2]
      exact Int.le_trans (I.r.le v v0 v1) (askR_mono up _)
  · rcases List.mem_append.mp hd with hd | hd
    · exact Int.le_trans (I.dn v u c x hd hx) (up v)
    · rw [List.mem_singleton] at hd
      cases hd
      have e1 : updF nu p (askR nu (p, some u, b)) p = askR nu (p, some u, b) := if_pos rfl
      rw [e1]
      show x + b ≤ nu u + b
      have := I.ch u x hx
      omega
theorem PInv.next {rows : List Row} {n t : Nat} {nu : Int → Int} {rho : Int → Row} (I : PInv rows rows n t nu rho) : PInv rows [] n (t + 1) nu rho :=
  ⟨I.r, fun v x hx => by
    cases hx with
    | root m => exact I.ch v x (.root m)
    | step h m => exact I.dn _ _ _ _ m h, fun _ _ _ _ h => absurd h (by simp)⟩
/-- a raise at the last pass -/
theorem PInv.last {rows done : List Row} {n t : Nat} {nu : Int → Int} {rho : Int → Row} {p b : Int} {s : Option Int} (I : PInv rows done n t nu rho) (hs : ∀ r ∈ rows, ∀ u, r.2.1 = some u → 0 ≤ u ∧ u < n) (ht : t = n - 1) (p0 : 0 ≤ p) (p1 : p < n) (hm : (p, s, b) ∈ rows) (h : nu p < askR nu (p, s, b)) :
    ∀ k, itn (nxt (updR rho p (p, s, b))) k p ≠ none := by
  have J := I.raise hm h
  refine J.r.ring hs p0 p1 fun x hx => ?_
  have e1 : updF nu p (askR nu (p, s, b)) p = askR nu (p, s, b) := if_pos rfl
  rw [e1]
  subst ht
  exact Int.lt_of_le_of_lt (I.ch p x hx) h
end DL
end

section
set_option linter.all false
set_option autoImplicit false
/-! BG: why a ring of reasons weighs above 0, and why there is none at the end. -/
namespace DL
def updT (tau : Int → Nat) (p : Int) (T : Nat) : Int → Nat := fun v => if v = p then T else tau v
/-- tau: when a place was raised last -/
structure TInv (n : Nat) (nu : Int → Int) (rho : Int → Row) (tau : Int → Nat) (T : Nat) : Prop where
  le : ∀ v : Int, tau v ≤ T
  dn : ∀ v : Int, 0 ≤ v → v < n → ∀ u, (rho v).2.1 = some u → nu v = nu u + (rho v).2.2 → tau u < tau v
theorem TInv.raise {rows : List Row} {n : Nat} {nu : Int → Int} {rho : Int → Row} {tau : Int → Nat} {T : Nat} {p b : Int} {s : Option Int} (I : TInv n nu rho tau T) (R : RInv rows n nu rho) (h : nu p < askR nu (p, s, b)) :
    TInv n (updF nu p (askR nu (p, s, b))) (updR rho p (p, s, b)) (updT tau p (T + 1)) (T + 1) := by
  refine ⟨fun v => ?_, fun v v0 v1 u hu he => ?_⟩
  · unfold updT
    split
    · exact Nat.le_refl _
    · have := I.le v; omega
  · by_cases hv : v = p
    · subst hv
      have e1 : updR rho v (v, s, b) v = (v, s, b) := if_pos rfl
      rw [e1] at hu he
      simp only at hu he
      subst hu
      have e2 : updF nu v (askR nu (v, some u, b)) v = nu u + b := if_pos rfl
      rw [e2] at he
      have h : nu v < nu u + b := h
      have e3 : updT tau v (T + 1) v = T + 1 := if_pos rfl
      rw [e3]
      by_cases huv : u = v
      · subst huv
        rw [e2] at he
        omega
      · have e4 : updT tau v (T + 1) u = tau u := if_neg huv
        rw [e4]
        have := I.le u; omega
    · have e1 : updR rho p (p, s, b) v = rho v := if_neg hv
      rw [e1] at hu he
      have e2 : updF nu p (askR nu (p, s, b)) v = nu v := if_neg hv
      rw [e2] at he
      have e3 : updT tau p (T + 1) v = tau v := if_neg hv
      rw [e3]
      have hle := R.le v v0 v1
      have ha : askR nu (rho v) = nu u + (rho v).2.2 := by unfold askR; rw [hu]
      rw [ha] at hle
      by_cases hup : u = p
      · subst hup
        have e4 : updF nu u (askR nu (u, s, b)) u = askR nu (u, s, b) := if_pos rfl
        rw [e4] at he
        omega
      · have e4 : updF nu p (askR nu (p, s, b)) u = nu u := if_neg hup
        rw [e4] at he
        have e5 : updT tau p (T + 1) u = tau u := if_neg hup
        rw [e5]
        exact I.dn v v0 v1 u hu he
/-- what the rows of k steps add up to -/
def wt (rho : Int → Row) (v : Int) : Nat → Int
  | 0 => 0
  | k + 1 => wt rho v k + (match itn (nxt rho) k v with
    | some w => (rho w).2.2
    | none => 0)
theorem TInv.walk {rows : List Row} {n : Nat} {nu : Int → Int} {rho : Int → Row} {tau : Int → Nat} {T : Nat} (I : TInv n nu rho tau T) (R : RInv rows n nu rho) (hr : ∀ v u : Int, 0 ≤ v → v < n → nxt rho v = some u → 0 ≤ u ∧ u < n) {v : Int} (v0 : 0 ≤ v) (v1 : v < n) :
    ∀ (k : Nat) (u : Int), itn (nxt rho) k v = some u → nu v ≤ nu u + wt rho v k ∧ (nu v = nu u + wt rho v k → tau u + k ≤ tau v)
  | 0, u, h => by cases h; exact ⟨by show nu v ≤ nu v + 0; omega, fun _ => Nat.le_refl _⟩
  | k + 1, u, h => by
    obtain ⟨w, hw, hu⟩ := Option.bind_eq_some_iff.mp h
    obtain ⟨w0, w1⟩ := itn_in hr v0 v1 k w hw
    obtain ⟨a, b⟩ := I.walk R hr v0 v1 k w hw
    have hu : (rho w).2.1 = some u := hu
    have hle := R.le w w0 w1
    have ha : askR nu (rho w) = nu u + (rho w).2.2 := by unfold askR; rw [hu]
    rw [ha] at hle
    have e : wt rho v (k + 1) = wt rho v k + (rho w).2.2 := by
      show wt rho v k + _ = _
      rw [hw]
    rw [e]
    refine ⟨by omega, fun z => ?_⟩
    have h1 := b (by omega)
    have h2 := I.dn w w0 w1 u hu (by omega)
    omega
/-- a ring of reasons weighs above 0 -/
theorem TInv.ring {rows : List Row} {n : Nat} {nu : Int → Int} {rho : Int → Row} {tau : Int → Nat} {T : Nat} (I : TInv n nu rho tau T) (R : RInv rows n nu rho) (hr : ∀ v u : Int, 0 ≤ v → v < n → nxt rho v = some u → 0 ≤ u ∧ u < n) {v : Int} (v0 : 0 ≤ v) (v1 : v < n) {k : Nat} (hk : 1 ≤ k) (h : itn (nxt rho) k v = some v) : 0 < wt rho v k := by
  obtain ⟨a, b⟩ := I.walk R hr v0 v1 k v h
  by_cases z : wt rho v k = 0
  · have := b (by omega)
    omega
  · omega
/-- where each number is just what its reason asks, the reasons lead to roots -/
theorem TInv.ends {rows : List Row} {n : Nat} {nu : Int → Int} {rho : Int → Row} {tau : Int → Nat} {T : Nat} (I : TInv n nu rho tau T) (R : RInv rows n nu rho) (hr : ∀ v u : Int, 0 ≤ v → v < n → nxt rho v = some u → 0 ≤ u ∧ u < n) (heq : ∀ v : Int, 0 ≤ v → v < n → nu v = askR nu (rho v)) {v : Int} (v0 : 0 ≤ v) (v1 : v < n) : itn (nxt rho) n v = none := by
  have acc : ∀ (k : Nat) (u : Int), itn (nxt rho) k v = some u → nu v = nu u + wt rho v k := by
    intro k
    induction k with
    | zero => intro u h; cases h; show nu v = nu v + 0; omega
    | succ k ih =>
      intro u h
      obtain ⟨w, hw, hu⟩ := Option.bind_eq_some_iff.mp h
      obtain ⟨w0, w1⟩ := itn_in hr v0 v1 k w hw
      have hu : (rho w).2.1 = some u := hu
      have h1 := ih w hw
      have h2 := heq w w0 w1
      have ha : askR nu (rho w) = nu u + (rho w).2.2 := by unfold askR; rw [hu]
      have e : wt rho v (k + 1) = wt rho v k + (rho w).2.2 := by
        show wt rho v k + _ = _
        rw [hw]
      rw [e]; omega
  refine Classical.byContradiction fun z => ?_
  have hev := itn_ever hr v0 v1 z (tau v + 1)
  cases hc : itn (nxt rho) (tau v + 1) v with
  | none => exact hev hc
  | some u =>
    have := (I.walk R hr v0 v1 _ u hc).2 (acc _ u hc)
    omega
/-- a walk that never ends comes back to where it stands after n steps, within n steps -/
theorem itn_back {nx : Int → Option Int} {n : Nat} (hr : ∀ v u : Int, 0 ≤ v → v < n → nx v = some u → 0 ≤ u ∧ u < n) {v : Int} (h0 : 0 ≤ v) (h1 : v < n) (h : ∀ k, itn nx k v ≠ none) {w : Int} (hw : itn nx n v = some w) : ∃ d, 1 ≤ d ∧ d ≤ n ∧ itn nx d w = some w := by
  have ok : ∀ i, ∃ u, itn nx i v = some u := fun i => by
    cases e : itn nx i v with
    | none => exact absurd e (h i)
    | some u => exact ⟨u, rfl⟩
  obtain ⟨i, j, hij, hj, e⟩ := php n (fun i => ((itn nx i v).getD 0).toNat) fun i hi => by
    obtain ⟨u, hu⟩ := ok i
    have := itn_in hr h0 h1 i u hu
    simp only [hu, Option.getD_some]
    omega
  obtain ⟨u, hu⟩ := ok i
  obtain ⟨x, hx⟩ := ok j
  have a := itn_in hr h0 h1 i u hu
  have b := itn_in hr h0 h1 j x hx
  simp only [hu, hx, Option.getD_some] at e
  have e : u = x := by omega
  subst e
  refine ⟨j - i, by omega, by omega, ?_⟩
  have e1 : itn nx (j + (n - i)) v = itn nx (i + (n - i)) v := by rw [itn_add, itn_add, hu, hx]
  rw [show i + (n - i) = n by omega, hw, show j + (n - i) = n + (j - i) by omega, itn_add, hw] at e1
  exact e1
end DL
end

section
set_option Elab.async false
set_option linter.all false
set_option autoImplicit false
set_option maxRecDepth 100000
set_option maxHeartbeats 2000000
/-! What each def does, as data. -/
namespace DL
open PySem PySem.Spec PyProof.Rows L2

def wholeD (lo hi : Int) : D → Bool
  | .int i => decide (lo ≤ i) && decide (i ≤ hi)
  | _ => false
def F_is_whole (_ : PySem.W.Frag) (_ : Str → Addr) : DF := fun ds S Q _ => ∃ d lo hi, ds = [d, .int lo, .int hi] ∧ (tyD S d).isSome = true ∧ Q (.bl (wholeD lo hi d)) S
def rowD (lo hi : Int) : Option (List D) → Bool
  | some es => decide (lo ≤ es.length) && decide ((es.length : Int) ≤ hi)
  | none => false
def F_is_row (_ : PySem.W.Frag) (_ : Str → Addr) : DF := fun ds S Q _ => ∃ d lo hi, ds = [d, .int lo, .int hi] ∧ (tyD S d).isSome = true ∧ Q (.bl (rowD lo hi (asQ S d))) S
/-- the hand: its cells, the place in them, the rest, the total -/
def handP : Pr := ⟨fun Z u => ∃ (ca : Addr) (cs : List Int) (i r t : Int), u = .lst [.ref ca, .int i, .int r, .int t] ∧ Z ca = some (.lst (cs.map V.int)) ∧ (∀ c ∈ cs, 0 ≤ c) ∧ 0 ≤ i ∧ 0 ≤ r ∧ 0 ≤ t,
  fun Z Z' u s ⟨ca, cs, i, r, t, h1, h2, h3⟩ => ⟨ca, cs, i, r, t, h1, s _ _ h2, h3⟩⟩
def Hand (S : Sto) (h : Addr) : Prop := S h = some (.abs handP)
def F_law_mixed (_ : PySem.W.Frag) (_ : Str → Addr) : DF := fun ds S Q _ => ∃ n t, ds = [.int n, .int t] ∧ 0 ≤ n ∧ 0 ≤ t ∧ ∀ r, 0 ≤ r → Q (.int r) S
def F_law_take (_ : PySem.W.Frag) (_ : Str → Addr) : DF := fun ds S Q _ => ∃ h n, ds = [.raw h, .int n] ∧ Hand S h ∧ 0 < n ∧ n < 18446744073709551616 ∧ ∀ r, 0 ≤ r → r < n → Q (.int r) S
def F_law_hand (K : PySem.W.Frag) (_ : Str → Addr) : DF := fun ds S Q _ => ∃ (a : Addr) (cs : List Int), ds = [.raw a] ∧ IsScr K S a cs ∧ cs.length < 16777216 ∧ ∀ h, S h = none → Q (.raw h) (updS S h (.abs handP))

abbrev intL (xs : List Int) : List D := xs.map D.int
abbrev tupI (xs : List Int) : D := .tup (xs.map D.int)
/-- what was known of the store is still so -/
def Fr (S S' : Sto) : Prop := ∀ x o, S x = some o → S' x = some o
/-! rows -/
def optD : Option Int → D
  | none => .non
  | some u => .int u
def rowDt (r : Row) : D := .tup [.int r.1, optD r.2.1, .int r.2.2]
abbrev rowsD (rs : List Row) : List D := rs.map rowDt
structure VRow (n : Int) (r : Row) : Prop where
  p0 : 0 ≤ r.1
  p1 : r.1 < n
  s : ∀ u, r.2.1 = some u → 0 ≤ u ∧ u < n
  b0 : -1000000000000 ≤ r.2.2
  b1 : r.2.2 ≤ 1000000000000
structure VSys (n : Int) (rs : List Row) : Prop where
  n0 : 1 ≤ n
  n1 : n ≤ 60
  len : rs.length ≤ 400
  row : ∀ r ∈ rs, VRow n r
  root : ∀ v : Int, 0 ≤ v → v < n → ∃ b, (v, none, b) ∈ rs
/-! what is refused -/
/-- the first place in a list where p holds -/
def firstN {α : Type} (p : α → Bool) : Nat → List α → Option Nat
  | _, [] => none
  | k, x :: xs => if p x = true then some k else firstN p (k + 1) xs
def seqD : D → Option (List D)
  | .tup es => some es
  | .lst es => some es
  | _ => none
/-- a frozen thing that may stand for a row -/
structure RunD (r : D) : Prop where
  ty : ∀ S, (tyD S r).isSome = true
  sq : ∀ S, asQ S r = seqD r
  els : ∀ es, seqD r = some es → ∀ d ∈ es, ∀ S, (tyD S d).isSome = true
/-- what may stand for demands -/
structure DemD (gd : D) : Prop where
  r : RunD gd
  els : ∀ es, seqD gd = some es → ∀ d ∈ es, RunD d
def asI : D → Int
  | .int i => i
  | _ => 0
def rowG (n : Int) (d : D) : Option Row := match seqD d with
  | some [a, b, c] => if (wholeD 0 (n - 1) a && (isNon b || wholeD 0 (n - 1) b) && wholeD (-1000000000000) 1000000000000 c) = true then some (asI a, (if isNon b = true then none else some (asI b)), asI c) else none
  | _ => none
def listG (gd : D) : List D := (seqD gd).getD []
def rowsG (c gd : D) : List Row := (listG gd).map fun d => (rowG (asI c) d).getD (0, none, 0)
def rooted (rs : List Row) (v : Int) : Bool := rs.any fun r => decide (r.1 = v) && r.2.1.isNone
/-- why a system is refused -/
def dueD (c gd : D) : Option (Str × Int) :=
  if wholeD 1 60 c = false then some ("count", 0) else
  if rowD 0 400 (seqD gd) = false then some ("many", 0) else
  match firstN (fun d => (rowG (asI c) d).isNone) 0 (listG gd) with
  | some k => some ("demand", (k : Int))
  | none => match firstN (fun v : Nat => !rooted (rowsG c gd) v) 0 (List.range (asI c).toNat) with
    | some k => some ("root", (k : Int))
    | none => none
/-- a system as it comes: refused, or let by -/
structure DueP (g : Str → Addr) (c gd : D) (S : Sto) (E : DX) (q : Int → List Row → Prop) : Prop where
  ct : ∀ S, (tyD S c).isSome = true
  gt : DemD gd
  h : match dueD c gd with
    | some w => ∀ S', Fr S S' → E (g "BadDemands") [("index", .int w.2), ("what", .str w.1)] S'
    | none => q (asI c) (rowsG c gd)
def F_is_demand (_ : PySem.W.Frag) (_ : Str → Addr) : DF := fun ds S Q _ => ∃ n d, ds = [.int n, d] ∧ RunD d ∧ Q (.bl (rowG n d).isSome) S
def F_check_demands (_ : PySem.W.Frag) (g : Str → Addr) : DF := fun ds S Q E => ∃ c gd, ds = [c, gd] ∧ DueP g c gd S E fun _ rs => Q (.tup (rowsD rs)) S
def numAt (nu : List Int) (v : Int) : Int := nu.getD v.toNat 0
def F_asked_number (_ : PySem.W.Frag) (_ : Str → Addr) : DF := fun ds S Q _ => ∃ (d : D) (nu : List Int) (r : Row), ds = [d, rowDt r] ∧ asQ S d = some (intL nu) ∧ (∀ u, r.2.1 = some u → 0 ≤ u ∧ u < nu.length) ∧ Q (.int (askR (numAt nu) r)) S
/-- an index of a greatest root row for each place -/
structure GRoots (n : Int) (rs : List Row) (rho : List Int) : Prop where
  len : (rho.length : Int) = n
  at_ : ∀ v : Int, 0 ≤ v → v < n → 0 ≤ numAt rho v ∧ numAt rho v < rs.length ∧ ∃ b, rs[(numAt rho v).toNat]? = some (v, none, b) ∧ ∀ c, (v, none, c) ∈ rs → c ≤ b
def F_greatest_roots (_ : PySem.W.Frag) (_ : Str → Addr) : DF := fun ds S Q _ => ∃ n rs, ds = [.int n, .tup (rowsD rs)] ∧ VSys n rs ∧ ∀ a rho, S a = none → GRoots n rs rho → Q (.raw a) (updS S a (.lst (intL rho)))
/-- the row that the reason of v is -/
def rhoR (rs : List Row) (rho : List Int) (v : Int) : Row := rs.getD (numAt rho v).toNat (0, none, 0)
def F_ring_behind (_ : PySem.W.Frag) (_ : Str → Addr) : DF := fun ds S Q _ => ∃ (n : Int) (rs : List Row) (a : Addr) (rho : List Int) (v : Int), ds = [.int n, .tup (rowsD rs), .raw a, .int v] ∧ VSys n rs ∧ S a = some (.lst (intL rho)) ∧ (rho.length : Int) = n ∧ 0 ≤ v ∧ v < n ∧
  (∀ u : Int, 0 ≤ u → u < n → 0 ≤ numAt rho u ∧ numAt rho u < rs.length) ∧ (∀ k, itn (nxt (rhoR rs rho)) k v ≠ none) ∧
  ∀ (ws : Nat → Int) (d : Nat), 1 ≤ d → d ≤ 60 → (∀ i, i ≤ d → itn (nxt (rhoR rs rho)) i (ws 0) = some (ws i) ∧ 0 ≤ ws i ∧ ws i < n) → ws d = ws 0 → Q (tupI ((List.range d).map fun i => numAt rho (ws i)).reverse) S
abbrev leastD (g : Str → Addr) (nu rho : D) : D := .ins (g "Least") [("numbers", nu), ("reasons", rho)]
abbrev ringD (g : Str → Addr) (is : D) : D := .ins (g "DemandRing") [("indexes", is)]
def F_Least__init (_ : PySem.W.Frag) (g : Str → Addr) : DF := fun ds S Q _ => ∃ x nu rho, ds = [.raw x, nu, rho] ∧ S x = some (.ins (g "Least") []) ∧ Q .non (updS S x (.ins (g "Least") [("numbers", nu), ("reasons", rho)]))
def F_DemandRing__init (_ : PySem.W.Frag) (g : Str → Addr) : DF := fun ds S Q _ => ∃ x is, ds = [.raw x, is] ∧ S x = some (.ins (g "DemandRing") []) ∧ Q .non (updS S x (.ins (g "DemandRing") [("indexes", is)]))
structure OddD (n : Int) (d : D) : Prop where
  w : wholeD 0 (n - 1) d = false
  ty : ∀ S, (tyD S d).isSome = true
  sh : shp 59 d = true
def F_law_odd (_ : PySem.W.Frag) (_ : Str → Addr) : DF := fun ds S Q _ => ∃ (h : Addr) (n : Int), ds = [.raw h, .int n] ∧ Hand S h ∧ 0 ≤ n ∧ n ≤ 400 ∧ ∀ d, OddD n d → Q d S
def isI : D → Bool
  | .int _ => true
  | _ => false
def nrowD (m : Int) : D → Bool
  | .tup es => decide ((es.length : Int) = m) && es.all isI
  | _ => false
def intsD : D → List Int
  | .tup es => es.map asI
  | _ => []
structure PlainI (e : D) : Prop where
  ty : ∀ S, (tyD S e).isSome = true
  sh : shp 59 e = true
def Plain (d : D) : Prop := (∃ es, d = .lst es) ∨ (∃ es, d = .tup es ∧ es.length ≤ 200 ∧ ∀ e ∈ es, PlainI e)
def F_is_number_row (_ : PySem.W.Frag) (_ : Str → Addr) : DF := fun ds S Q _ => ∃ d m, ds = [d, .int m] ∧ Plain d ∧ Q (.bl (nrowD m d)) S
def F_law_row_of (_ : PySem.W.Frag) (_ : Str → Addr) : DF := fun ds S Q _ => ∃ d m, ds = [d, .int m] ∧ Plain d ∧ Q (.bl (nrowD m d)) S
open Classical in
/-- the first word that applies to what is told as least numbers -/
noncomputable def leastW (n : Int) (rs : List Row) (dn dr : D) : D :=
  if nrowD n dn = false then .str "numbers" else
  if nrowD n dr = false then .str "reason" else
  if ∃ v : Nat, (v : Int) < n ∧ ¬ (0 ≤ numAt (intsD dr) v ∧ numAt (intsD dr) v < rs.length ∧ (rhoR rs (intsD dr) v).1 = v) then .str "reason" else
  if ∃ r ∈ rs, numAt (intsD dn) r.1 < askR (numAt (intsD dn)) r then .str "demand" else
  if ∃ v : Nat, (v : Int) < n ∧ numAt (intsD dn) v ≠ askR (numAt (intsD dn)) (rhoR rs (intsD dr) v) then .str "met" else
  if ∃ v : Nat, (v : Int) < n ∧ itn (nxt (rhoR rs (intsD dr))) n.toNat v ≠ none then .str "ring" else .non
def rowAt (rs : List Row) (i : Int) : Row := rs.getD i.toNat (0, none, 0)
open Classical in
/-- the first word that applies to what is told as a ring -/
noncomputable def ringW (rs : List Row) (d : D) : D :=
  if nrowD (intsD d).length d = false ∨ intsD d = [] then .str "index" else
  if ∃ i ∈ intsD d, ¬ (0 ≤ i ∧ i < rs.length ∧ (rowAt rs i).2.1 ≠ none) then .str "index" else
  if ∃ k : Nat, k < (intsD d).length ∧ (rowAt rs (numAt (intsD d) k)).2.1 ≠ some (rowAt rs (numAt (intsD d) (if k = 0 then ((intsD d).length : Int) - 1 else (k : Int) - 1))).1 then .str "closed" else
  if ((intsD d).map fun i => (rowAt rs i).2.2).sum ≤ 0 then .str "sum" else .non
/-! raising and lowering, pass by pass -/
def upStep (nu : List Int) (r : Row) : List Int := if numAt nu r.1 < askR (numAt nu) r then nu.set r.1.toNat (askR (numAt nu) r) else nu
def upRows (l : List Row) (nu : List Int) : List Int := l.foldl upStep nu
def upIter (rs : List Row) : Nat → List Int → List Int
  | 0, nu => nu
  | t + 1, nu => upRows rs (upIter rs t nu)
/-- each place's greatest root -/
structure IsStart (n : Int) (rs : List Row) (nu : List Int) : Prop where
  len : (nu.length : Int) = n
  at_ : ∀ v : Int, 0 ≤ v → v < n → (v, none, numAt nu v) ∈ rs ∧ ∀ b, (v, none, b) ∈ rs → b ≤ numAt nu v
def lowStep (xs : List Int) (r : Row) : List Int := match r.2.1 with
  | none => xs
  | some u => if numAt xs r.1 - r.2.2 < numAt xs u then xs.set u.toNat (numAt xs r.1 - r.2.2) else xs
def lowRows (l : List Row) (xs : List Int) : List Int := l.foldl lowStep xs
def lowRun (rs : List Row) : Nat → List Int → Option (List Int)
  | 0, _ => none
  | k + 1, xs => if lowRows rs xs = xs then some xs else lowRun rs k (lowRows rs xs)
def F_least_numbers (_ : PySem.W.Frag) (g : Str → Addr) : DF := fun ds S Q E => ∃ c gd, ds = [c, gd] ∧ DueP g c gd S E fun n rs =>
  (∀ (nu0 : List Int) (t : Nat) (nu rho : List Int), IsStart n rs nu0 → (t : Int) < n → nu = upIter rs t nu0 → upRows rs nu = nu → leastW n rs (tupI nu) (tupI rho) = .non → (nu.length : Int) = n → (rho.length : Int) = n → Q (leastD g (tupI nu) (tupI rho)) S) ∧
  ∀ is : List Int, ringW rs (tupI is) = .non → is ≠ [] → is.length ≤ 60 → Q (ringD g (tupI is)) S
def F_least_fault (_ : PySem.W.Frag) (g : Str → Addr) : DF := fun ds S Q E => ∃ c gd dn dr, ds = [c, gd, leastD g dn dr] ∧ Plain dn ∧ Plain dr ∧ DueP g c gd S E fun n rs => Q (leastW n rs dn dr) S
def F_ring_fault (_ : PySem.W.Frag) (g : Str → Addr) : DF := fun ds S Q E => ∃ c gd d, ds = [c, gd, ringD g d] ∧ Plain d ∧ DueP g c gd S E fun _ rs => Q (ringW rs d) S
def F_law_ring_word (_ : PySem.W.Frag) (_ : Str → Addr) : DF := fun ds S Q _ => ∃ n rs d, ds = [.lst (rowsD rs), d] ∧ VSys n rs ∧ Plain d ∧ Q (ringW rs d) S
def F_law_system (_ : PySem.W.Frag) (_ : Str → Addr) : DF := fun ds S Q _ => ∃ h, ds = [.raw h] ∧ Hand S h ∧ ∀ n rs, VSys n rs → Q (.tup [.int n, .lst (rowsD rs)]) S
/-! highs -/
def highD (d : D) : Bool := wholeD (-1000000000000) 1000000000000 d
def highsBad (n : Int) (hd : D) : Option Nat := match seqD hd with
  | some es => if (es.length : Int) = n then firstN (fun d => !highD d) 0 es else some 0
  | none => some 0
def greatP (g : Str → Addr) (n : Int) (rs : List Row) (hs : List Int) (Q : DV) (S : Sto) : Prop := match lowRun rs (n.toNat + 1) hs with
  | some xs => Q (tupI xs) S
  | none => ∀ is : List Int, ringW rs (tupI is) = .non → is ≠ [] → is.length ≤ 60 → Q (ringD g (tupI is)) S
def F_greatest_numbers (_ : PySem.W.Frag) (g : Str → Addr) : DF := fun ds S Q E => ∃ c gd hd, ds = [c, gd, hd] ∧ RunD hd ∧ DueP g c gd S E fun n rs => match highsBad n hd with
  | some k => ∀ S', Fr S S' → E (g "BadHighs") [("index", .int (k : Nat))] S'
  | none => greatP g n rs ((listG hd).map asI) Q S
def F_law_rid (_ : PySem.W.Frag) (_ : Str → Addr) : DF := fun ds S Q _ => ∃ h, ds = [.raw h] ∧ Hand S h ∧ ∀ d, RunD d → seqD d = none → Q d S
def F_law_lists (_ : PySem.W.Frag) (_ : Str → Addr) : DF := fun ds S Q _ => ∃ h d es, ds = [.raw h, d] ∧ (d = .lst es ∨ d = .tup es) ∧ Hand S h ∧ Q (.tup es) S ∧ Q (.lst es) S
def F_law_greatest (_ : PySem.W.Frag) (_ : Str → Addr) : DF := fun ds S Q _ => ∃ n rs hs, ds = [.int n, .lst (rowsD rs), .lst (intL hs)] ∧ VSys n rs ∧ (hs.length : Int) = n ∧ Q (match lowRun rs (n.toNat + 1) hs with
  | some xs => tupI xs
  | none => .non) S
def dueW : Option (Str × Int) → D
  | none => .non
  | some w => .tup [.str w.1, .int w.2]
def F_law_due (_ : PySem.W.Frag) (_ : Str → Addr) : DF := fun ds S Q _ => ∃ c gd, ds = [c, gd] ∧ PlainI c ∧ DemD gd ∧ (∀ es, seqD gd = some es → ∀ d ∈ es, ∀ xs, seqD d = some xs → ∀ x ∈ xs, PlainI x) ∧ Q (dueW (dueD c gd)) S
/-- a bent system -/
structure BentD (c gd : D) : Prop where
  ct : PlainI c
  gt : DemD gd
  in_ : ∀ es, seqD gd = some es → ∀ d ∈ es, ∀ xs, seqD d = some xs → ∀ x ∈ xs, PlainI x
def F_law_bent_system (_ : PySem.W.Frag) (_ : Str → Addr) : DF := fun ds S Q _ => ∃ h n rs, ds = [.raw h, .int n, .lst (rowsD rs)] ∧ Hand S h ∧ VSys n rs ∧ ∀ c gd, BentD c gd → Q (.tup [c, gd]) S
def refW (which : Int) (c gd hd : D) : D := match dueD c gd with
  | some w => dueW (some w)
  | none => if which = 2 then (match highsBad (asI c) hd with
    | some k => .tup [.str "highs", .int (k : Nat)]
    | none => .non) else .non
def F_law_refusal (_ : PySem.W.Frag) (_ : Str → Addr) : DF := fun ds S Q _ => ∃ which c gd hd, ds = [.int which, c, gd, hd] ∧ 0 ≤ which ∧ which ≤ 4 ∧ (∀ S, (tyD S c).isSome = true) ∧ DemD gd ∧ RunD hd ∧ Q (refW which c gd hd) S
def F_law_claimed (_ : PySem.W.Frag) (_ : Str → Addr) : DF := fun ds S Q _ => ∃ (nu : List Int) (r : Row), ds = [tupI nu, rowDt r] ∧ (∀ u, r.2.1 = some u → 0 ≤ u ∧ u < nu.length) ∧ Q (.int (askR (numAt nu) r)) S
def F_law_least_word (_ : PySem.W.Frag) (_ : Str → Addr) : DF := fun ds S Q _ => ∃ n rs dn dr, ds = [.int n, .lst (rowsD rs), dn, dr] ∧ VSys n rs ∧ Plain dn ∧ Plain dr ∧ Q (leastW n rs dn dr) S
def F_law (K : PySem.W.Frag) (_ : Str → Addr) : DF := fun ds S Q _ => ∃ (a : Addr) (cs : List Int), ds = [.raw a] ∧ IsScr K S a cs ∧ cs.length < 16777216 ∧ ∀ S', Q (.bl true) S'
end DL
end

section
set_option Elab.async false
set_option linter.all false
set_option maxRecDepth 100000
set_option maxHeartbeats 4000000
/-! The readings of the defs, and that each def has its reading. -/
namespace DL
open PySem PySem.Spec PyProof.Rows L2
def top (i : Nat) : Stmt := PySem.Challenge.pw_purseahead_k16_whole_least_numbers_or_a.main.body.getD i (.Pass ⟨0, 0, 0, 0⟩)
abbrev inCls (s : Stmt) (j : Nat) : Stmt := inClass s j
abbrev st_is_whole : Stmt := top 4
abbrev N_is_whole : List Str := ["thing", "low", "high"]
abbrev ps_is_whole : List Str := ["thing", "low", "high"]
theorem sc_is_whole : FnScope N_is_whole ps_is_whole (defScope st_is_whole) := ⟨rfl, rfl, rfl, by decide +kernel, rfl, by decide +kernel, by decide +kernel⟩
abbrev FX_is_whole (P : Program) (w : World) (K : PySem.W.Frag) (mg : Str → Option Value) (base : Heap) (f : Addr) : Fm := BF P w K mg base N_is_whole "is_whole" (defScope st_is_whole) f 0
abbrev st_is_row : Stmt := top 5
abbrev N_is_row : List Str := ["thing", "least", "most"]
abbrev ps_is_row : List Str := ["thing", "least", "most"]
theorem sc_is_row : FnScope N_is_row ps_is_row (defScope st_is_row) := ⟨rfl, rfl, rfl, by decide +kernel, rfl, by decide +kernel, by decide +kernel⟩
abbrev FX_is_row (P : Program) (w : World) (K : PySem.W.Frag) (mg : Str → Option Value) (base : Heap) (f : Addr) : Fm := BF P w K mg base N_is_row "is_row" (defScope st_is_row) f 0
abbrev st_is_demand : Stmt := top 7
abbrev N_is_demand : List Str := ["count", "demand"]
abbrev ps_is_demand : List Str := ["count", "demand"]
theorem sc_is_demand : FnScope N_is_demand ps_is_demand (defScope st_is_demand) := ⟨rfl, rfl, rfl, by decide +kernel, rfl, by decide +kernel, by decide +kernel⟩
abbrev FX_is_demand (P : Program) (w : World) (K : PySem.W.Frag) (mg : Str → Option Value) (base : Heap) (f : Addr) : Fm := BF P w K mg base N_is_demand "is_demand" (defScope st_is_demand) f 1
abbrev st_check_demands : Stmt := top 8
abbrev N_check_demands : List Str := ["count", "demands", "index", "demand", "rooted", "place"]
abbrev ps_check_demands : List Str := ["count", "demands"]
theorem sc_check_demands : FnScope N_check_demands ps_check_demands (defScope st_check_demands) := ⟨rfl, rfl, rfl, by decide +kernel, rfl, by decide +kernel, by decide +kernel⟩
abbrev bs_check_demands_0 : Scope := ({ kind := .function, names := [(".0", .local), ("demand", .local), ("tuple", .globalImplicit)], isGenerator := false, isCoroutine := false } : Scope)
theorem blk_check_demands_0 : blkC N_check_demands (defScope st_check_demands) bs_check_demands_0 [("demand", 3)] = true := by decide +kernel
abbrev bs_check_demands_1 : Scope := ({ kind := .function, names := [(".0", .local), ("demand", .local)], isGenerator := false, isCoroutine := false } : Scope)
theorem blk_check_demands_1 : blkC N_check_demands (defScope st_check_demands) bs_check_demands_1 [("demand", 3)] = true := by decide +kernel
abbrev FX_check_demands (P : Program) (w : World) (K : PySem.W.Frag) (mg : Str → Option Value) (base : Heap) (f : Addr) : Fm := BF P w K mg base N_check_demands "check_demands" (defScope st_check_demands) f 2
abbrev st_asked_number : Stmt := top 9
abbrev N_asked_number : List Str := ["numbers", "demand"]
abbrev ps_asked_number : List Str := ["numbers", "demand"]
theorem sc_asked_number : FnScope N_asked_number ps_asked_number (defScope st_asked_number) := ⟨rfl, rfl, rfl, by decide +kernel, rfl, by decide +kernel, by decide +kernel⟩
abbrev FX_asked_number (P : Program) (w : World) (K : PySem.W.Frag) (mg : Str → Option Value) (base : Heap) (f : Addr) : Fm := BF P w K mg base N_asked_number "asked_number" (defScope st_asked_number) f 0
abbrev st_greatest_roots : Stmt := top 10
abbrev N_greatest_roots : List Str := ["count", "rows", "found", "index", "demand", "place"]
abbrev ps_greatest_roots : List Str := ["count", "rows"]
theorem sc_greatest_roots : FnScope N_greatest_roots ps_greatest_roots (defScope st_greatest_roots) := ⟨rfl, rfl, rfl, by decide +kernel, rfl, by decide +kernel, by decide +kernel⟩
abbrev FX_greatest_roots (P : Program) (w : World) (K : PySem.W.Frag) (mg : Str → Option Value) (base : Heap) (f : Addr) : Fm := BF P w K mg base N_greatest_roots "greatest_roots" (defScope st_greatest_roots) f 0
abbrev st_ring_behind : Stmt := top 11
abbrev N_ring_behind : List Str := ["count", "rows", "reasons", "place", "at", "_", "first", "ring"]
abbrev ps_ring_behind : List Str := ["count", "rows", "reasons", "place"]
theorem sc_ring_behind : FnScope N_ring_behind ps_ring_behind (defScope st_ring_behind) := ⟨rfl, rfl, rfl, by decide +kernel, rfl, by decide +kernel, by decide +kernel⟩
abbrev FX_ring_behind (P : Program) (w : World) (K : PySem.W.Frag) (mg : Str → Option Value) (base : Heap) (f : Addr) : Fm := BF P w K mg base N_ring_behind "ring_behind" (defScope st_ring_behind) f 0
abbrev st_Least__init : Stmt := inClass (top 16) 0
abbrev N_Least__init : List Str := ["self", "numbers", "reasons"]
abbrev ps_Least__init : List Str := ["self", "numbers", "reasons"]
theorem sc_Least__init : FnScope N_Least__init ps_Least__init (defScope st_Least__init) := ⟨rfl, rfl, rfl, by decide +kernel, rfl, by decide +kernel, by decide +kernel⟩
abbrev FX_Least__init (P : Program) (w : World) (K : PySem.W.Frag) (mg : Str → Option Value) (base : Heap) (f : Addr) : Fm := BF P w K mg base N_Least__init "Least.__init__" (defScope st_Least__init) f 0
abbrev st_DemandRing__init : Stmt := inClass (top 17) 0
abbrev N_DemandRing__init : List Str := ["self", "indexes"]
abbrev ps_DemandRing__init : List Str := ["self", "indexes"]
theorem sc_DemandRing__init : FnScope N_DemandRing__init ps_DemandRing__init (defScope st_DemandRing__init) := ⟨rfl, rfl, rfl, by decide +kernel, rfl, by decide +kernel, by decide +kernel⟩
abbrev FX_DemandRing__init (P : Program) (w : World) (K : PySem.W.Frag) (mg : Str → Option Value) (base : Heap) (f : Addr) : Fm := BF P w K mg base N_DemandRing__init "DemandRing.__init__" (defScope st_DemandRing__init) f 0
abbrev st_least_numbers : Stmt := top 12
abbrev N_least_numbers : List Str := ["count", "demands", "rows", "reasons", "index", "numbers", "turn", "changed", "demand", "place", "asked"]
abbrev ps_least_numbers : List Str := ["count", "demands"]
theorem sc_least_numbers : FnScope N_least_numbers ps_least_numbers (defScope st_least_numbers) := ⟨rfl, rfl, rfl, by decide +kernel, rfl, by decide +kernel, by decide +kernel⟩
abbrev bs_least_numbers_0 : Scope := ({ kind := .function, names := [(".0", .local), ("index", .local), ("rows", .free)], isGenerator := false, isCoroutine := false } : Scope)
theorem blk_least_numbers_0 : blkC N_least_numbers (defScope st_least_numbers) bs_least_numbers_0 [("index", 4)] = true := by decide +kernel
abbrev FX_least_numbers (P : Program) (w : World) (K : PySem.W.Frag) (mg : Str → Option Value) (base : Heap) (f : Addr) : Fm := BF P w K mg base N_least_numbers "least_numbers" (defScope st_least_numbers) f 3
abbrev st_is_number_row : Stmt := top 13
abbrev N_is_number_row : List Str := ["thing", "many", "item"]
abbrev ps_is_number_row : List Str := ["thing", "many"]
theorem sc_is_number_row : FnScope N_is_number_row ps_is_number_row (defScope st_is_number_row) := ⟨rfl, rfl, rfl, by decide +kernel, rfl, by decide +kernel, by decide +kernel⟩
abbrev bs_is_number_row_0 : Scope := ({ kind := .function, names := [(".0", .local), ("item", .local), ("isinstance", .globalImplicit), ("int", .globalImplicit), ("bool", .globalImplicit)], isGenerator := false, isCoroutine := false } : Scope)
theorem blk_is_number_row_0 : blkC N_is_number_row (defScope st_is_number_row) bs_is_number_row_0 [("item", 2)] = true := by decide +kernel
abbrev FX_is_number_row (P : Program) (w : World) (K : PySem.W.Frag) (mg : Str → Option Value) (base : Heap) (f : Addr) : Fm := BF P w K mg base N_is_number_row "is_number_row" (defScope st_is_number_row) f 0
abbrev st_least_fault : Stmt := top 14
abbrev N_least_fault : List Str := ["count", "demands", "least", "rows", "place", "reason", "demand", "at", "_"]
abbrev ps_least_fault : List Str := ["count", "demands", "least"]
theorem sc_least_fault : FnScope N_least_fault ps_least_fault (defScope st_least_fault) := ⟨rfl, rfl, rfl, by decide +kernel, rfl, by decide +kernel, by decide +kernel⟩
abbrev FX_least_fault (P : Program) (w : World) (K : PySem.W.Frag) (mg : Str → Option Value) (base : Heap) (f : Addr) : Fm := BF P w K mg base N_least_fault "least_fault" (defScope st_least_fault) f 3
abbrev st_ring_fault : Stmt := top 15
abbrev N_ring_fault : List Str := ["count", "demands", "ring", "rows", "indexes", "index", "at"]
abbrev ps_ring_fault : List Str := ["count", "demands", "ring"]
theorem sc_ring_fault : FnScope N_ring_fault ps_ring_fault (defScope st_ring_fault) := ⟨rfl, rfl, rfl, by decide +kernel, rfl, by decide +kernel, by decide +kernel⟩
abbrev bs_ring_fault_0 : Scope := ({ kind := .function, names := [(".0", .local), ("index", .local), ("rows", .free)], isGenerator := false, isCoroutine := false } : Scope)
theorem blk_ring_fault_0 : blkC N_ring_fault (defScope st_ring_fault) bs_ring_fault_0 [("index", 5)] = true := by decide +kernel
abbrev FX_ring_fault (P : Program) (w : World) (K : PySem.W.Frag) (mg : Str → Option Value) (base : Heap) (f : Addr) : Fm := BF P w K mg base N_ring_fault "ring_fault" (defScope st_ring_fault) f 3
abbrev st_law_hand : Stmt := top 19
abbrev N_law_hand : List Str := ["_law_script", "_law_total", "_law_cells", "_law_cell"]
abbrev ps_law_hand : List Str := ["_law_script"]
theorem sc_law_hand : FnScope N_law_hand ps_law_hand (defScope st_law_hand) := ⟨rfl, rfl, rfl, by decide +kernel, rfl, by decide +kernel, by decide +kernel⟩
abbrev FX_law_hand (P : Program) (w : World) (K : PySem.W.Frag) (mg : Str → Option Value) (base : Heap) (f : Addr) : Fm := BF P w K mg base N_law_hand "_law_hand" (defScope st_law_hand) f 0
abbrev st_law_mixed : Stmt := top 20
abbrev N_law_mixed : List Str := ["_law_number", "_law_turn", "_law_once", "_law_twice"]
abbrev ps_law_mixed : List Str := ["_law_number", "_law_turn"]
theorem sc_law_mixed : FnScope N_law_mixed ps_law_mixed (defScope st_law_mixed) := ⟨rfl, rfl, rfl, by decide +kernel, rfl, by decide +kernel, by decide +kernel⟩
abbrev FX_law_mixed (P : Program) (w : World) (K : PySem.W.Frag) (mg : Str → Option Value) (base : Heap) (f : Addr) : Fm := BF P w K mg base N_law_mixed "_law_mixed" (defScope st_law_mixed) f 0
abbrev st_law_take : Stmt := top 21
abbrev N_law_take : List Str := ["_law_hand_here", "_law_many", "_law_cell", "_law_rest"]
abbrev ps_law_take : List Str := ["_law_hand_here", "_law_many"]
theorem sc_law_take : FnScope N_law_take ps_law_take (defScope st_law_take) := ⟨rfl, rfl, rfl, by decide +kernel, rfl, by decide +kernel, by decide +kernel⟩
abbrev FX_law_take (P : Program) (w : World) (K : PySem.W.Frag) (mg : Str → Option Value) (base : Heap) (f : Addr) : Fm := BF P w K mg base N_law_take "_law_take" (defScope st_law_take) f 1
abbrev st_law_lists : Stmt := top 22
abbrev N_law_lists : List Str := ["_law_hand_here", "_law_thing"]
abbrev ps_law_lists : List Str := ["_law_hand_here", "_law_thing"]
theorem sc_law_lists : FnScope N_law_lists ps_law_lists (defScope st_law_lists) := ⟨rfl, rfl, rfl, by decide +kernel, rfl, by decide +kernel, by decide +kernel⟩
abbrev FX_law_lists (P : Program) (w : World) (K : PySem.W.Frag) (mg : Str → Option Value) (base : Heap) (f : Addr) : Fm := BF P w K mg base N_law_lists "_law_lists" (defScope st_law_lists) f 2
abbrev st_law_row_of : Stmt := top 23
abbrev N_law_row_of : List Str := ["_law_thing", "_law_many", "_law_item"]
abbrev ps_law_row_of : List Str := ["_law_thing", "_law_many"]
theorem sc_law_row_of : FnScope N_law_row_of ps_law_row_of (defScope st_law_row_of) := ⟨rfl, rfl, rfl, by decide +kernel, rfl, by decide +kernel, by decide +kernel⟩
abbrev bs_law_row_of_0 : Scope := ({ kind := .function, names := [(".0", .local), ("_law_item", .local), ("isinstance", .globalImplicit), ("int", .globalImplicit), ("bool", .globalImplicit)], isGenerator := false, isCoroutine := false } : Scope)
theorem blk_law_row_of_0 : blkC N_law_row_of (defScope st_law_row_of) bs_law_row_of_0 [("_law_item", 2)] = true := by decide +kernel
abbrev FX_law_row_of (P : Program) (w : World) (K : PySem.W.Frag) (mg : Str → Option Value) (base : Heap) (f : Addr) : Fm := BF P w K mg base N_law_row_of "_law_row_of" (defScope st_law_row_of) f 0
abbrev st_law_system : Stmt := top 24
abbrev N_law_system : List Str := ["_law_hand_here", "_law_count", "_law_more", "_law_low", "_law_wide", "_law_rows", "_law_turn", "_law_start", "_law_row", "_law_place"]
abbrev ps_law_system : List Str := ["_law_hand_here"]
theorem sc_law_system : FnScope N_law_system ps_law_system (defScope st_law_system) := ⟨rfl, rfl, rfl, by decide +kernel, rfl, by decide +kernel, by decide +kernel⟩
abbrev bs_law_system_0 : Scope := ({ kind := .function, names := [(".0", .local), ("_law_place", .local), ("_law_take", .globalImplicit), ("_law_hand_here", .free), ("_law_low", .free), ("_law_wide", .free)], isGenerator := false, isCoroutine := false } : Scope)
theorem blk_law_system_0 : blkC N_law_system (defScope st_law_system) bs_law_system_0 [("_law_place", 9)] = true := by decide +kernel
abbrev FX_law_system (P : Program) (w : World) (K : PySem.W.Frag) (mg : Str → Option Value) (base : Heap) (f : Addr) : Fm := BF P w K mg base N_law_system "_law_system" (defScope st_law_system) f 2
abbrev st_law_claimed : Stmt := top 25
abbrev N_law_claimed : List Str := ["_law_numbers", "_law_row"]
abbrev ps_law_claimed : List Str := ["_law_numbers", "_law_row"]
theorem sc_law_claimed : FnScope N_law_claimed ps_law_claimed (defScope st_law_claimed) := ⟨rfl, rfl, rfl, by decide +kernel, rfl, by decide +kernel, by decide +kernel⟩
abbrev FX_law_claimed (P : Program) (w : World) (K : PySem.W.Frag) (mg : Str → Option Value) (base : Heap) (f : Addr) : Fm := BF P w K mg base N_law_claimed "_law_claimed" (defScope st_law_claimed) f 0
abbrev st_law_least_word : Stmt := top 26
abbrev N_law_least_word : List Str := ["_law_count", "_law_rows", "_law_numbers", "_law_reasons", "_law_place", "_law_at", "_law_turn", "_law_row"]
abbrev ps_law_least_word : List Str := ["_law_count", "_law_rows", "_law_numbers", "_law_reasons"]
theorem sc_law_least_word : FnScope N_law_least_word ps_law_least_word (defScope st_law_least_word) := ⟨rfl, rfl, rfl, by decide +kernel, rfl, by decide +kernel, by decide +kernel⟩
abbrev bs_law_least_word_0 : Scope := ({ kind := .function, names := [(".0", .local), ("_law_row", .local), ("_law_claimed", .globalImplicit), ("_law_numbers", .free)], isGenerator := false, isCoroutine := false } : Scope)
theorem blk_law_least_word_0 : blkC N_law_least_word (defScope st_law_least_word) bs_law_least_word_0 [("_law_row", 7)] = true := by decide +kernel
abbrev FX_law_least_word (P : Program) (w : World) (K : PySem.W.Frag) (mg : Str → Option Value) (base : Heap) (f : Addr) : Fm := BF P w K mg base N_law_least_word "_law_least_word" (defScope st_law_least_word) f 1
abbrev st_law_ring_word : Stmt := top 27
abbrev N_law_ring_word : List Str := ["_law_rows", "_law_indexes", "_law_index", "_law_at"]
abbrev ps_law_ring_word : List Str := ["_law_rows", "_law_indexes"]
theorem sc_law_ring_word : FnScope N_law_ring_word ps_law_ring_word (defScope st_law_ring_word) := ⟨rfl, rfl, rfl, by decide +kernel, rfl, by decide +kernel, by decide +kernel⟩
abbrev bs_law_ring_word_0 : Scope := ({ kind := .function, names := [(".0", .local), ("_law_index", .local), ("_law_rows", .free)], isGenerator := false, isCoroutine := false } : Scope)
theorem blk_law_ring_word_0 : blkC N_law_ring_word (defScope st_law_ring_word) bs_law_ring_word_0 [("_law_index", 2)] = true := by decide +kernel
abbrev FX_law_ring_word (P : Program) (w : World) (K : PySem.W.Frag) (mg : Str → Option Value) (base : Heap) (f : Addr) : Fm := BF P w K mg base N_law_ring_word "_law_ring_word" (defScope st_law_ring_word) f 1
abbrev st_law : Stmt := top 28
abbrev N_law : List Str := ["_law_script", "_law_hand_here", "_law_turn", "_law_count", "_law_rows", "_law_given", "_law_kept", "_law_found", "_law_row"]
abbrev ps_law : List Str := ["_law_script"]
theorem sc_law : FnScope N_law ps_law (defScope st_law) := ⟨rfl, rfl, rfl, by decide +kernel, rfl, by decide +kernel, by decide +kernel⟩
abbrev bs_law_0 : Scope := ({ kind := .function, names := [(".0", .local), ("_law_row", .local), ("_law_lists", .globalImplicit), ("_law_hand_here", .free)], isGenerator := false, isCoroutine := false } : Scope)
theorem blk_law_0 : blkC N_law (defScope st_law) bs_law_0 [("_law_row", 8)] = true := by decide +kernel
abbrev FX_law (P : Program) (w : World) (K : PySem.W.Frag) (mg : Str → Option Value) (base : Heap) (f : Addr) : Fm := BFG P w K mg base N_law "law" (defScope st_law) f 4
section
variable {P : Program} {w : World} {K : PySem.W.Frag} {mg : Str → Option Value} {base : Heap} {g : Str → Addr}
/-- what is known of the module -/
structure Fx (P : Program) (w : World) (K : PySem.W.Frag) (mg : Str → Option Value) (base : Heap) (g : Str → Addr) : Prop where
  cls_DemandRing : Cls K (g "DemandRing")
  cls_Least : Cls K (g "Least")
  ex_BadDemands : ExC P w K mg base "BadDemands" (g "BadDemands") ["what", "index"]
  g_DemandRing : mg "DemandRing" = some (.ref (g "DemandRing"))
  g_Least : mg "Least" = some (.ref (g "Least"))
  ins_DemandRing : InsC K (g "DemandRing")
  ins_Least : InsC K (g "Least")
  kit_DD : PySem.W.kitOne K (.ref (g "DemandRing")) (.ref (g "DemandRing")) = some true
  kit_LD : PySem.W.kitOne K (.ref (g "Least")) (.ref (g "DemandRing")) = some false
  kit_LL : PySem.W.kitOne K (.ref (g "Least")) (.ref (g "Least")) = some true
  m_abs : mg "abs" = none
  m_all : mg "all" = none
  m_bool : mg "bool" = none
  m_enumerate : mg "enumerate" = none
  m_int : mg "int" = none
  m_isinstance : mg "isinstance" = none
  m_len : mg "len" = none
  m_list : mg "list" = none
  m_range : mg "range" = none
  m_repr : mg "repr" = none
  m_reversed : mg "reversed" = none
  m_sum : mg "sum" = none
  m_tuple : mg "tuple" = none
  na_DemandRing_indexes : NoAttr K (g "DemandRing") "indexes"
  na_Least_numbers : NoAttr K (g "Least") "numbers"
  na_Least_reasons : NoAttr K (g "Least") "reasons"
end
theorem lm0 : List.lookup ("int" : Str) (Scope.names (defScope st_is_whole)) = some NameKind.globalImplicit := by decide +kernel
theorem lm1 {P : Program} {w : World} {K : PySem.W.Frag} {mg : Str → Option Value} {base : Heap} {f : Addr} : ∀ k, Gl ((FX_is_whole P w K mg base f).X k) "int" := fun _ => lm0
theorem lm2 : ("int" : Str) ≠ "__name__" := by decide +kernel
theorem lm3 : (("int" : Str) == ("__debug__" : Str)) = false := by decide +kernel
theorem lm4 : List.lookup ("thing" : Str) (Scope.names (defScope st_is_whole)) = some NameKind.local := by decide +kernel
theorem lm5 {P : Program} {w : World} {K : PySem.W.Frag} {mg : Str → Option Value} {base : Heap} {f : Addr} : ∀ k, Vis ((FX_is_whole P w K mg base f).X k).env.scope "thing" := fun _ => Or.inl lm4
theorem lm6 : (("thing" : Str) == ("__debug__" : Str)) = false := by decide +kernel
theorem lm7 : (("thing" : Str) == ("__classdict__" : Str)) = false := by decide +kernel
theorem lm8 : List.lookup ("isinstance" : Str) (Scope.names (defScope st_is_whole)) = some NameKind.globalImplicit := by decide +kernel
theorem lm9 {P : Program} {w : World} {K : PySem.W.Frag} {mg : Str → Option Value} {base : Heap} {f : Addr} : ∀ k, Gl ((FX_is_whole P w K mg base f).X k) "isinstance" := fun _ => lm8
theorem lm10 : List.lookup ("bool" : Str) (Scope.names (defScope st_is_whole)) = some NameKind.globalImplicit := by decide +kernel
theorem lm11 {P : Program} {w : World} {K : PySem.W.Frag} {mg : Str → Option Value} {base : Heap} {f : Addr} : ∀ k, Gl ((FX_is_whole P w K mg base f).X k) "bool" := fun _ => lm10
theorem lm12 : ("bool" : Str) ≠ "__name__" := by decide +kernel
theorem lm13 : (("bool" : Str) == ("__debug__" : Str)) = false := by decide +kernel
theorem lm14 : List.lookup ("low" : Str) (Scope.names (defScope st_is_whole)) = some NameKind.local := by decide +kernel
theorem lm15 {P : Program} {w : World} {K : PySem.W.Frag} {mg : Str → Option Value} {base : Heap} {f : Addr} : ∀ k, Vis ((FX_is_whole P w K mg base f).X k).env.scope "low" := fun _ => Or.inl lm14
theorem lm16 : (("low" : Str) == ("__debug__" : Str)) = false := by decide +kernel
theorem lm17 : (("low" : Str) == ("__classdict__" : Str)) = false := by decide +kernel
theorem lm18 : List.lookup ("high" : Str) (Scope.names (defScope st_is_whole)) = some NameKind.local := by decide +kernel
theorem lm19 {P : Program} {w : World} {K : PySem.W.Frag} {mg : Str → Option Value} {base : Heap} {f : Addr} : ∀ k, Vis ((FX_is_whole P w K mg base f).X k).env.scope "high" := fun _ => Or.inl lm18
theorem lm20 : (("high" : Str) == ("__debug__" : Str)) = false := by decide +kernel
theorem lm21 : (("high" : Str) == ("__classdict__" : Str)) = false := by decide +kernel
theorem lm22 : List.lookup ("thing" : Str) (Scope.names (defScope st_is_row)) = some NameKind.local := by decide +kernel
theorem lm23 {P : Program} {w : World} {K : PySem.W.Frag} {mg : Str → Option Value} {base : Heap} {f : Addr} : ∀ k, Vis ((FX_is_row P w K mg base f).X k).env.scope "thing" := fun _ => Or.inl lm22
theorem lm24 : List.lookup ("tuple" : Str) (Scope.names (defScope st_is_row)) = some NameKind.globalImplicit := by decide +kernel
theorem lm25 {P : Program} {w : World} {K : PySem.W.Frag} {mg : Str → Option Value} {base : Heap} {f : Addr} : ∀ k, Gl ((FX_is_row P w K mg base f).X k) "tuple" := fun _ => lm24
theorem lm26 : ("tuple" : Str) ≠ "__name__" := by decide +kernel
theorem lm27 : (("tuple" : Str) == ("__debug__" : Str)) = false := by decide +kernel
theorem lm28 : List.lookup ("list" : Str) (Scope.names (defScope st_is_row)) = some NameKind.globalImplicit := by decide +kernel
theorem lm29 {P : Program} {w : World} {K : PySem.W.Frag} {mg : Str → Option Value} {base : Heap} {f : Addr} : ∀ k, Gl ((FX_is_row P w K mg base f).X k) "list" := fun _ => lm28
theorem lm30 : ("list" : Str) ≠ "__name__" := by decide +kernel
theorem lm31 : (("list" : Str) == ("__debug__" : Str)) = false := by decide +kernel
theorem lm32 : List.lookup ("isinstance" : Str) (Scope.names (defScope st_is_row)) = some NameKind.globalImplicit := by decide +kernel
theorem lm33 {P : Program} {w : World} {K : PySem.W.Frag} {mg : Str → Option Value} {base : Heap} {f : Addr} : ∀ k, Gl ((FX_is_row P w K mg base f).X k) "isinstance" := fun _ => lm32
theorem lm34 : List.lookup ("least" : Str) (Scope.names (defScope st_is_row)) = some NameKind.local := by decide +kernel
theorem lm35 {P : Program} {w : World} {K : PySem.W.Frag} {mg : Str → Option Value} {base : Heap} {f : Addr} : ∀ k, Vis ((FX_is_row P w K mg base f).X k).env.scope "least" := fun _ => Or.inl lm34
theorem lm36 : (("least" : Str) == ("__debug__" : Str)) = false := by decide +kernel
theorem lm37 : (("least" : Str) == ("__classdict__" : Str)) = false := by decide +kernel
theorem lm38 : List.lookup ("len" : Str) (Scope.names (defScope st_is_row)) = some NameKind.globalImplicit := by decide +kernel
theorem lm39 {P : Program} {w : World} {K : PySem.W.Frag} {mg : Str → Option Value} {base : Heap} {f : Addr} : ∀ k, Gl ((FX_is_row P w K mg base f).X k) "len" := fun _ => lm38
theorem lm40 : List.lookup ("most" : Str) (Scope.names (defScope st_is_row)) = some NameKind.local := by decide +kernel
theorem lm41 {P : Program} {w : World} {K : PySem.W.Frag} {mg : Str → Option Value} {base : Heap} {f : Addr} : ∀ k, Vis ((FX_is_row P w K mg base f).X k).env.scope "most" := fun _ => Or.inl lm40
theorem lm42 : (("most" : Str) == ("__debug__" : Str)) = false := by decide +kernel
theorem lm43 : (("most" : Str) == ("__classdict__" : Str)) = false := by decide +kernel
theorem lm44 : List.lookup ("demand" : Str) (Scope.names (defScope st_is_demand)) = some NameKind.local := by decide +kernel
theorem lm45 {P : Program} {w : World} {K : PySem.W.Frag} {mg : Str → Option Value} {base : Heap} {f : Addr} : ∀ k, Vis ((FX_is_demand P w K mg base f).X k).env.scope "demand" := fun _ => Or.inl lm44
theorem lm46 : (("demand" : Str) == ("__debug__" : Str)) = false := by decide +kernel
theorem lm47 : (("demand" : Str) == ("__classdict__" : Str)) = false := by decide +kernel
theorem lm48 : List.lookup ("is_whole" : Str) (Scope.names (defScope st_is_demand)) = some NameKind.globalImplicit := by decide +kernel
theorem lm49 {P : Program} {w : World} {K : PySem.W.Frag} {mg : Str → Option Value} {base : Heap} {f : Addr} : ∀ k, Gl ((FX_is_demand P w K mg base f).X k) "is_whole" := fun _ => lm48
theorem lm50 : (("is_whole" : Str) == ("__debug__" : Str)) = false := by decide +kernel
theorem lm51 : List.lookup ("count" : Str) (Scope.names (defScope st_is_demand)) = some NameKind.local := by decide +kernel
theorem lm52 {P : Program} {w : World} {K : PySem.W.Frag} {mg : Str → Option Value} {base : Heap} {f : Addr} : ∀ k, Vis ((FX_is_demand P w K mg base f).X k).env.scope "count" := fun _ => Or.inl lm51
theorem lm53 : (("count" : Str) == ("__debug__" : Str)) = false := by decide +kernel
theorem lm54 : (("count" : Str) == ("__classdict__" : Str)) = false := by decide +kernel
theorem lm55 : List.lookup ("is_row" : Str) (Scope.names (defScope st_is_demand)) = some NameKind.globalImplicit := by decide +kernel
theorem lm56 {P : Program} {w : World} {K : PySem.W.Frag} {mg : Str → Option Value} {base : Heap} {f : Addr} : ∀ k, Gl ((FX_is_demand P w K mg base f).X k) "is_row" := fun _ => lm55
theorem lm57 : (("is_row" : Str) == ("__debug__" : Str)) = false := by decide +kernel
theorem lm58 : List.lookup ("demands" : Str) (Scope.names (defScope st_check_demands)) = some NameKind.local := by decide +kernel
theorem lm59 {P : Program} {w : World} {K : PySem.W.Frag} {mg : Str → Option Value} {base : Heap} {f : Addr} : ∀ k, Vis ((FX_check_demands P w K mg base f).X k).env.scope "demands" := fun _ => Or.inl lm58
theorem lm60 : (("demands" : Str) == ("__debug__" : Str)) = false := by decide +kernel
theorem lm61 : (("demands" : Str) == ("__classdict__" : Str)) = false := by decide +kernel
theorem lm62 {P : Program} {w : World} {K : PySem.W.Frag} {mg : Str → Option Value} {base : Heap} {f : Addr} : ∀ k, Loc ((blkF (FX_check_demands P w K mg base f) bs_check_demands_0).X k).env.scope "demand" := fun _ => Or.inl (by kernel_rfl)
theorem lm63 {P : Program} {w : World} {K : PySem.W.Frag} {mg : Str → Option Value} {base : Heap} {f : Addr} : ∀ k, ((blkF (FX_check_demands P w K mg base f) bs_check_demands_0).X k).fn "demand" = true ∨ List.lookup ("demand" : Str) ((blkF (FX_check_demands P w K mg base f) bs_check_demands_0).X k).env.scope.names = some NameKind.local := fun _ => Or.inr (by kernel_rfl)
theorem lm64 {P : Program} {w : World} {K : PySem.W.Frag} {mg : Str → Option Value} {base : Heap} {f : Addr} : ∀ k, Vis ((blkF (FX_check_demands P w K mg base f) bs_check_demands_0).X k).env.scope "demand" := fun _ => Or.inl (by kernel_rfl)
theorem lm65 {P : Program} {w : World} {K : PySem.W.Frag} {mg : Str → Option Value} {base : Heap} {f : Addr} : ∀ k, Gl ((blkF (FX_check_demands P w K mg base f) bs_check_demands_0).X k) "tuple" := fun _ => (by unfold Gl; kernel_rfl)
theorem lm66 : List.lookup ("tuple" : Str) (Scope.names (defScope st_check_demands)) = some NameKind.globalImplicit := by decide +kernel
theorem lm67 {P : Program} {w : World} {K : PySem.W.Frag} {mg : Str → Option Value} {base : Heap} {f : Addr} : ∀ k, Gl ((FX_check_demands P w K mg base f).X k) "tuple" := fun _ => lm66
theorem lm68 : List.lookup ("count" : Str) (Scope.names (defScope st_check_demands)) = some NameKind.local := by decide +kernel
theorem lm69 {P : Program} {w : World} {K : PySem.W.Frag} {mg : Str → Option Value} {base : Heap} {f : Addr} : ∀ k, Vis ((FX_check_demands P w K mg base f).X k).env.scope "count" := fun _ => Or.inl lm68
theorem lm70 : List.lookup ("range" : Str) (Scope.names (defScope st_check_demands)) = some NameKind.globalImplicit := by decide +kernel
theorem lm71 {P : Program} {w : World} {K : PySem.W.Frag} {mg : Str → Option Value} {base : Heap} {f : Addr} : ∀ k, Gl ((FX_check_demands P w K mg base f).X k) "range" := fun _ => lm70
theorem lm72 : List.lookup ("place" : Str) (Scope.names (defScope st_check_demands)) = some NameKind.local := by decide +kernel
theorem lm73 {P : Program} {w : World} {K : PySem.W.Frag} {mg : Str → Option Value} {base : Heap} {f : Addr} : ∀ k, Loc ((FX_check_demands P w K mg base f).X k).env.scope "place" := fun _ => Or.inl lm72
theorem lm74 {P : Program} {w : World} {K : PySem.W.Frag} {mg : Str → Option Value} {base : Heap} {f : Addr} : ∀ k, ((FX_check_demands P w K mg base f).X k).fn "place" = true ∨ List.lookup ("place" : Str) ((FX_check_demands P w K mg base f).X k).env.scope.names = some NameKind.local := fun _ => Or.inr lm72
theorem lm75 {P : Program} {w : World} {K : PySem.W.Frag} {mg : Str → Option Value} {base : Heap} {f : Addr} : ∀ k, Vis ((FX_check_demands P w K mg base f).X k).env.scope "place" := fun _ => Or.inl lm72
theorem lm76 : (("place" : Str) == ("__debug__" : Str)) = false := by decide +kernel
theorem lm77 : (("place" : Str) == ("__classdict__" : Str)) = false := by decide +kernel
theorem lm78 : List.lookup ("rooted" : Str) (Scope.names (defScope st_check_demands)) = some NameKind.local := by decide +kernel
theorem lm79 {P : Program} {w : World} {K : PySem.W.Frag} {mg : Str → Option Value} {base : Heap} {f : Addr} : ∀ k, Vis ((FX_check_demands P w K mg base f).X k).env.scope "rooted" := fun _ => Or.inl lm78
theorem lm80 : (("rooted" : Str) == ("__debug__" : Str)) = false := by decide +kernel
theorem lm81 : (("rooted" : Str) == ("__classdict__" : Str)) = false := by decide +kernel
theorem lm82 : List.lookup ("BadDemands" : Str) (Scope.names (defScope st_check_demands)) = some NameKind.globalImplicit := by decide +kernel
theorem lm83 {P : Program} {w : World} {K : PySem.W.Frag} {mg : Str → Option Value} {base : Heap} {f : Addr} : ∀ k, Gl ((FX_check_demands P w K mg base f).X k) "BadDemands" := fun _ => lm82
theorem lm84 : (("BadDemands" : Str) == ("__debug__" : Str)) = false := by decide +kernel
theorem lm85 {P : Program} {w : World} {K : PySem.W.Frag} {mg : Str → Option Value} {base : Heap} {f : Addr} : ∀ k, Loc ((blkF (FX_check_demands P w K mg base f) bs_check_demands_1).X k).env.scope "demand" := fun _ => Or.inl (by kernel_rfl)
theorem lm86 {P : Program} {w : World} {K : PySem.W.Frag} {mg : Str → Option Value} {base : Heap} {f : Addr} : ∀ k, ((blkF (FX_check_demands P w K mg base f) bs_check_demands_1).X k).fn "demand" = true ∨ List.lookup ("demand" : Str) ((blkF (FX_check_demands P w K mg base f) bs_check_demands_1).X k).env.scope.names = some NameKind.local := fun _ => Or.inr (by kernel_rfl)
theorem lm87 {P : Program} {w : World} {K : PySem.W.Frag} {mg : Str → Option Value} {base : Heap} {f : Addr} : ∀ k, Vis ((blkF (FX_check_demands P w K mg base f) bs_check_demands_1).X k).env.scope "demand" := fun _ => Or.inl (by kernel_rfl)
theorem lm88 {P : Program} {w : World} {K : PySem.W.Frag} {mg : Str → Option Value} {base : Heap} {f : Addr} : ∀ k, List.lookup ("rooted" : Str) ((FX_check_demands P w K mg base f).X k).env.scope.names = some NameKind.local := fun _ => lm78
theorem lm89 : List.lookup ("enumerate" : Str) (Scope.names (defScope st_check_demands)) = some NameKind.globalImplicit := by decide +kernel
theorem lm90 {P : Program} {w : World} {K : PySem.W.Frag} {mg : Str → Option Value} {base : Heap} {f : Addr} : ∀ k, Gl ((FX_check_demands P w K mg base f).X k) "enumerate" := fun _ => lm89
theorem lm91 : List.lookup ("demand" : Str) (Scope.names (defScope st_check_demands)) = some NameKind.local := by decide +kernel
theorem lm92 {P : Program} {w : World} {K : PySem.W.Frag} {mg : Str → Option Value} {base : Heap} {f : Addr} : ∀ k, Loc ((FX_check_demands P w K mg base f).X k).env.scope "demand" := fun _ => Or.inl lm91
theorem lm93 {P : Program} {w : World} {K : PySem.W.Frag} {mg : Str → Option Value} {base : Heap} {f : Addr} : ∀ k, ((FX_check_demands P w K mg base f).X k).fn "demand" = true ∨ List.lookup ("demand" : Str) ((FX_check_demands P w K mg base f).X k).env.scope.names = some NameKind.local := fun _ => Or.inr lm91
theorem lm94 : List.lookup ("index" : Str) (Scope.names (defScope st_check_demands)) = some NameKind.local := by decide +kernel
theorem lm95 {P : Program} {w : World} {K : PySem.W.Frag} {mg : Str → Option Value} {base : Heap} {f : Addr} : ∀ k, Loc ((FX_check_demands P w K mg base f).X k).env.scope "index" := fun _ => Or.inl lm94
theorem lm96 {P : Program} {w : World} {K : PySem.W.Frag} {mg : Str → Option Value} {base : Heap} {f : Addr} : ∀ k, ((FX_check_demands P w K mg base f).X k).fn "index" = true ∨ List.lookup ("index" : Str) ((FX_check_demands P w K mg base f).X k).env.scope.names = some NameKind.local := fun _ => Or.inr lm94
theorem lm97 {P : Program} {w : World} {K : PySem.W.Frag} {mg : Str → Option Value} {base : Heap} {f : Addr} : ∀ k, Vis ((FX_check_demands P w K mg base f).X k).env.scope "demand" := fun _ => Or.inl lm91
theorem lm98 : List.lookup ("is_demand" : Str) (Scope.names (defScope st_check_demands)) = some NameKind.globalImplicit := by decide +kernel
theorem lm99 {P : Program} {w : World} {K : PySem.W.Frag} {mg : Str → Option Value} {base : Heap} {f : Addr} : ∀ k, Gl ((FX_check_demands P w K mg base f).X k) "is_demand" := fun _ => lm98
theorem lm100 : (("is_demand" : Str) == ("__debug__" : Str)) = false := by decide +kernel
theorem lm101 {P : Program} {w : World} {K : PySem.W.Frag} {mg : Str → Option Value} {base : Heap} {f : Addr} : ∀ k, Vis ((FX_check_demands P w K mg base f).X k).env.scope "index" := fun _ => Or.inl lm94
theorem lm102 : (("index" : Str) == ("__debug__" : Str)) = false := by decide +kernel
theorem lm103 : (("index" : Str) == ("__classdict__" : Str)) = false := by decide +kernel
theorem lm104 : List.lookup ("is_row" : Str) (Scope.names (defScope st_check_demands)) = some NameKind.globalImplicit := by decide +kernel
theorem lm105 {P : Program} {w : World} {K : PySem.W.Frag} {mg : Str → Option Value} {base : Heap} {f : Addr} : ∀ k, Gl ((FX_check_demands P w K mg base f).X k) "is_row" := fun _ => lm104
theorem lm106 : List.lookup ("is_whole" : Str) (Scope.names (defScope st_check_demands)) = some NameKind.globalImplicit := by decide +kernel
theorem lm107 {P : Program} {w : World} {K : PySem.W.Frag} {mg : Str → Option Value} {base : Heap} {f : Addr} : ∀ k, Gl ((FX_check_demands P w K mg base f).X k) "is_whole" := fun _ => lm106
theorem lm108 : List.lookup ("numbers" : Str) (Scope.names (defScope st_asked_number)) = some NameKind.local := by decide +kernel
theorem lm109 {P : Program} {w : World} {K : PySem.W.Frag} {mg : Str → Option Value} {base : Heap} {f : Addr} : ∀ k, Vis ((FX_asked_number P w K mg base f).X k).env.scope "numbers" := fun _ => Or.inl lm108
theorem lm110 : (("numbers" : Str) == ("__debug__" : Str)) = false := by decide +kernel
theorem lm111 : (("numbers" : Str) == ("__classdict__" : Str)) = false := by decide +kernel
theorem lm112 : List.lookup ("demand" : Str) (Scope.names (defScope st_asked_number)) = some NameKind.local := by decide +kernel
theorem lm113 {P : Program} {w : World} {K : PySem.W.Frag} {mg : Str → Option Value} {base : Heap} {f : Addr} : ∀ k, Vis ((FX_asked_number P w K mg base f).X k).env.scope "demand" := fun _ => Or.inl lm112
theorem lm114 : List.lookup ("found" : Str) (Scope.names (defScope st_greatest_roots)) = some NameKind.local := by decide +kernel
theorem lm115 {P : Program} {w : World} {K : PySem.W.Frag} {mg : Str → Option Value} {base : Heap} {f : Addr} : ∀ k, Vis ((FX_greatest_roots P w K mg base f).X k).env.scope "found" := fun _ => Or.inl lm114
theorem lm116 : (("found" : Str) == ("__debug__" : Str)) = false := by decide +kernel
theorem lm117 : (("found" : Str) == ("__classdict__" : Str)) = false := by decide +kernel
theorem lm118 : List.lookup ("rows" : Str) (Scope.names (defScope st_greatest_roots)) = some NameKind.local := by decide +kernel
theorem lm119 {P : Program} {w : World} {K : PySem.W.Frag} {mg : Str → Option Value} {base : Heap} {f : Addr} : ∀ k, Vis ((FX_greatest_roots P w K mg base f).X k).env.scope "rows" := fun _ => Or.inl lm118
theorem lm120 : (("rows" : Str) == ("__debug__" : Str)) = false := by decide +kernel
theorem lm121 : (("rows" : Str) == ("__classdict__" : Str)) = false := by decide +kernel
theorem lm122 : List.lookup ("enumerate" : Str) (Scope.names (defScope st_greatest_roots)) = some NameKind.globalImplicit := by decide +kernel
theorem lm123 {P : Program} {w : World} {K : PySem.W.Frag} {mg : Str → Option Value} {base : Heap} {f : Addr} : ∀ k, Gl ((FX_greatest_roots P w K mg base f).X k) "enumerate" := fun _ => lm122
theorem lm124 : List.lookup ("demand" : Str) (Scope.names (defScope st_greatest_roots)) = some NameKind.local := by decide +kernel
theorem lm125 {P : Program} {w : World} {K : PySem.W.Frag} {mg : Str → Option Value} {base : Heap} {f : Addr} : ∀ k, Loc ((FX_greatest_roots P w K mg base f).X k).env.scope "demand" := fun _ => Or.inl lm124
theorem lm126 {P : Program} {w : World} {K : PySem.W.Frag} {mg : Str → Option Value} {base : Heap} {f : Addr} : ∀ k, ((FX_greatest_roots P w K mg base f).X k).fn "demand" = true ∨ List.lookup ("demand" : Str) ((FX_greatest_roots P w K mg base f).X k).env.scope.names = some NameKind.local := fun _ => Or.inr lm124
theorem lm127 : List.lookup ("index" : Str) (Scope.names (defScope st_greatest_roots)) = some NameKind.local := by decide +kernel
theorem lm128 {P : Program} {w : World} {K : PySem.W.Frag} {mg : Str → Option Value} {base : Heap} {f : Addr} : ∀ k, Loc ((FX_greatest_roots P w K mg base f).X k).env.scope "index" := fun _ => Or.inl lm127
theorem lm129 {P : Program} {w : World} {K : PySem.W.Frag} {mg : Str → Option Value} {base : Heap} {f : Addr} : ∀ k, ((FX_greatest_roots P w K mg base f).X k).fn "index" = true ∨ List.lookup ("index" : Str) ((FX_greatest_roots P w K mg base f).X k).env.scope.names = some NameKind.local := fun _ => Or.inr lm127
theorem lm130 {P : Program} {w : World} {K : PySem.W.Frag} {mg : Str → Option Value} {base : Heap} {f : Addr} : ∀ k, Vis ((FX_greatest_roots P w K mg base f).X k).env.scope "demand" := fun _ => Or.inl lm124
theorem lm131 : List.lookup ("place" : Str) (Scope.names (defScope st_greatest_roots)) = some NameKind.local := by decide +kernel
theorem lm132 {P : Program} {w : World} {K : PySem.W.Frag} {mg : Str → Option Value} {base : Heap} {f : Addr} : ∀ k, Vis ((FX_greatest_roots P w K mg base f).X k).env.scope "place" := fun _ => Or.inl lm131
theorem lm133 {P : Program} {w : World} {K : PySem.W.Frag} {mg : Str → Option Value} {base : Heap} {f : Addr} : ∀ k, Vis ((FX_greatest_roots P w K mg base f).X k).env.scope "index" := fun _ => Or.inl lm127
theorem lm134 {P : Program} {w : World} {K : PySem.W.Frag} {mg : Str → Option Value} {base : Heap} {f : Addr} : ∀ k, Loc ((FX_greatest_roots P w K mg base f).X k).env.scope "place" := fun _ => Or.inl lm131
theorem lm135 {P : Program} {w : World} {K : PySem.W.Frag} {mg : Str → Option Value} {base : Heap} {f : Addr} : ∀ k, ((FX_greatest_roots P w K mg base f).X k).fn "place" = true ∨ List.lookup ("place" : Str) ((FX_greatest_roots P w K mg base f).X k).env.scope.names = some NameKind.local := fun _ => Or.inr lm131
theorem lm136 : List.lookup ("count" : Str) (Scope.names (defScope st_greatest_roots)) = some NameKind.local := by decide +kernel
theorem lm137 {P : Program} {w : World} {K : PySem.W.Frag} {mg : Str → Option Value} {base : Heap} {f : Addr} : ∀ k, Vis ((FX_greatest_roots P w K mg base f).X k).env.scope "count" := fun _ => Or.inl lm136
theorem lm138 {P : Program} {w : World} {K : PySem.W.Frag} {mg : Str → Option Value} {base : Heap} {f : Addr} : ∀ k, Loc ((FX_greatest_roots P w K mg base f).X k).env.scope "found" := fun _ => Or.inl lm114
theorem lm139 {P : Program} {w : World} {K : PySem.W.Frag} {mg : Str → Option Value} {base : Heap} {f : Addr} : ∀ k, ((FX_greatest_roots P w K mg base f).X k).fn "found" = true ∨ List.lookup ("found" : Str) ((FX_greatest_roots P w K mg base f).X k).env.scope.names = some NameKind.local := fun _ => Or.inr lm114
theorem lm140 : List.lookup ("ring" : Str) (Scope.names (defScope st_ring_behind)) = some NameKind.local := by decide +kernel
theorem lm141 {P : Program} {w : World} {K : PySem.W.Frag} {mg : Str → Option Value} {base : Heap} {f : Addr} : ∀ k, Vis ((FX_ring_behind P w K mg base f).X k).env.scope "ring" := fun _ => Or.inl lm140
theorem lm142 : (("ring" : Str) == ("__debug__" : Str)) = false := by decide +kernel
theorem lm143 : (("ring" : Str) == ("__classdict__" : Str)) = false := by decide +kernel
theorem lm144 : List.lookup ("tuple" : Str) (Scope.names (defScope st_ring_behind)) = some NameKind.globalImplicit := by decide +kernel
theorem lm145 {P : Program} {w : World} {K : PySem.W.Frag} {mg : Str → Option Value} {base : Heap} {f : Addr} : ∀ k, Gl ((FX_ring_behind P w K mg base f).X k) "tuple" := fun _ => lm144
theorem lm146 : List.lookup ("reversed" : Str) (Scope.names (defScope st_ring_behind)) = some NameKind.globalImplicit := by decide +kernel
theorem lm147 {P : Program} {w : World} {K : PySem.W.Frag} {mg : Str → Option Value} {base : Heap} {f : Addr} : ∀ k, Gl ((FX_ring_behind P w K mg base f).X k) "reversed" := fun _ => lm146
theorem lm148 : List.lookup ("count" : Str) (Scope.names (defScope st_ring_behind)) = some NameKind.local := by decide +kernel
theorem lm149 {P : Program} {w : World} {K : PySem.W.Frag} {mg : Str → Option Value} {base : Heap} {f : Addr} : ∀ k, Vis ((FX_ring_behind P w K mg base f).X k).env.scope "count" := fun _ => Or.inl lm148
theorem lm150 : List.lookup ("range" : Str) (Scope.names (defScope st_ring_behind)) = some NameKind.globalImplicit := by decide +kernel
theorem lm151 {P : Program} {w : World} {K : PySem.W.Frag} {mg : Str → Option Value} {base : Heap} {f : Addr} : ∀ k, Gl ((FX_ring_behind P w K mg base f).X k) "range" := fun _ => lm150
theorem lm152 : List.lookup ("_" : Str) (Scope.names (defScope st_ring_behind)) = some NameKind.local := by decide +kernel
theorem lm153 {P : Program} {w : World} {K : PySem.W.Frag} {mg : Str → Option Value} {base : Heap} {f : Addr} : ∀ k, Loc ((FX_ring_behind P w K mg base f).X k).env.scope "_" := fun _ => Or.inl lm152
theorem lm154 {P : Program} {w : World} {K : PySem.W.Frag} {mg : Str → Option Value} {base : Heap} {f : Addr} : ∀ k, ((FX_ring_behind P w K mg base f).X k).fn "_" = true ∨ List.lookup ("_" : Str) ((FX_ring_behind P w K mg base f).X k).env.scope.names = some NameKind.local := fun _ => Or.inr lm152
theorem lm155 : List.lookup ("at" : Str) (Scope.names (defScope st_ring_behind)) = some NameKind.local := by decide +kernel
theorem lm156 {P : Program} {w : World} {K : PySem.W.Frag} {mg : Str → Option Value} {base : Heap} {f : Addr} : ∀ k, Vis ((FX_ring_behind P w K mg base f).X k).env.scope "at" := fun _ => Or.inl lm155
theorem lm157 : (("at" : Str) == ("__debug__" : Str)) = false := by decide +kernel
theorem lm158 : (("at" : Str) == ("__classdict__" : Str)) = false := by decide +kernel
theorem lm159 : List.lookup ("first" : Str) (Scope.names (defScope st_ring_behind)) = some NameKind.local := by decide +kernel
theorem lm160 {P : Program} {w : World} {K : PySem.W.Frag} {mg : Str → Option Value} {base : Heap} {f : Addr} : ∀ k, Vis ((FX_ring_behind P w K mg base f).X k).env.scope "first" := fun _ => Or.inl lm159
theorem lm161 : (("first" : Str) == ("__debug__" : Str)) = false := by decide +kernel
theorem lm162 : (("first" : Str) == ("__classdict__" : Str)) = false := by decide +kernel
theorem lm163 : List.lookup ("rows" : Str) (Scope.names (defScope st_ring_behind)) = some NameKind.local := by decide +kernel
theorem lm164 {P : Program} {w : World} {K : PySem.W.Frag} {mg : Str → Option Value} {base : Heap} {f : Addr} : ∀ k, Vis ((FX_ring_behind P w K mg base f).X k).env.scope "rows" := fun _ => Or.inl lm163
theorem lm165 : List.lookup ("reasons" : Str) (Scope.names (defScope st_ring_behind)) = some NameKind.local := by decide +kernel
theorem lm166 {P : Program} {w : World} {K : PySem.W.Frag} {mg : Str → Option Value} {base : Heap} {f : Addr} : ∀ k, Vis ((FX_ring_behind P w K mg base f).X k).env.scope "reasons" := fun _ => Or.inl lm165
theorem lm167 : (("reasons" : Str) == ("__debug__" : Str)) = false := by decide +kernel
theorem lm168 : (("reasons" : Str) == ("__classdict__" : Str)) = false := by decide +kernel
theorem lm169 {P : Program} {w : World} {K : PySem.W.Frag} {mg : Str → Option Value} {base : Heap} {f : Addr} : ∀ k, Loc ((FX_ring_behind P w K mg base f).X k).env.scope "at" := fun _ => Or.inl lm155
theorem lm170 {P : Program} {w : World} {K : PySem.W.Frag} {mg : Str → Option Value} {base : Heap} {f : Addr} : ∀ k, ((FX_ring_behind P w K mg base f).X k).fn "at" = true ∨ List.lookup ("at" : Str) ((FX_ring_behind P w K mg base f).X k).env.scope.names = some NameKind.local := fun _ => Or.inr lm155
theorem lm171 {P : Program} {w : World} {K : PySem.W.Frag} {mg : Str → Option Value} {base : Heap} {f : Addr} : ∀ k, Loc ((FX_ring_behind P w K mg base f).X k).env.scope "ring" := fun _ => Or.inl lm140
theorem lm172 {P : Program} {w : World} {K : PySem.W.Frag} {mg : Str → Option Value} {base : Heap} {f : Addr} : ∀ k, ((FX_ring_behind P w K mg base f).X k).fn "ring" = true ∨ List.lookup ("ring" : Str) ((FX_ring_behind P w K mg base f).X k).env.scope.names = some NameKind.local := fun _ => Or.inr lm140
theorem lm173 {P : Program} {w : World} {K : PySem.W.Frag} {mg : Str → Option Value} {base : Heap} {f : Addr} : ∀ k, Loc ((FX_ring_behind P w K mg base f).X k).env.scope "first" := fun _ => Or.inl lm159
theorem lm174 {P : Program} {w : World} {K : PySem.W.Frag} {mg : Str → Option Value} {base : Heap} {f : Addr} : ∀ k, ((FX_ring_behind P w K mg base f).X k).fn "first" = true ∨ List.lookup ("first" : Str) ((FX_ring_behind P w K mg base f).X k).env.scope.names = some NameKind.local := fun _ => Or.inr lm159
theorem lm175 : List.lookup ("place" : Str) (Scope.names (defScope st_ring_behind)) = some NameKind.local := by decide +kernel
theorem lm176 {P : Program} {w : World} {K : PySem.W.Frag} {mg : Str → Option Value} {base : Heap} {f : Addr} : ∀ k, Vis ((FX_ring_behind P w K mg base f).X k).env.scope "place" := fun _ => Or.inl lm175
theorem lm177 : List.lookup ("self" : Str) (Scope.names (defScope st_Least__init)) = some NameKind.local := by decide +kernel
theorem lm178 {P : Program} {w : World} {K : PySem.W.Frag} {mg : Str → Option Value} {base : Heap} {f : Addr} : ∀ k, Vis ((FX_Least__init P w K mg base f).X k).env.scope "self" := fun _ => Or.inl lm177
theorem lm179 : (("self" : Str) == ("__debug__" : Str)) = false := by decide +kernel
theorem lm180 : (("self" : Str) == ("__classdict__" : Str)) = false := by decide +kernel
theorem lm181 : List.lookup ("reasons" : Str) (Scope.names (defScope st_Least__init)) = some NameKind.local := by decide +kernel
theorem lm182 {P : Program} {w : World} {K : PySem.W.Frag} {mg : Str → Option Value} {base : Heap} {f : Addr} : ∀ k, Vis ((FX_Least__init P w K mg base f).X k).env.scope "reasons" := fun _ => Or.inl lm181
theorem lm183 : List.lookup ("numbers" : Str) (Scope.names (defScope st_Least__init)) = some NameKind.local := by decide +kernel
theorem lm184 {P : Program} {w : World} {K : PySem.W.Frag} {mg : Str → Option Value} {base : Heap} {f : Addr} : ∀ k, Vis ((FX_Least__init P w K mg base f).X k).env.scope "numbers" := fun _ => Or.inl lm183
theorem lm185 : List.lookup ("reasons" : Str) (Scope.names (defScope st_least_numbers)) = some NameKind.local := by decide +kernel
theorem lm186 {P : Program} {w : World} {K : PySem.W.Frag} {mg : Str → Option Value} {base : Heap} {f : Addr} : ∀ k, Vis ((FX_least_numbers P w K mg base f).X k).env.scope "reasons" := fun _ => Or.inl lm185
theorem lm187 : List.lookup ("tuple" : Str) (Scope.names (defScope st_least_numbers)) = some NameKind.globalImplicit := by decide +kernel
theorem lm188 {P : Program} {w : World} {K : PySem.W.Frag} {mg : Str → Option Value} {base : Heap} {f : Addr} : ∀ k, Gl ((FX_least_numbers P w K mg base f).X k) "tuple" := fun _ => lm187
theorem lm189 : List.lookup ("numbers" : Str) (Scope.names (defScope st_least_numbers)) = some NameKind.local := by decide +kernel
theorem lm190 {P : Program} {w : World} {K : PySem.W.Frag} {mg : Str → Option Value} {base : Heap} {f : Addr} : ∀ k, Vis ((FX_least_numbers P w K mg base f).X k).env.scope "numbers" := fun _ => Or.inl lm189
theorem lm191 : List.lookup ("Least" : Str) (Scope.names (defScope st_least_numbers)) = some NameKind.globalImplicit := by decide +kernel
theorem lm192 {P : Program} {w : World} {K : PySem.W.Frag} {mg : Str → Option Value} {base : Heap} {f : Addr} : ∀ k, Gl ((FX_least_numbers P w K mg base f).X k) "Least" := fun _ => lm191
theorem lm193 : (("Least" : Str) == ("__debug__" : Str)) = false := by decide +kernel
theorem lm194 : List.lookup ("count" : Str) (Scope.names (defScope st_least_numbers)) = some NameKind.local := by decide +kernel
theorem lm195 {P : Program} {w : World} {K : PySem.W.Frag} {mg : Str → Option Value} {base : Heap} {f : Addr} : ∀ k, Vis ((FX_least_numbers P w K mg base f).X k).env.scope "count" := fun _ => Or.inl lm194
theorem lm196 : List.lookup ("range" : Str) (Scope.names (defScope st_least_numbers)) = some NameKind.globalImplicit := by decide +kernel
theorem lm197 {P : Program} {w : World} {K : PySem.W.Frag} {mg : Str → Option Value} {base : Heap} {f : Addr} : ∀ k, Gl ((FX_least_numbers P w K mg base f).X k) "range" := fun _ => lm196
theorem lm198 : List.lookup ("turn" : Str) (Scope.names (defScope st_least_numbers)) = some NameKind.local := by decide +kernel
theorem lm199 {P : Program} {w : World} {K : PySem.W.Frag} {mg : Str → Option Value} {base : Heap} {f : Addr} : ∀ k, Loc ((FX_least_numbers P w K mg base f).X k).env.scope "turn" := fun _ => Or.inl lm198
theorem lm200 {P : Program} {w : World} {K : PySem.W.Frag} {mg : Str → Option Value} {base : Heap} {f : Addr} : ∀ k, ((FX_least_numbers P w K mg base f).X k).fn "turn" = true ∨ List.lookup ("turn" : Str) ((FX_least_numbers P w K mg base f).X k).env.scope.names = some NameKind.local := fun _ => Or.inr lm198
theorem lm201 : List.lookup ("changed" : Str) (Scope.names (defScope st_least_numbers)) = some NameKind.local := by decide +kernel
theorem lm202 {P : Program} {w : World} {K : PySem.W.Frag} {mg : Str → Option Value} {base : Heap} {f : Addr} : ∀ k, Vis ((FX_least_numbers P w K mg base f).X k).env.scope "changed" := fun _ => Or.inl lm201
theorem lm203 : (("changed" : Str) == ("__debug__" : Str)) = false := by decide +kernel
theorem lm204 : (("changed" : Str) == ("__classdict__" : Str)) = false := by decide +kernel
theorem lm205 : List.lookup ("rows" : Str) (Scope.names (defScope st_least_numbers)) = some NameKind.cell := by decide +kernel
theorem lm206 {P : Program} {w : World} {K : PySem.W.Frag} {mg : Str → Option Value} {base : Heap} {f : Addr} : ∀ k, Vis ((FX_least_numbers P w K mg base f).X k).env.scope "rows" := fun _ => Or.inr (Or.inl lm205)
theorem lm207 : List.lookup ("enumerate" : Str) (Scope.names (defScope st_least_numbers)) = some NameKind.globalImplicit := by decide +kernel
theorem lm208 {P : Program} {w : World} {K : PySem.W.Frag} {mg : Str → Option Value} {base : Heap} {f : Addr} : ∀ k, Gl ((FX_least_numbers P w K mg base f).X k) "enumerate" := fun _ => lm207
theorem lm209 : List.lookup ("demand" : Str) (Scope.names (defScope st_least_numbers)) = some NameKind.local := by decide +kernel
theorem lm210 {P : Program} {w : World} {K : PySem.W.Frag} {mg : Str → Option Value} {base : Heap} {f : Addr} : ∀ k, Loc ((FX_least_numbers P w K mg base f).X k).env.scope "demand" := fun _ => Or.inl lm209
theorem lm211 {P : Program} {w : World} {K : PySem.W.Frag} {mg : Str → Option Value} {base : Heap} {f : Addr} : ∀ k, ((FX_least_numbers P w K mg base f).X k).fn "demand" = true ∨ List.lookup ("demand" : Str) ((FX_least_numbers P w K mg base f).X k).env.scope.names = some NameKind.local := fun _ => Or.inr lm209
theorem lm212 : List.lookup ("index" : Str) (Scope.names (defScope st_least_numbers)) = some NameKind.local := by decide +kernel
theorem lm213 {P : Program} {w : World} {K : PySem.W.Frag} {mg : Str → Option Value} {base : Heap} {f : Addr} : ∀ k, Loc ((FX_least_numbers P w K mg base f).X k).env.scope "index" := fun _ => Or.inl lm212
theorem lm214 {P : Program} {w : World} {K : PySem.W.Frag} {mg : Str → Option Value} {base : Heap} {f : Addr} : ∀ k, ((FX_least_numbers P w K mg base f).X k).fn "index" = true ∨ List.lookup ("index" : Str) ((FX_least_numbers P w K mg base f).X k).env.scope.names = some NameKind.local := fun _ => Or.inr lm212
theorem lm215 : List.lookup ("asked" : Str) (Scope.names (defScope st_least_numbers)) = some NameKind.local := by decide +kernel
theorem lm216 {P : Program} {w : World} {K : PySem.W.Frag} {mg : Str → Option Value} {base : Heap} {f : Addr} : ∀ k, Vis ((FX_least_numbers P w K mg base f).X k).env.scope "asked" := fun _ => Or.inl lm215
theorem lm217 : (("asked" : Str) == ("__debug__" : Str)) = false := by decide +kernel
theorem lm218 : (("asked" : Str) == ("__classdict__" : Str)) = false := by decide +kernel
theorem lm219 : List.lookup ("place" : Str) (Scope.names (defScope st_least_numbers)) = some NameKind.local := by decide +kernel
theorem lm220 {P : Program} {w : World} {K : PySem.W.Frag} {mg : Str → Option Value} {base : Heap} {f : Addr} : ∀ k, Vis ((FX_least_numbers P w K mg base f).X k).env.scope "place" := fun _ => Or.inl lm219
theorem lm221 {P : Program} {w : World} {K : PySem.W.Frag} {mg : Str → Option Value} {base : Heap} {f : Addr} : ∀ k, Vis ((FX_least_numbers P w K mg base f).X k).env.scope "turn" := fun _ => Or.inl lm198
theorem lm222 : (("turn" : Str) == ("__debug__" : Str)) = false := by decide +kernel
theorem lm223 : (("turn" : Str) == ("__classdict__" : Str)) = false := by decide +kernel
theorem lm224 : List.lookup ("self" : Str) (Scope.names (defScope st_DemandRing__init)) = some NameKind.local := by decide +kernel
theorem lm225 {P : Program} {w : World} {K : PySem.W.Frag} {mg : Str → Option Value} {base : Heap} {f : Addr} : ∀ k, Vis ((FX_DemandRing__init P w K mg base f).X k).env.scope "self" := fun _ => Or.inl lm224
theorem lm226 : List.lookup ("indexes" : Str) (Scope.names (defScope st_DemandRing__init)) = some NameKind.local := by decide +kernel
theorem lm227 {P : Program} {w : World} {K : PySem.W.Frag} {mg : Str → Option Value} {base : Heap} {f : Addr} : ∀ k, Vis ((FX_DemandRing__init P w K mg base f).X k).env.scope "indexes" := fun _ => Or.inl lm226
theorem lm228 : (("indexes" : Str) == ("__debug__" : Str)) = false := by decide +kernel
theorem lm229 : (("indexes" : Str) == ("__classdict__" : Str)) = false := by decide +kernel
theorem lm230 : List.lookup ("ring_behind" : Str) (Scope.names (defScope st_least_numbers)) = some NameKind.globalImplicit := by decide +kernel
theorem lm231 {P : Program} {w : World} {K : PySem.W.Frag} {mg : Str → Option Value} {base : Heap} {f : Addr} : ∀ k, Gl ((FX_least_numbers P w K mg base f).X k) "ring_behind" := fun _ => lm230
theorem lm232 : (("ring_behind" : Str) == ("__debug__" : Str)) = false := by decide +kernel
theorem lm233 : List.lookup ("DemandRing" : Str) (Scope.names (defScope st_least_numbers)) = some NameKind.globalImplicit := by decide +kernel
theorem lm234 {P : Program} {w : World} {K : PySem.W.Frag} {mg : Str → Option Value} {base : Heap} {f : Addr} : ∀ k, Gl ((FX_least_numbers P w K mg base f).X k) "DemandRing" := fun _ => lm233
theorem lm235 : (("DemandRing" : Str) == ("__debug__" : Str)) = false := by decide +kernel
theorem lm236 {P : Program} {w : World} {K : PySem.W.Frag} {mg : Str → Option Value} {base : Heap} {f : Addr} : ∀ k, Loc ((FX_least_numbers P w K mg base f).X k).env.scope "changed" := fun _ => Or.inl lm201
theorem lm237 {P : Program} {w : World} {K : PySem.W.Frag} {mg : Str → Option Value} {base : Heap} {f : Addr} : ∀ k, ((FX_least_numbers P w K mg base f).X k).fn "changed" = true ∨ List.lookup ("changed" : Str) ((FX_least_numbers P w K mg base f).X k).env.scope.names = some NameKind.local := fun _ => Or.inr lm201
theorem lm238 {P : Program} {w : World} {K : PySem.W.Frag} {mg : Str → Option Value} {base : Heap} {f : Addr} : ∀ k, Vis ((FX_least_numbers P w K mg base f).X k).env.scope "index" := fun _ => Or.inl lm212
theorem lm239 {P : Program} {w : World} {K : PySem.W.Frag} {mg : Str → Option Value} {base : Heap} {f : Addr} : ∀ k, Vis ((FX_least_numbers P w K mg base f).X k).env.scope "demand" := fun _ => Or.inl lm209
theorem lm240 : List.lookup ("asked_number" : Str) (Scope.names (defScope st_least_numbers)) = some NameKind.globalImplicit := by decide +kernel
theorem lm241 {P : Program} {w : World} {K : PySem.W.Frag} {mg : Str → Option Value} {base : Heap} {f : Addr} : ∀ k, Gl ((FX_least_numbers P w K mg base f).X k) "asked_number" := fun _ => lm240
theorem lm242 : (("asked_number" : Str) == ("__debug__" : Str)) = false := by decide +kernel
theorem lm243 {P : Program} {w : World} {K : PySem.W.Frag} {mg : Str → Option Value} {base : Heap} {f : Addr} : ∀ k, Loc ((FX_least_numbers P w K mg base f).X k).env.scope "asked" := fun _ => Or.inl lm215
theorem lm244 {P : Program} {w : World} {K : PySem.W.Frag} {mg : Str → Option Value} {base : Heap} {f : Addr} : ∀ k, ((FX_least_numbers P w K mg base f).X k).fn "asked" = true ∨ List.lookup ("asked" : Str) ((FX_least_numbers P w K mg base f).X k).env.scope.names = some NameKind.local := fun _ => Or.inr lm215
theorem lm245 {P : Program} {w : World} {K : PySem.W.Frag} {mg : Str → Option Value} {base : Heap} {f : Addr} : ∀ k, Loc ((FX_least_numbers P w K mg base f).X k).env.scope "place" := fun _ => Or.inl lm219
theorem lm246 {P : Program} {w : World} {K : PySem.W.Frag} {mg : Str → Option Value} {base : Heap} {f : Addr} : ∀ k, ((FX_least_numbers P w K mg base f).X k).fn "place" = true ∨ List.lookup ("place" : Str) ((FX_least_numbers P w K mg base f).X k).env.scope.names = some NameKind.local := fun _ => Or.inr lm219
theorem lm247 {P : Program} {w : World} {K : PySem.W.Frag} {mg : Str → Option Value} {base : Heap} {f : Addr} : ∀ k, Loc ((blkF (FX_least_numbers P w K mg base f) bs_least_numbers_0).X k).env.scope "index" := fun _ => Or.inl (by kernel_rfl)
theorem lm248 {P : Program} {w : World} {K : PySem.W.Frag} {mg : Str → Option Value} {base : Heap} {f : Addr} : ∀ k, ((blkF (FX_least_numbers P w K mg base f) bs_least_numbers_0).X k).fn "index" = true ∨ List.lookup ("index" : Str) ((blkF (FX_least_numbers P w K mg base f) bs_least_numbers_0).X k).env.scope.names = some NameKind.local := fun _ => Or.inr (by kernel_rfl)
theorem lm249 {P : Program} {w : World} {K : PySem.W.Frag} {mg : Str → Option Value} {base : Heap} {f : Addr} : ∀ k, Vis ((blkF (FX_least_numbers P w K mg base f) bs_least_numbers_0).X k).env.scope "rows" := fun _ => Or.inr (Or.inl (by kernel_rfl))
theorem lm250 {P : Program} {w : World} {K : PySem.W.Frag} {mg : Str → Option Value} {base : Heap} {f : Addr} : ∀ k, Vis ((blkF (FX_least_numbers P w K mg base f) bs_least_numbers_0).X k).env.scope "index" := fun _ => Or.inl (by kernel_rfl)
theorem lm251 {P : Program} {w : World} {K : PySem.W.Frag} {mg : Str → Option Value} {base : Heap} {f : Addr} : ∀ k, List.lookup ("numbers" : Str) ((FX_least_numbers P w K mg base f).X k).env.scope.names = some NameKind.local := fun _ => lm189
theorem lm252 : List.lookup ("greatest_roots" : Str) (Scope.names (defScope st_least_numbers)) = some NameKind.globalImplicit := by decide +kernel
theorem lm253 {P : Program} {w : World} {K : PySem.W.Frag} {mg : Str → Option Value} {base : Heap} {f : Addr} : ∀ k, Gl ((FX_least_numbers P w K mg base f).X k) "greatest_roots" := fun _ => lm252
theorem lm254 : (("greatest_roots" : Str) == ("__debug__" : Str)) = false := by decide +kernel
theorem lm255 {P : Program} {w : World} {K : PySem.W.Frag} {mg : Str → Option Value} {base : Heap} {f : Addr} : ∀ k, Loc ((FX_least_numbers P w K mg base f).X k).env.scope "reasons" := fun _ => Or.inl lm185
theorem lm256 {P : Program} {w : World} {K : PySem.W.Frag} {mg : Str → Option Value} {base : Heap} {f : Addr} : ∀ k, ((FX_least_numbers P w K mg base f).X k).fn "reasons" = true ∨ List.lookup ("reasons" : Str) ((FX_least_numbers P w K mg base f).X k).env.scope.names = some NameKind.local := fun _ => Or.inr lm185
theorem lm257 : List.lookup ("demands" : Str) (Scope.names (defScope st_least_numbers)) = some NameKind.local := by decide +kernel
theorem lm258 {P : Program} {w : World} {K : PySem.W.Frag} {mg : Str → Option Value} {base : Heap} {f : Addr} : ∀ k, Vis ((FX_least_numbers P w K mg base f).X k).env.scope "demands" := fun _ => Or.inl lm257
theorem lm259 : List.lookup ("check_demands" : Str) (Scope.names (defScope st_least_numbers)) = some NameKind.globalImplicit := by decide +kernel
theorem lm260 {P : Program} {w : World} {K : PySem.W.Frag} {mg : Str → Option Value} {base : Heap} {f : Addr} : ∀ k, Gl ((FX_least_numbers P w K mg base f).X k) "check_demands" := fun _ => lm259
theorem lm261 : (("check_demands" : Str) == ("__debug__" : Str)) = false := by decide +kernel
theorem lm262 {P : Program} {w : World} {K : PySem.W.Frag} {mg : Str → Option Value} {base : Heap} {f : Addr} : ∀ k, Loc ((FX_least_numbers P w K mg base f).X k).env.scope "rows" := fun _ => Or.inr lm205
theorem lm263 {P : Program} {w : World} {K : PySem.W.Frag} {mg : Str → Option Value} {base : Heap} {f : Addr} : ∀ k, ((FX_least_numbers P w K mg base f).X k).fn "rows" = true ∨ List.lookup ("rows" : Str) ((FX_least_numbers P w K mg base f).X k).env.scope.names = some NameKind.local := fun _ => Or.inl (show (List.lookup ("rows" : Str) (Scope.names (defScope st_least_numbers)) == some NameKind.cell) = true by rw [lm205]; rfl)
theorem lm264 : List.lookup ("thing" : Str) (Scope.names (defScope st_is_number_row)) = some NameKind.local := by decide +kernel
theorem lm265 {P : Program} {w : World} {K : PySem.W.Frag} {mg : Str → Option Value} {base : Heap} {f : Addr} : ∀ k, Vis ((FX_is_number_row P w K mg base f).X k).env.scope "thing" := fun _ => Or.inl lm264
theorem lm266 {P : Program} {w : World} {K : PySem.W.Frag} {mg : Str → Option Value} {base : Heap} {f : Addr} : ∀ k, Loc ((blkF (FX_is_number_row P w K mg base f) bs_is_number_row_0).X k).env.scope "item" := fun _ => Or.inl (by kernel_rfl)
theorem lm267 {P : Program} {w : World} {K : PySem.W.Frag} {mg : Str → Option Value} {base : Heap} {f : Addr} : ∀ k, ((blkF (FX_is_number_row P w K mg base f) bs_is_number_row_0).X k).fn "item" = true ∨ List.lookup ("item" : Str) ((blkF (FX_is_number_row P w K mg base f) bs_is_number_row_0).X k).env.scope.names = some NameKind.local := fun _ => Or.inr (by kernel_rfl)
theorem lm268 {P : Program} {w : World} {K : PySem.W.Frag} {mg : Str → Option Value} {base : Heap} {f : Addr} : ∀ k, Gl ((blkF (FX_is_number_row P w K mg base f) bs_is_number_row_0).X k) "int" := fun _ => (by unfold Gl; kernel_rfl)
theorem lm269 {P : Program} {w : World} {K : PySem.W.Frag} {mg : Str → Option Value} {base : Heap} {f : Addr} : ∀ k, Vis ((blkF (FX_is_number_row P w K mg base f) bs_is_number_row_0).X k).env.scope "item" := fun _ => Or.inl (by kernel_rfl)
theorem lm270 : (("item" : Str) == ("__debug__" : Str)) = false := by decide +kernel
theorem lm271 : (("item" : Str) == ("__classdict__" : Str)) = false := by decide +kernel
theorem lm272 {P : Program} {w : World} {K : PySem.W.Frag} {mg : Str → Option Value} {base : Heap} {f : Addr} : ∀ k, Gl ((blkF (FX_is_number_row P w K mg base f) bs_is_number_row_0).X k) "isinstance" := fun _ => (by unfold Gl; kernel_rfl)
theorem lm273 {P : Program} {w : World} {K : PySem.W.Frag} {mg : Str → Option Value} {base : Heap} {f : Addr} : ∀ k, Gl ((blkF (FX_is_number_row P w K mg base f) bs_is_number_row_0).X k) "bool" := fun _ => (by unfold Gl; kernel_rfl)
theorem lm274 : List.lookup ("all" : Str) (Scope.names (defScope st_is_number_row)) = some NameKind.globalImplicit := by decide +kernel
theorem lm275 {P : Program} {w : World} {K : PySem.W.Frag} {mg : Str → Option Value} {base : Heap} {f : Addr} : ∀ k, Gl ((FX_is_number_row P w K mg base f).X k) "all" := fun _ => lm274
theorem lm276 : List.lookup ("tuple" : Str) (Scope.names (defScope st_is_number_row)) = some NameKind.globalImplicit := by decide +kernel
theorem lm277 {P : Program} {w : World} {K : PySem.W.Frag} {mg : Str → Option Value} {base : Heap} {f : Addr} : ∀ k, Gl ((FX_is_number_row P w K mg base f).X k) "tuple" := fun _ => lm276
theorem lm278 : List.lookup ("isinstance" : Str) (Scope.names (defScope st_is_number_row)) = some NameKind.globalImplicit := by decide +kernel
theorem lm279 {P : Program} {w : World} {K : PySem.W.Frag} {mg : Str → Option Value} {base : Heap} {f : Addr} : ∀ k, Gl ((FX_is_number_row P w K mg base f).X k) "isinstance" := fun _ => lm278
theorem lm280 : List.lookup ("len" : Str) (Scope.names (defScope st_is_number_row)) = some NameKind.globalImplicit := by decide +kernel
theorem lm281 {P : Program} {w : World} {K : PySem.W.Frag} {mg : Str → Option Value} {base : Heap} {f : Addr} : ∀ k, Gl ((FX_is_number_row P w K mg base f).X k) "len" := fun _ => lm280
theorem lm282 : List.lookup ("many" : Str) (Scope.names (defScope st_is_number_row)) = some NameKind.local := by decide +kernel
theorem lm283 {P : Program} {w : World} {K : PySem.W.Frag} {mg : Str → Option Value} {base : Heap} {f : Addr} : ∀ k, Vis ((FX_is_number_row P w K mg base f).X k).env.scope "many" := fun _ => Or.inl lm282
theorem lm284 : (("many" : Str) == ("__debug__" : Str)) = false := by decide +kernel
theorem lm285 : (("many" : Str) == ("__classdict__" : Str)) = false := by decide +kernel
theorem lm286 : List.lookup ("count" : Str) (Scope.names (defScope st_least_fault)) = some NameKind.local := by decide +kernel
theorem lm287 {P : Program} {w : World} {K : PySem.W.Frag} {mg : Str → Option Value} {base : Heap} {f : Addr} : ∀ k, Vis ((FX_least_fault P w K mg base f).X k).env.scope "count" := fun _ => Or.inl lm286
theorem lm288 : List.lookup ("range" : Str) (Scope.names (defScope st_least_fault)) = some NameKind.globalImplicit := by decide +kernel
theorem lm289 {P : Program} {w : World} {K : PySem.W.Frag} {mg : Str → Option Value} {base : Heap} {f : Addr} : ∀ k, Gl ((FX_least_fault P w K mg base f).X k) "range" := fun _ => lm288
theorem lm290 : List.lookup ("place" : Str) (Scope.names (defScope st_least_fault)) = some NameKind.local := by decide +kernel
theorem lm291 {P : Program} {w : World} {K : PySem.W.Frag} {mg : Str → Option Value} {base : Heap} {f : Addr} : ∀ k, Loc ((FX_least_fault P w K mg base f).X k).env.scope "place" := fun _ => Or.inl lm290
theorem lm292 {P : Program} {w : World} {K : PySem.W.Frag} {mg : Str → Option Value} {base : Heap} {f : Addr} : ∀ k, ((FX_least_fault P w K mg base f).X k).fn "place" = true ∨ List.lookup ("place" : Str) ((FX_least_fault P w K mg base f).X k).env.scope.names = some NameKind.local := fun _ => Or.inr lm290
theorem lm293 : List.lookup ("at" : Str) (Scope.names (defScope st_least_fault)) = some NameKind.local := by decide +kernel
theorem lm294 {P : Program} {w : World} {K : PySem.W.Frag} {mg : Str → Option Value} {base : Heap} {f : Addr} : ∀ k, Vis ((FX_least_fault P w K mg base f).X k).env.scope "at" := fun _ => Or.inl lm293
theorem lm295 : List.lookup ("_" : Str) (Scope.names (defScope st_least_fault)) = some NameKind.local := by decide +kernel
theorem lm296 {P : Program} {w : World} {K : PySem.W.Frag} {mg : Str → Option Value} {base : Heap} {f : Addr} : ∀ k, Loc ((FX_least_fault P w K mg base f).X k).env.scope "_" := fun _ => Or.inl lm295
theorem lm297 {P : Program} {w : World} {K : PySem.W.Frag} {mg : Str → Option Value} {base : Heap} {f : Addr} : ∀ k, ((FX_least_fault P w K mg base f).X k).fn "_" = true ∨ List.lookup ("_" : Str) ((FX_least_fault P w K mg base f).X k).env.scope.names = some NameKind.local := fun _ => Or.inr lm295
theorem lm298 : List.lookup ("rows" : Str) (Scope.names (defScope st_least_fault)) = some NameKind.local := by decide +kernel
theorem lm299 {P : Program} {w : World} {K : PySem.W.Frag} {mg : Str → Option Value} {base : Heap} {f : Addr} : ∀ k, Vis ((FX_least_fault P w K mg base f).X k).env.scope "rows" := fun _ => Or.inl lm298
theorem lm300 : List.lookup ("least" : Str) (Scope.names (defScope st_least_fault)) = some NameKind.local := by decide +kernel
theorem lm301 {P : Program} {w : World} {K : PySem.W.Frag} {mg : Str → Option Value} {base : Heap} {f : Addr} : ∀ k, Vis ((FX_least_fault P w K mg base f).X k).env.scope "least" := fun _ => Or.inl lm300
theorem lm302 {P : Program} {w : World} {K : PySem.W.Frag} {mg : Str → Option Value} {base : Heap} {f : Addr} : ∀ k, Loc ((FX_least_fault P w K mg base f).X k).env.scope "at" := fun _ => Or.inl lm293
theorem lm303 {P : Program} {w : World} {K : PySem.W.Frag} {mg : Str → Option Value} {base : Heap} {f : Addr} : ∀ k, ((FX_least_fault P w K mg base f).X k).fn "at" = true ∨ List.lookup ("at" : Str) ((FX_least_fault P w K mg base f).X k).env.scope.names = some NameKind.local := fun _ => Or.inr lm293
theorem lm304 {P : Program} {w : World} {K : PySem.W.Frag} {mg : Str → Option Value} {base : Heap} {f : Addr} : ∀ k, Vis ((FX_least_fault P w K mg base f).X k).env.scope "place" := fun _ => Or.inl lm290
theorem lm305 : List.lookup ("enumerate" : Str) (Scope.names (defScope st_least_fault)) = some NameKind.globalImplicit := by decide +kernel
theorem lm306 {P : Program} {w : World} {K : PySem.W.Frag} {mg : Str → Option Value} {base : Heap} {f : Addr} : ∀ k, Gl ((FX_least_fault P w K mg base f).X k) "enumerate" := fun _ => lm305
theorem lm307 : List.lookup ("reason" : Str) (Scope.names (defScope st_least_fault)) = some NameKind.local := by decide +kernel
theorem lm308 {P : Program} {w : World} {K : PySem.W.Frag} {mg : Str → Option Value} {base : Heap} {f : Addr} : ∀ k, Loc ((FX_least_fault P w K mg base f).X k).env.scope "reason" := fun _ => Or.inl lm307
theorem lm309 {P : Program} {w : World} {K : PySem.W.Frag} {mg : Str → Option Value} {base : Heap} {f : Addr} : ∀ k, ((FX_least_fault P w K mg base f).X k).fn "reason" = true ∨ List.lookup ("reason" : Str) ((FX_least_fault P w K mg base f).X k).env.scope.names = some NameKind.local := fun _ => Or.inr lm307
theorem lm310 {P : Program} {w : World} {K : PySem.W.Frag} {mg : Str → Option Value} {base : Heap} {f : Addr} : ∀ k, Vis ((FX_least_fault P w K mg base f).X k).env.scope "reason" := fun _ => Or.inl lm307
theorem lm311 : (("reason" : Str) == ("__debug__" : Str)) = false := by decide +kernel
theorem lm312 : (("reason" : Str) == ("__classdict__" : Str)) = false := by decide +kernel
theorem lm313 : List.lookup ("asked_number" : Str) (Scope.names (defScope st_least_fault)) = some NameKind.globalImplicit := by decide +kernel
theorem lm314 {P : Program} {w : World} {K : PySem.W.Frag} {mg : Str → Option Value} {base : Heap} {f : Addr} : ∀ k, Gl ((FX_least_fault P w K mg base f).X k) "asked_number" := fun _ => lm313
theorem lm315 : List.lookup ("demand" : Str) (Scope.names (defScope st_least_fault)) = some NameKind.local := by decide +kernel
theorem lm316 {P : Program} {w : World} {K : PySem.W.Frag} {mg : Str → Option Value} {base : Heap} {f : Addr} : ∀ k, Loc ((FX_least_fault P w K mg base f).X k).env.scope "demand" := fun _ => Or.inl lm315
theorem lm317 {P : Program} {w : World} {K : PySem.W.Frag} {mg : Str → Option Value} {base : Heap} {f : Addr} : ∀ k, ((FX_least_fault P w K mg base f).X k).fn "demand" = true ∨ List.lookup ("demand" : Str) ((FX_least_fault P w K mg base f).X k).env.scope.names = some NameKind.local := fun _ => Or.inr lm315
theorem lm318 {P : Program} {w : World} {K : PySem.W.Frag} {mg : Str → Option Value} {base : Heap} {f : Addr} : ∀ k, Vis ((FX_least_fault P w K mg base f).X k).env.scope "demand" := fun _ => Or.inl lm315
theorem lm319 : List.lookup ("len" : Str) (Scope.names (defScope st_least_fault)) = some NameKind.globalImplicit := by decide +kernel
theorem lm320 {P : Program} {w : World} {K : PySem.W.Frag} {mg : Str → Option Value} {base : Heap} {f : Addr} : ∀ k, Gl ((FX_least_fault P w K mg base f).X k) "len" := fun _ => lm319
theorem lm321 : List.lookup ("is_number_row" : Str) (Scope.names (defScope st_least_fault)) = some NameKind.globalImplicit := by decide +kernel
theorem lm322 {P : Program} {w : World} {K : PySem.W.Frag} {mg : Str → Option Value} {base : Heap} {f : Addr} : ∀ k, Gl ((FX_least_fault P w K mg base f).X k) "is_number_row" := fun _ => lm321
theorem lm323 : (("is_number_row" : Str) == ("__debug__" : Str)) = false := by decide +kernel
theorem lm324 : List.lookup ("demands" : Str) (Scope.names (defScope st_least_fault)) = some NameKind.local := by decide +kernel
theorem lm325 {P : Program} {w : World} {K : PySem.W.Frag} {mg : Str → Option Value} {base : Heap} {f : Addr} : ∀ k, Vis ((FX_least_fault P w K mg base f).X k).env.scope "demands" := fun _ => Or.inl lm324
theorem lm326 : List.lookup ("check_demands" : Str) (Scope.names (defScope st_least_fault)) = some NameKind.globalImplicit := by decide +kernel
theorem lm327 {P : Program} {w : World} {K : PySem.W.Frag} {mg : Str → Option Value} {base : Heap} {f : Addr} : ∀ k, Gl ((FX_least_fault P w K mg base f).X k) "check_demands" := fun _ => lm326
theorem lm328 {P : Program} {w : World} {K : PySem.W.Frag} {mg : Str → Option Value} {base : Heap} {f : Addr} : ∀ k, Loc ((FX_least_fault P w K mg base f).X k).env.scope "rows" := fun _ => Or.inl lm298
theorem lm329 {P : Program} {w : World} {K : PySem.W.Frag} {mg : Str → Option Value} {base : Heap} {f : Addr} : ∀ k, ((FX_least_fault P w K mg base f).X k).fn "rows" = true ∨ List.lookup ("rows" : Str) ((FX_least_fault P w K mg base f).X k).env.scope.names = some NameKind.local := fun _ => Or.inr lm298
theorem lm330 : List.lookup ("indexes" : Str) (Scope.names (defScope st_ring_fault)) = some NameKind.local := by decide +kernel
theorem lm331 {P : Program} {w : World} {K : PySem.W.Frag} {mg : Str → Option Value} {base : Heap} {f : Addr} : ∀ k, Vis ((FX_ring_fault P w K mg base f).X k).env.scope "indexes" := fun _ => Or.inl lm330
theorem lm332 {P : Program} {w : World} {K : PySem.W.Frag} {mg : Str → Option Value} {base : Heap} {f : Addr} : ∀ k, Loc ((blkF (FX_ring_fault P w K mg base f) bs_ring_fault_0).X k).env.scope "index" := fun _ => Or.inl (by kernel_rfl)
theorem lm333 {P : Program} {w : World} {K : PySem.W.Frag} {mg : Str → Option Value} {base : Heap} {f : Addr} : ∀ k, ((blkF (FX_ring_fault P w K mg base f) bs_ring_fault_0).X k).fn "index" = true ∨ List.lookup ("index" : Str) ((blkF (FX_ring_fault P w K mg base f) bs_ring_fault_0).X k).env.scope.names = some NameKind.local := fun _ => Or.inr (by kernel_rfl)
theorem lm334 {P : Program} {w : World} {K : PySem.W.Frag} {mg : Str → Option Value} {base : Heap} {f : Addr} : ∀ k, Vis ((blkF (FX_ring_fault P w K mg base f) bs_ring_fault_0).X k).env.scope "rows" := fun _ => Or.inr (Or.inl (by kernel_rfl))
theorem lm335 {P : Program} {w : World} {K : PySem.W.Frag} {mg : Str → Option Value} {base : Heap} {f : Addr} : ∀ k, Vis ((blkF (FX_ring_fault P w K mg base f) bs_ring_fault_0).X k).env.scope "index" := fun _ => Or.inl (by kernel_rfl)
theorem lm336 : List.lookup ("sum" : Str) (Scope.names (defScope st_ring_fault)) = some NameKind.globalImplicit := by decide +kernel
theorem lm337 {P : Program} {w : World} {K : PySem.W.Frag} {mg : Str → Option Value} {base : Heap} {f : Addr} : ∀ k, Gl ((FX_ring_fault P w K mg base f).X k) "sum" := fun _ => lm336
theorem lm338 : List.lookup ("enumerate" : Str) (Scope.names (defScope st_ring_fault)) = some NameKind.globalImplicit := by decide +kernel
theorem lm339 {P : Program} {w : World} {K : PySem.W.Frag} {mg : Str → Option Value} {base : Heap} {f : Addr} : ∀ k, Gl ((FX_ring_fault P w K mg base f).X k) "enumerate" := fun _ => lm338
theorem lm340 : List.lookup ("index" : Str) (Scope.names (defScope st_ring_fault)) = some NameKind.local := by decide +kernel
theorem lm341 {P : Program} {w : World} {K : PySem.W.Frag} {mg : Str → Option Value} {base : Heap} {f : Addr} : ∀ k, Loc ((FX_ring_fault P w K mg base f).X k).env.scope "index" := fun _ => Or.inl lm340
theorem lm342 {P : Program} {w : World} {K : PySem.W.Frag} {mg : Str → Option Value} {base : Heap} {f : Addr} : ∀ k, ((FX_ring_fault P w K mg base f).X k).fn "index" = true ∨ List.lookup ("index" : Str) ((FX_ring_fault P w K mg base f).X k).env.scope.names = some NameKind.local := fun _ => Or.inr lm340
theorem lm343 : List.lookup ("at" : Str) (Scope.names (defScope st_ring_fault)) = some NameKind.local := by decide +kernel
theorem lm344 {P : Program} {w : World} {K : PySem.W.Frag} {mg : Str → Option Value} {base : Heap} {f : Addr} : ∀ k, Loc ((FX_ring_fault P w K mg base f).X k).env.scope "at" := fun _ => Or.inl lm343
theorem lm345 {P : Program} {w : World} {K : PySem.W.Frag} {mg : Str → Option Value} {base : Heap} {f : Addr} : ∀ k, ((FX_ring_fault P w K mg base f).X k).fn "at" = true ∨ List.lookup ("at" : Str) ((FX_ring_fault P w K mg base f).X k).env.scope.names = some NameKind.local := fun _ => Or.inr lm343
theorem lm346 : List.lookup ("rows" : Str) (Scope.names (defScope st_ring_fault)) = some NameKind.cell := by decide +kernel
theorem lm347 {P : Program} {w : World} {K : PySem.W.Frag} {mg : Str → Option Value} {base : Heap} {f : Addr} : ∀ k, Vis ((FX_ring_fault P w K mg base f).X k).env.scope "rows" := fun _ => Or.inr (Or.inl lm346)
theorem lm348 {P : Program} {w : World} {K : PySem.W.Frag} {mg : Str → Option Value} {base : Heap} {f : Addr} : ∀ k, Vis ((FX_ring_fault P w K mg base f).X k).env.scope "index" := fun _ => Or.inl lm340
theorem lm349 {P : Program} {w : World} {K : PySem.W.Frag} {mg : Str → Option Value} {base : Heap} {f : Addr} : ∀ k, Vis ((FX_ring_fault P w K mg base f).X k).env.scope "at" := fun _ => Or.inl lm343
theorem lm350 : List.lookup ("len" : Str) (Scope.names (defScope st_ring_fault)) = some NameKind.globalImplicit := by decide +kernel
theorem lm351 {P : Program} {w : World} {K : PySem.W.Frag} {mg : Str → Option Value} {base : Heap} {f : Addr} : ∀ k, Gl ((FX_ring_fault P w K mg base f).X k) "len" := fun _ => lm350
theorem lm352 : List.lookup ("tuple" : Str) (Scope.names (defScope st_ring_fault)) = some NameKind.globalImplicit := by decide +kernel
theorem lm353 {P : Program} {w : World} {K : PySem.W.Frag} {mg : Str → Option Value} {base : Heap} {f : Addr} : ∀ k, Gl ((FX_ring_fault P w K mg base f).X k) "tuple" := fun _ => lm352
theorem lm354 : List.lookup ("isinstance" : Str) (Scope.names (defScope st_ring_fault)) = some NameKind.globalImplicit := by decide +kernel
theorem lm355 {P : Program} {w : World} {K : PySem.W.Frag} {mg : Str → Option Value} {base : Heap} {f : Addr} : ∀ k, Gl ((FX_ring_fault P w K mg base f).X k) "isinstance" := fun _ => lm354
theorem lm356 : List.lookup ("is_number_row" : Str) (Scope.names (defScope st_ring_fault)) = some NameKind.globalImplicit := by decide +kernel
theorem lm357 {P : Program} {w : World} {K : PySem.W.Frag} {mg : Str → Option Value} {base : Heap} {f : Addr} : ∀ k, Gl ((FX_ring_fault P w K mg base f).X k) "is_number_row" := fun _ => lm356
theorem lm358 : List.lookup ("ring" : Str) (Scope.names (defScope st_ring_fault)) = some NameKind.local := by decide +kernel
theorem lm359 {P : Program} {w : World} {K : PySem.W.Frag} {mg : Str → Option Value} {base : Heap} {f : Addr} : ∀ k, Vis ((FX_ring_fault P w K mg base f).X k).env.scope "ring" := fun _ => Or.inl lm358
theorem lm360 {P : Program} {w : World} {K : PySem.W.Frag} {mg : Str → Option Value} {base : Heap} {f : Addr} : ∀ k, Loc ((FX_ring_fault P w K mg base f).X k).env.scope "indexes" := fun _ => Or.inl lm330
theorem lm361 {P : Program} {w : World} {K : PySem.W.Frag} {mg : Str → Option Value} {base : Heap} {f : Addr} : ∀ k, ((FX_ring_fault P w K mg base f).X k).fn "indexes" = true ∨ List.lookup ("indexes" : Str) ((FX_ring_fault P w K mg base f).X k).env.scope.names = some NameKind.local := fun _ => Or.inr lm330
theorem lm362 : List.lookup ("demands" : Str) (Scope.names (defScope st_ring_fault)) = some NameKind.local := by decide +kernel
theorem lm363 {P : Program} {w : World} {K : PySem.W.Frag} {mg : Str → Option Value} {base : Heap} {f : Addr} : ∀ k, Vis ((FX_ring_fault P w K mg base f).X k).env.scope "demands" := fun _ => Or.inl lm362
theorem lm364 : List.lookup ("count" : Str) (Scope.names (defScope st_ring_fault)) = some NameKind.local := by decide +kernel
theorem lm365 {P : Program} {w : World} {K : PySem.W.Frag} {mg : Str → Option Value} {base : Heap} {f : Addr} : ∀ k, Vis ((FX_ring_fault P w K mg base f).X k).env.scope "count" := fun _ => Or.inl lm364
theorem lm366 : List.lookup ("check_demands" : Str) (Scope.names (defScope st_ring_fault)) = some NameKind.globalImplicit := by decide +kernel
theorem lm367 {P : Program} {w : World} {K : PySem.W.Frag} {mg : Str → Option Value} {base : Heap} {f : Addr} : ∀ k, Gl ((FX_ring_fault P w K mg base f).X k) "check_demands" := fun _ => lm366
theorem lm368 {P : Program} {w : World} {K : PySem.W.Frag} {mg : Str → Option Value} {base : Heap} {f : Addr} : ∀ k, Loc ((FX_ring_fault P w K mg base f).X k).env.scope "rows" := fun _ => Or.inr lm346
theorem lm369 {P : Program} {w : World} {K : PySem.W.Frag} {mg : Str → Option Value} {base : Heap} {f : Addr} : ∀ k, ((FX_ring_fault P w K mg base f).X k).fn "rows" = true ∨ List.lookup ("rows" : Str) ((FX_ring_fault P w K mg base f).X k).env.scope.names = some NameKind.local := fun _ => Or.inl (show (List.lookup ("rows" : Str) (Scope.names (defScope st_ring_fault)) == some NameKind.cell) = true by rw [lm346]; rfl)
theorem lm370 : List.lookup ("_law_total" : Str) (Scope.names (defScope st_law_hand)) = some NameKind.local := by decide +kernel
theorem lm371 {P : Program} {w : World} {K : PySem.W.Frag} {mg : Str → Option Value} {base : Heap} {f : Addr} : ∀ k, Vis ((FX_law_hand P w K mg base f).X k).env.scope "_law_total" := fun _ => Or.inl lm370
theorem lm372 : (("_law_total" : Str) == ("__debug__" : Str)) = false := by decide +kernel
theorem lm373 : (("_law_total" : Str) == ("__classdict__" : Str)) = false := by decide +kernel
theorem lm374 : List.lookup ("_law_cells" : Str) (Scope.names (defScope st_law_hand)) = some NameKind.local := by decide +kernel
theorem lm375 {P : Program} {w : World} {K : PySem.W.Frag} {mg : Str → Option Value} {base : Heap} {f : Addr} : ∀ k, Vis ((FX_law_hand P w K mg base f).X k).env.scope "_law_cells" := fun _ => Or.inl lm374
theorem lm376 : (("_law_cells" : Str) == ("__debug__" : Str)) = false := by decide +kernel
theorem lm377 : (("_law_cells" : Str) == ("__classdict__" : Str)) = false := by decide +kernel
theorem lm378 : List.lookup ("_law_script" : Str) (Scope.names (defScope st_law_hand)) = some NameKind.local := by decide +kernel
theorem lm379 {P : Program} {w : World} {K : PySem.W.Frag} {mg : Str → Option Value} {base : Heap} {f : Addr} : ∀ k, Vis ((FX_law_hand P w K mg base f).X k).env.scope "_law_script" := fun _ => Or.inl lm378
theorem lm380 : (("_law_script" : Str) == ("__debug__" : Str)) = false := by decide +kernel
theorem lm381 : (("_law_script" : Str) == ("__classdict__" : Str)) = false := by decide +kernel
theorem lm382 : List.lookup ("_law_cell" : Str) (Scope.names (defScope st_law_hand)) = some NameKind.local := by decide +kernel
theorem lm383 {P : Program} {w : World} {K : PySem.W.Frag} {mg : Str → Option Value} {base : Heap} {f : Addr} : ∀ k, Loc ((FX_law_hand P w K mg base f).X k).env.scope "_law_cell" := fun _ => Or.inl lm382
theorem lm384 {P : Program} {w : World} {K : PySem.W.Frag} {mg : Str → Option Value} {base : Heap} {f : Addr} : ∀ k, ((FX_law_hand P w K mg base f).X k).fn "_law_cell" = true ∨ List.lookup ("_law_cell" : Str) ((FX_law_hand P w K mg base f).X k).env.scope.names = some NameKind.local := fun _ => Or.inr lm382
theorem lm385 {P : Program} {w : World} {K : PySem.W.Frag} {mg : Str → Option Value} {base : Heap} {f : Addr} : ∀ k, Vis ((FX_law_hand P w K mg base f).X k).env.scope "_law_cell" := fun _ => Or.inl lm382
theorem lm386 : (("_law_cell" : Str) == ("__debug__" : Str)) = false := by decide +kernel
theorem lm387 : (("_law_cell" : Str) == ("__classdict__" : Str)) = false := by decide +kernel
theorem lm388 : List.lookup ("int" : Str) (Scope.names (defScope st_law_hand)) = some NameKind.globalImplicit := by decide +kernel
theorem lm389 {P : Program} {w : World} {K : PySem.W.Frag} {mg : Str → Option Value} {base : Heap} {f : Addr} : ∀ k, Gl ((FX_law_hand P w K mg base f).X k) "int" := fun _ => lm388
theorem lm390 : List.lookup ("abs" : Str) (Scope.names (defScope st_law_hand)) = some NameKind.globalImplicit := by decide +kernel
theorem lm391 {P : Program} {w : World} {K : PySem.W.Frag} {mg : Str → Option Value} {base : Heap} {f : Addr} : ∀ k, Gl ((FX_law_hand P w K mg base f).X k) "abs" := fun _ => lm390
theorem lm392 {P : Program} {w : World} {K : PySem.W.Frag} {mg : Str → Option Value} {base : Heap} {f : Addr} : ∀ k, Loc ((FX_law_hand P w K mg base f).X k).env.scope "_law_total" := fun _ => Or.inl lm370
theorem lm393 {P : Program} {w : World} {K : PySem.W.Frag} {mg : Str → Option Value} {base : Heap} {f : Addr} : ∀ k, ((FX_law_hand P w K mg base f).X k).fn "_law_total" = true ∨ List.lookup ("_law_total" : Str) ((FX_law_hand P w K mg base f).X k).env.scope.names = some NameKind.local := fun _ => Or.inr lm370
theorem lm394 {P : Program} {w : World} {K : PySem.W.Frag} {mg : Str → Option Value} {base : Heap} {f : Addr} : ∀ k, Loc ((FX_law_hand P w K mg base f).X k).env.scope "_law_cells" := fun _ => Or.inl lm374
theorem lm395 {P : Program} {w : World} {K : PySem.W.Frag} {mg : Str → Option Value} {base : Heap} {f : Addr} : ∀ k, ((FX_law_hand P w K mg base f).X k).fn "_law_cells" = true ∨ List.lookup ("_law_cells" : Str) ((FX_law_hand P w K mg base f).X k).env.scope.names = some NameKind.local := fun _ => Or.inr lm374
theorem lm396 : List.lookup ("len" : Str) (Scope.names (defScope st_law_hand)) = some NameKind.globalImplicit := by decide +kernel
theorem lm397 {P : Program} {w : World} {K : PySem.W.Frag} {mg : Str → Option Value} {base : Heap} {f : Addr} : ∀ k, Gl ((FX_law_hand P w K mg base f).X k) "len" := fun _ => lm396
theorem lm398 : List.lookup ("_law_twice" : Str) (Scope.names (defScope st_law_mixed)) = some NameKind.local := by decide +kernel
theorem lm399 {P : Program} {w : World} {K : PySem.W.Frag} {mg : Str → Option Value} {base : Heap} {f : Addr} : ∀ k, Vis ((FX_law_mixed P w K mg base f).X k).env.scope "_law_twice" := fun _ => Or.inl lm398
theorem lm400 : (("_law_twice" : Str) == ("__debug__" : Str)) = false := by decide +kernel
theorem lm401 : (("_law_twice" : Str) == ("__classdict__" : Str)) = false := by decide +kernel
theorem lm402 : List.lookup ("_law_once" : Str) (Scope.names (defScope st_law_mixed)) = some NameKind.local := by decide +kernel
theorem lm403 {P : Program} {w : World} {K : PySem.W.Frag} {mg : Str → Option Value} {base : Heap} {f : Addr} : ∀ k, Vis ((FX_law_mixed P w K mg base f).X k).env.scope "_law_once" := fun _ => Or.inl lm402
theorem lm404 : (("_law_once" : Str) == ("__debug__" : Str)) = false := by decide +kernel
theorem lm405 : (("_law_once" : Str) == ("__classdict__" : Str)) = false := by decide +kernel
theorem lm406 : List.lookup ("int" : Str) (Scope.names (defScope st_law_mixed)) = some NameKind.globalImplicit := by decide +kernel
theorem lm407 {P : Program} {w : World} {K : PySem.W.Frag} {mg : Str → Option Value} {base : Heap} {f : Addr} : ∀ k, Gl ((FX_law_mixed P w K mg base f).X k) "int" := fun _ => lm406
theorem lm408 : List.lookup ("_law_turn" : Str) (Scope.names (defScope st_law_mixed)) = some NameKind.local := by decide +kernel
theorem lm409 {P : Program} {w : World} {K : PySem.W.Frag} {mg : Str → Option Value} {base : Heap} {f : Addr} : ∀ k, Vis ((FX_law_mixed P w K mg base f).X k).env.scope "_law_turn" := fun _ => Or.inl lm408
theorem lm410 : (("_law_turn" : Str) == ("__debug__" : Str)) = false := by decide +kernel
theorem lm411 : (("_law_turn" : Str) == ("__classdict__" : Str)) = false := by decide +kernel
theorem lm412 {P : Program} {w : World} {K : PySem.W.Frag} {mg : Str → Option Value} {base : Heap} {f : Addr} : ∀ k, Loc ((FX_law_mixed P w K mg base f).X k).env.scope "_law_twice" := fun _ => Or.inl lm398
theorem lm413 {P : Program} {w : World} {K : PySem.W.Frag} {mg : Str → Option Value} {base : Heap} {f : Addr} : ∀ k, ((FX_law_mixed P w K mg base f).X k).fn "_law_twice" = true ∨ List.lookup ("_law_twice" : Str) ((FX_law_mixed P w K mg base f).X k).env.scope.names = some NameKind.local := fun _ => Or.inr lm398
theorem lm414 : List.lookup ("_law_number" : Str) (Scope.names (defScope st_law_mixed)) = some NameKind.local := by decide +kernel
theorem lm415 {P : Program} {w : World} {K : PySem.W.Frag} {mg : Str → Option Value} {base : Heap} {f : Addr} : ∀ k, Vis ((FX_law_mixed P w K mg base f).X k).env.scope "_law_number" := fun _ => Or.inl lm414
theorem lm416 : (("_law_number" : Str) == ("__debug__" : Str)) = false := by decide +kernel
theorem lm417 : (("_law_number" : Str) == ("__classdict__" : Str)) = false := by decide +kernel
theorem lm418 {P : Program} {w : World} {K : PySem.W.Frag} {mg : Str → Option Value} {base : Heap} {f : Addr} : ∀ k, Loc ((FX_law_mixed P w K mg base f).X k).env.scope "_law_once" := fun _ => Or.inl lm402
theorem lm419 {P : Program} {w : World} {K : PySem.W.Frag} {mg : Str → Option Value} {base : Heap} {f : Addr} : ∀ k, ((FX_law_mixed P w K mg base f).X k).fn "_law_once" = true ∨ List.lookup ("_law_once" : Str) ((FX_law_mixed P w K mg base f).X k).env.scope.names = some NameKind.local := fun _ => Or.inr lm402
theorem lm420 : List.lookup ("_law_hand_here" : Str) (Scope.names (defScope st_law_take)) = some NameKind.local := by decide +kernel
theorem lm421 {P : Program} {w : World} {K : PySem.W.Frag} {mg : Str → Option Value} {base : Heap} {f : Addr} : ∀ k, Vis ((FX_law_take P w K mg base f).X k).env.scope "_law_hand_here" := fun _ => Or.inl lm420
theorem lm422 : (("_law_hand_here" : Str) == ("__debug__" : Str)) = false := by decide +kernel
theorem lm423 : (("_law_hand_here" : Str) == ("__classdict__" : Str)) = false := by decide +kernel
theorem lm424 : List.lookup ("_law_mixed" : Str) (Scope.names (defScope st_law_take)) = some NameKind.globalImplicit := by decide +kernel
theorem lm425 {P : Program} {w : World} {K : PySem.W.Frag} {mg : Str → Option Value} {base : Heap} {f : Addr} : ∀ k, Gl ((FX_law_take P w K mg base f).X k) "_law_mixed" := fun _ => lm424
theorem lm426 : (("_law_mixed" : Str) == ("__debug__" : Str)) = false := by decide +kernel
theorem lm427 : List.lookup ("int" : Str) (Scope.names (defScope st_law_take)) = some NameKind.globalImplicit := by decide +kernel
theorem lm428 {P : Program} {w : World} {K : PySem.W.Frag} {mg : Str → Option Value} {base : Heap} {f : Addr} : ∀ k, Gl ((FX_law_take P w K mg base f).X k) "int" := fun _ => lm427
theorem lm429 : List.lookup ("_law_many" : Str) (Scope.names (defScope st_law_take)) = some NameKind.local := by decide +kernel
theorem lm430 {P : Program} {w : World} {K : PySem.W.Frag} {mg : Str → Option Value} {base : Heap} {f : Addr} : ∀ k, Vis ((FX_law_take P w K mg base f).X k).env.scope "_law_many" := fun _ => Or.inl lm429
theorem lm431 : (("_law_many" : Str) == ("__debug__" : Str)) = false := by decide +kernel
theorem lm432 : (("_law_many" : Str) == ("__classdict__" : Str)) = false := by decide +kernel
theorem lm433 : List.lookup ("_law_rest" : Str) (Scope.names (defScope st_law_take)) = some NameKind.local := by decide +kernel
theorem lm434 {P : Program} {w : World} {K : PySem.W.Frag} {mg : Str → Option Value} {base : Heap} {f : Addr} : ∀ k, Vis ((FX_law_take P w K mg base f).X k).env.scope "_law_rest" := fun _ => Or.inl lm433
theorem lm435 : (("_law_rest" : Str) == ("__debug__" : Str)) = false := by decide +kernel
theorem lm436 : (("_law_rest" : Str) == ("__classdict__" : Str)) = false := by decide +kernel
theorem lm437 {P : Program} {w : World} {K : PySem.W.Frag} {mg : Str → Option Value} {base : Heap} {f : Addr} : ∀ k, Loc ((FX_law_take P w K mg base f).X k).env.scope "_law_rest" := fun _ => Or.inl lm433
theorem lm438 {P : Program} {w : World} {K : PySem.W.Frag} {mg : Str → Option Value} {base : Heap} {f : Addr} : ∀ k, ((FX_law_take P w K mg base f).X k).fn "_law_rest" = true ∨ List.lookup ("_law_rest" : Str) ((FX_law_take P w K mg base f).X k).env.scope.names = some NameKind.local := fun _ => Or.inr lm433
theorem lm439 : List.lookup ("len" : Str) (Scope.names (defScope st_law_take)) = some NameKind.globalImplicit := by decide +kernel
theorem lm440 {P : Program} {w : World} {K : PySem.W.Frag} {mg : Str → Option Value} {base : Heap} {f : Addr} : ∀ k, Gl ((FX_law_take P w K mg base f).X k) "len" := fun _ => lm439
theorem lm441 : List.lookup ("_law_cell" : Str) (Scope.names (defScope st_law_take)) = some NameKind.local := by decide +kernel
theorem lm442 {P : Program} {w : World} {K : PySem.W.Frag} {mg : Str → Option Value} {base : Heap} {f : Addr} : ∀ k, Vis ((FX_law_take P w K mg base f).X k).env.scope "_law_cell" := fun _ => Or.inl lm441
theorem lm443 {P : Program} {w : World} {K : PySem.W.Frag} {mg : Str → Option Value} {base : Heap} {f : Addr} : ∀ k, Loc ((FX_law_take P w K mg base f).X k).env.scope "_law_cell" := fun _ => Or.inl lm441
theorem lm444 {P : Program} {w : World} {K : PySem.W.Frag} {mg : Str → Option Value} {base : Heap} {f : Addr} : ∀ k, ((FX_law_take P w K mg base f).X k).fn "_law_cell" = true ∨ List.lookup ("_law_cell" : Str) ((FX_law_take P w K mg base f).X k).env.scope.names = some NameKind.local := fun _ => Or.inr lm441
theorem lm445 : List.lookup ("_law_hand_here" : Str) (Scope.names (defScope st_law_lists)) = some NameKind.local := by decide +kernel
theorem lm446 {P : Program} {w : World} {K : PySem.W.Frag} {mg : Str → Option Value} {base : Heap} {f : Addr} : ∀ k, Vis ((FX_law_lists P w K mg base f).X k).env.scope "_law_hand_here" := fun _ => Or.inl lm445
theorem lm447 : List.lookup ("_law_take" : Str) (Scope.names (defScope st_law_lists)) = some NameKind.globalImplicit := by decide +kernel
theorem lm448 {P : Program} {w : World} {K : PySem.W.Frag} {mg : Str → Option Value} {base : Heap} {f : Addr} : ∀ k, Gl ((FX_law_lists P w K mg base f).X k) "_law_take" := fun _ => lm447
theorem lm449 : (("_law_take" : Str) == ("__debug__" : Str)) = false := by decide +kernel
theorem lm450 : List.lookup ("_law_thing" : Str) (Scope.names (defScope st_law_lists)) = some NameKind.local := by decide +kernel
theorem lm451 {P : Program} {w : World} {K : PySem.W.Frag} {mg : Str → Option Value} {base : Heap} {f : Addr} : ∀ k, Vis ((FX_law_lists P w K mg base f).X k).env.scope "_law_thing" := fun _ => Or.inl lm450
theorem lm452 : (("_law_thing" : Str) == ("__debug__" : Str)) = false := by decide +kernel
theorem lm453 : (("_law_thing" : Str) == ("__classdict__" : Str)) = false := by decide +kernel
theorem lm454 : List.lookup ("list" : Str) (Scope.names (defScope st_law_lists)) = some NameKind.globalImplicit := by decide +kernel
theorem lm455 {P : Program} {w : World} {K : PySem.W.Frag} {mg : Str → Option Value} {base : Heap} {f : Addr} : ∀ k, Gl ((FX_law_lists P w K mg base f).X k) "list" := fun _ => lm454
theorem lm456 : List.lookup ("tuple" : Str) (Scope.names (defScope st_law_lists)) = some NameKind.globalImplicit := by decide +kernel
theorem lm457 {P : Program} {w : World} {K : PySem.W.Frag} {mg : Str → Option Value} {base : Heap} {f : Addr} : ∀ k, Gl ((FX_law_lists P w K mg base f).X k) "tuple" := fun _ => lm456
theorem lm458 : List.lookup ("_law_thing" : Str) (Scope.names (defScope st_law_row_of)) = some NameKind.local := by decide +kernel
theorem lm459 {P : Program} {w : World} {K : PySem.W.Frag} {mg : Str → Option Value} {base : Heap} {f : Addr} : ∀ k, Vis ((FX_law_row_of P w K mg base f).X k).env.scope "_law_thing" := fun _ => Or.inl lm458
theorem lm460 {P : Program} {w : World} {K : PySem.W.Frag} {mg : Str → Option Value} {base : Heap} {f : Addr} : ∀ k, Loc ((blkF (FX_law_row_of P w K mg base f) bs_law_row_of_0).X k).env.scope "_law_item" := fun _ => Or.inl (by kernel_rfl)
theorem lm461 {P : Program} {w : World} {K : PySem.W.Frag} {mg : Str → Option Value} {base : Heap} {f : Addr} : ∀ k, ((blkF (FX_law_row_of P w K mg base f) bs_law_row_of_0).X k).fn "_law_item" = true ∨ List.lookup ("_law_item" : Str) ((blkF (FX_law_row_of P w K mg base f) bs_law_row_of_0).X k).env.scope.names = some NameKind.local := fun _ => Or.inr (by kernel_rfl)
theorem lm462 {P : Program} {w : World} {K : PySem.W.Frag} {mg : Str → Option Value} {base : Heap} {f : Addr} : ∀ k, Gl ((blkF (FX_law_row_of P w K mg base f) bs_law_row_of_0).X k) "int" := fun _ => (by unfold Gl; kernel_rfl)
theorem lm463 {P : Program} {w : World} {K : PySem.W.Frag} {mg : Str → Option Value} {base : Heap} {f : Addr} : ∀ k, Vis ((blkF (FX_law_row_of P w K mg base f) bs_law_row_of_0).X k).env.scope "_law_item" := fun _ => Or.inl (by kernel_rfl)
theorem lm464 : (("_law_item" : Str) == ("__debug__" : Str)) = false := by decide +kernel
theorem lm465 : (("_law_item" : Str) == ("__classdict__" : Str)) = false := by decide +kernel
theorem lm466 {P : Program} {w : World} {K : PySem.W.Frag} {mg : Str → Option Value} {base : Heap} {f : Addr} : ∀ k, Gl ((blkF (FX_law_row_of P w K mg base f) bs_law_row_of_0).X k) "isinstance" := fun _ => (by unfold Gl; kernel_rfl)
theorem lm467 {P : Program} {w : World} {K : PySem.W.Frag} {mg : Str → Option Value} {base : Heap} {f : Addr} : ∀ k, Gl ((blkF (FX_law_row_of P w K mg base f) bs_law_row_of_0).X k) "bool" := fun _ => (by unfold Gl; kernel_rfl)
theorem lm468 : List.lookup ("tuple" : Str) (Scope.names (defScope st_law_row_of)) = some NameKind.globalImplicit := by decide +kernel
theorem lm469 {P : Program} {w : World} {K : PySem.W.Frag} {mg : Str → Option Value} {base : Heap} {f : Addr} : ∀ k, Gl ((FX_law_row_of P w K mg base f).X k) "tuple" := fun _ => lm468
theorem lm470 : List.lookup ("isinstance" : Str) (Scope.names (defScope st_law_row_of)) = some NameKind.globalImplicit := by decide +kernel
theorem lm471 {P : Program} {w : World} {K : PySem.W.Frag} {mg : Str → Option Value} {base : Heap} {f : Addr} : ∀ k, Gl ((FX_law_row_of P w K mg base f).X k) "isinstance" := fun _ => lm470
theorem lm472 : List.lookup ("len" : Str) (Scope.names (defScope st_law_row_of)) = some NameKind.globalImplicit := by decide +kernel
theorem lm473 {P : Program} {w : World} {K : PySem.W.Frag} {mg : Str → Option Value} {base : Heap} {f : Addr} : ∀ k, Gl ((FX_law_row_of P w K mg base f).X k) "len" := fun _ => lm472
theorem lm474 : List.lookup ("_law_many" : Str) (Scope.names (defScope st_law_row_of)) = some NameKind.local := by decide +kernel
theorem lm475 {P : Program} {w : World} {K : PySem.W.Frag} {mg : Str → Option Value} {base : Heap} {f : Addr} : ∀ k, Vis ((FX_law_row_of P w K mg base f).X k).env.scope "_law_many" := fun _ => Or.inl lm474
theorem lm476 : List.lookup ("_law_rows" : Str) (Scope.names (defScope st_law_system)) = some NameKind.local := by decide +kernel
theorem lm477 {P : Program} {w : World} {K : PySem.W.Frag} {mg : Str → Option Value} {base : Heap} {f : Addr} : ∀ k, Vis ((FX_law_system P w K mg base f).X k).env.scope "_law_rows" := fun _ => Or.inl lm476
theorem lm478 : (("_law_rows" : Str) == ("__debug__" : Str)) = false := by decide +kernel
theorem lm479 : (("_law_rows" : Str) == ("__classdict__" : Str)) = false := by decide +kernel
theorem lm480 : List.lookup ("_law_count" : Str) (Scope.names (defScope st_law_system)) = some NameKind.local := by decide +kernel
theorem lm481 {P : Program} {w : World} {K : PySem.W.Frag} {mg : Str → Option Value} {base : Heap} {f : Addr} : ∀ k, Vis ((FX_law_system P w K mg base f).X k).env.scope "_law_count" := fun _ => Or.inl lm480
theorem lm482 : (("_law_count" : Str) == ("__debug__" : Str)) = false := by decide +kernel
theorem lm483 : (("_law_count" : Str) == ("__classdict__" : Str)) = false := by decide +kernel
theorem lm484 : List.lookup ("_law_more" : Str) (Scope.names (defScope st_law_system)) = some NameKind.local := by decide +kernel
theorem lm485 {P : Program} {w : World} {K : PySem.W.Frag} {mg : Str → Option Value} {base : Heap} {f : Addr} : ∀ k, Vis ((FX_law_system P w K mg base f).X k).env.scope "_law_more" := fun _ => Or.inl lm484
theorem lm486 : (("_law_more" : Str) == ("__debug__" : Str)) = false := by decide +kernel
theorem lm487 : (("_law_more" : Str) == ("__classdict__" : Str)) = false := by decide +kernel
theorem lm488 : List.lookup ("range" : Str) (Scope.names (defScope st_law_system)) = some NameKind.globalImplicit := by decide +kernel
theorem lm489 {P : Program} {w : World} {K : PySem.W.Frag} {mg : Str → Option Value} {base : Heap} {f : Addr} : ∀ k, Gl ((FX_law_system P w K mg base f).X k) "range" := fun _ => lm488
theorem lm490 : List.lookup ("_law_turn" : Str) (Scope.names (defScope st_law_system)) = some NameKind.local := by decide +kernel
theorem lm491 {P : Program} {w : World} {K : PySem.W.Frag} {mg : Str → Option Value} {base : Heap} {f : Addr} : ∀ k, Loc ((FX_law_system P w K mg base f).X k).env.scope "_law_turn" := fun _ => Or.inl lm490
theorem lm492 {P : Program} {w : World} {K : PySem.W.Frag} {mg : Str → Option Value} {base : Heap} {f : Addr} : ∀ k, ((FX_law_system P w K mg base f).X k).fn "_law_turn" = true ∨ List.lookup ("_law_turn" : Str) ((FX_law_system P w K mg base f).X k).env.scope.names = some NameKind.local := fun _ => Or.inr lm490
theorem lm493 : List.lookup ("_law_row" : Str) (Scope.names (defScope st_law_system)) = some NameKind.local := by decide +kernel
theorem lm494 {P : Program} {w : World} {K : PySem.W.Frag} {mg : Str → Option Value} {base : Heap} {f : Addr} : ∀ k, Vis ((FX_law_system P w K mg base f).X k).env.scope "_law_row" := fun _ => Or.inl lm493
theorem lm495 : (("_law_row" : Str) == ("__debug__" : Str)) = false := by decide +kernel
theorem lm496 : (("_law_row" : Str) == ("__classdict__" : Str)) = false := by decide +kernel
theorem lm497 : List.lookup ("len" : Str) (Scope.names (defScope st_law_system)) = some NameKind.globalImplicit := by decide +kernel
theorem lm498 {P : Program} {w : World} {K : PySem.W.Frag} {mg : Str → Option Value} {base : Heap} {f : Addr} : ∀ k, Gl ((FX_law_system P w K mg base f).X k) "len" := fun _ => lm497
theorem lm499 : List.lookup ("_law_hand_here" : Str) (Scope.names (defScope st_law_system)) = some NameKind.cell := by decide +kernel
theorem lm500 {P : Program} {w : World} {K : PySem.W.Frag} {mg : Str → Option Value} {base : Heap} {f : Addr} : ∀ k, Vis ((FX_law_system P w K mg base f).X k).env.scope "_law_hand_here" := fun _ => Or.inr (Or.inl lm499)
theorem lm501 : List.lookup ("_law_take" : Str) (Scope.names (defScope st_law_system)) = some NameKind.globalImplicit := by decide +kernel
theorem lm502 {P : Program} {w : World} {K : PySem.W.Frag} {mg : Str → Option Value} {base : Heap} {f : Addr} : ∀ k, Gl ((FX_law_system P w K mg base f).X k) "_law_take" := fun _ => lm501
theorem lm503 : List.lookup ("_law_low" : Str) (Scope.names (defScope st_law_system)) = some NameKind.cell := by decide +kernel
theorem lm504 {P : Program} {w : World} {K : PySem.W.Frag} {mg : Str → Option Value} {base : Heap} {f : Addr} : ∀ k, Vis ((FX_law_system P w K mg base f).X k).env.scope "_law_low" := fun _ => Or.inr (Or.inl lm503)
theorem lm505 : (("_law_low" : Str) == ("__debug__" : Str)) = false := by decide +kernel
theorem lm506 : (("_law_low" : Str) == ("__classdict__" : Str)) = false := by decide +kernel
theorem lm507 : List.lookup ("_law_wide" : Str) (Scope.names (defScope st_law_system)) = some NameKind.cell := by decide +kernel
theorem lm508 {P : Program} {w : World} {K : PySem.W.Frag} {mg : Str → Option Value} {base : Heap} {f : Addr} : ∀ k, Vis ((FX_law_system P w K mg base f).X k).env.scope "_law_wide" := fun _ => Or.inr (Or.inl lm507)
theorem lm509 : (("_law_wide" : Str) == ("__debug__" : Str)) = false := by decide +kernel
theorem lm510 : (("_law_wide" : Str) == ("__classdict__" : Str)) = false := by decide +kernel
theorem lm511 : List.lookup ("_law_start" : Str) (Scope.names (defScope st_law_system)) = some NameKind.local := by decide +kernel
theorem lm512 {P : Program} {w : World} {K : PySem.W.Frag} {mg : Str → Option Value} {base : Heap} {f : Addr} : ∀ k, Vis ((FX_law_system P w K mg base f).X k).env.scope "_law_start" := fun _ => Or.inl lm511
theorem lm513 : (("_law_start" : Str) == ("__debug__" : Str)) = false := by decide +kernel
theorem lm514 : (("_law_start" : Str) == ("__classdict__" : Str)) = false := by decide +kernel
theorem lm515 {P : Program} {w : World} {K : PySem.W.Frag} {mg : Str → Option Value} {base : Heap} {f : Addr} : ∀ k, Loc ((FX_law_system P w K mg base f).X k).env.scope "_law_row" := fun _ => Or.inl lm493
theorem lm516 {P : Program} {w : World} {K : PySem.W.Frag} {mg : Str → Option Value} {base : Heap} {f : Addr} : ∀ k, ((FX_law_system P w K mg base f).X k).fn "_law_row" = true ∨ List.lookup ("_law_row" : Str) ((FX_law_system P w K mg base f).X k).env.scope.names = some NameKind.local := fun _ => Or.inr lm493
theorem lm517 {P : Program} {w : World} {K : PySem.W.Frag} {mg : Str → Option Value} {base : Heap} {f : Addr} : ∀ k, Loc ((FX_law_system P w K mg base f).X k).env.scope "_law_start" := fun _ => Or.inl lm511
theorem lm518 {P : Program} {w : World} {K : PySem.W.Frag} {mg : Str → Option Value} {base : Heap} {f : Addr} : ∀ k, ((FX_law_system P w K mg base f).X k).fn "_law_start" = true ∨ List.lookup ("_law_start" : Str) ((FX_law_system P w K mg base f).X k).env.scope.names = some NameKind.local := fun _ => Or.inr lm511
theorem lm519 {P : Program} {w : World} {K : PySem.W.Frag} {mg : Str → Option Value} {base : Heap} {f : Addr} : ∀ k, Loc ((blkF (FX_law_system P w K mg base f) bs_law_system_0).X k).env.scope "_law_place" := fun _ => Or.inl (by kernel_rfl)
theorem lm520 {P : Program} {w : World} {K : PySem.W.Frag} {mg : Str → Option Value} {base : Heap} {f : Addr} : ∀ k, ((blkF (FX_law_system P w K mg base f) bs_law_system_0).X k).fn "_law_place" = true ∨ List.lookup ("_law_place" : Str) ((blkF (FX_law_system P w K mg base f) bs_law_system_0).X k).env.scope.names = some NameKind.local := fun _ => Or.inr (by kernel_rfl)
theorem lm521 {P : Program} {w : World} {K : PySem.W.Frag} {mg : Str → Option Value} {base : Heap} {f : Addr} : ∀ k, Vis ((blkF (FX_law_system P w K mg base f) bs_law_system_0).X k).env.scope "_law_low" := fun _ => Or.inr (Or.inl (by kernel_rfl))
theorem lm522 {P : Program} {w : World} {K : PySem.W.Frag} {mg : Str → Option Value} {base : Heap} {f : Addr} : ∀ k, Vis ((blkF (FX_law_system P w K mg base f) bs_law_system_0).X k).env.scope "_law_wide" := fun _ => Or.inr (Or.inl (by kernel_rfl))
theorem lm523 {P : Program} {w : World} {K : PySem.W.Frag} {mg : Str → Option Value} {base : Heap} {f : Addr} : ∀ k, Vis ((blkF (FX_law_system P w K mg base f) bs_law_system_0).X k).env.scope "_law_hand_here" := fun _ => Or.inr (Or.inl (by kernel_rfl))
theorem lm524 {P : Program} {w : World} {K : PySem.W.Frag} {mg : Str → Option Value} {base : Heap} {f : Addr} : ∀ k, Gl ((blkF (FX_law_system P w K mg base f) bs_law_system_0).X k) "_law_take" := fun _ => (by unfold Gl; kernel_rfl)
theorem lm525 {P : Program} {w : World} {K : PySem.W.Frag} {mg : Str → Option Value} {base : Heap} {f : Addr} : ∀ k, Vis ((blkF (FX_law_system P w K mg base f) bs_law_system_0).X k).env.scope "_law_place" := fun _ => Or.inl (by kernel_rfl)
theorem lm526 : (("_law_place" : Str) == ("__debug__" : Str)) = false := by decide +kernel
theorem lm527 : (("_law_place" : Str) == ("__classdict__" : Str)) = false := by decide +kernel
theorem lm528 {P : Program} {w : World} {K : PySem.W.Frag} {mg : Str → Option Value} {base : Heap} {f : Addr} : ∀ k, List.lookup ("_law_rows" : Str) ((FX_law_system P w K mg base f).X k).env.scope.names = some NameKind.local := fun _ => lm476
theorem lm529 {P : Program} {w : World} {K : PySem.W.Frag} {mg : Str → Option Value} {base : Heap} {f : Addr} : ∀ k, Loc ((FX_law_system P w K mg base f).X k).env.scope "_law_wide" := fun _ => Or.inr lm507
theorem lm530 {P : Program} {w : World} {K : PySem.W.Frag} {mg : Str → Option Value} {base : Heap} {f : Addr} : ∀ k, ((FX_law_system P w K mg base f).X k).fn "_law_wide" = true ∨ List.lookup ("_law_wide" : Str) ((FX_law_system P w K mg base f).X k).env.scope.names = some NameKind.local := fun _ => Or.inl (show (List.lookup ("_law_wide" : Str) (Scope.names (defScope st_law_system)) == some NameKind.cell) = true by rw [lm507]; rfl)
theorem lm531 {P : Program} {w : World} {K : PySem.W.Frag} {mg : Str → Option Value} {base : Heap} {f : Addr} : ∀ k, Loc ((FX_law_system P w K mg base f).X k).env.scope "_law_low" := fun _ => Or.inr lm503
theorem lm532 {P : Program} {w : World} {K : PySem.W.Frag} {mg : Str → Option Value} {base : Heap} {f : Addr} : ∀ k, ((FX_law_system P w K mg base f).X k).fn "_law_low" = true ∨ List.lookup ("_law_low" : Str) ((FX_law_system P w K mg base f).X k).env.scope.names = some NameKind.local := fun _ => Or.inl (show (List.lookup ("_law_low" : Str) (Scope.names (defScope st_law_system)) == some NameKind.cell) = true by rw [lm503]; rfl)
theorem lm533 {P : Program} {w : World} {K : PySem.W.Frag} {mg : Str → Option Value} {base : Heap} {f : Addr} : ∀ k, Loc ((FX_law_system P w K mg base f).X k).env.scope "_law_more" := fun _ => Or.inl lm484
theorem lm534 {P : Program} {w : World} {K : PySem.W.Frag} {mg : Str → Option Value} {base : Heap} {f : Addr} : ∀ k, ((FX_law_system P w K mg base f).X k).fn "_law_more" = true ∨ List.lookup ("_law_more" : Str) ((FX_law_system P w K mg base f).X k).env.scope.names = some NameKind.local := fun _ => Or.inr lm484
theorem lm535 {P : Program} {w : World} {K : PySem.W.Frag} {mg : Str → Option Value} {base : Heap} {f : Addr} : ∀ k, Loc ((FX_law_system P w K mg base f).X k).env.scope "_law_count" := fun _ => Or.inl lm480
theorem lm536 {P : Program} {w : World} {K : PySem.W.Frag} {mg : Str → Option Value} {base : Heap} {f : Addr} : ∀ k, ((FX_law_system P w K mg base f).X k).fn "_law_count" = true ∨ List.lookup ("_law_count" : Str) ((FX_law_system P w K mg base f).X k).env.scope.names = some NameKind.local := fun _ => Or.inr lm480
theorem lm537 : List.lookup ("_law_row" : Str) (Scope.names (defScope st_law_claimed)) = some NameKind.local := by decide +kernel
theorem lm538 {P : Program} {w : World} {K : PySem.W.Frag} {mg : Str → Option Value} {base : Heap} {f : Addr} : ∀ k, Vis ((FX_law_claimed P w K mg base f).X k).env.scope "_law_row" := fun _ => Or.inl lm537
theorem lm539 : List.lookup ("_law_numbers" : Str) (Scope.names (defScope st_law_claimed)) = some NameKind.local := by decide +kernel
theorem lm540 {P : Program} {w : World} {K : PySem.W.Frag} {mg : Str → Option Value} {base : Heap} {f : Addr} : ∀ k, Vis ((FX_law_claimed P w K mg base f).X k).env.scope "_law_numbers" := fun _ => Or.inl lm539
theorem lm541 : (("_law_numbers" : Str) == ("__debug__" : Str)) = false := by decide +kernel
theorem lm542 : (("_law_numbers" : Str) == ("__classdict__" : Str)) = false := by decide +kernel
theorem lm543 : List.lookup ("_law_count" : Str) (Scope.names (defScope st_law_least_word)) = some NameKind.local := by decide +kernel
theorem lm544 {P : Program} {w : World} {K : PySem.W.Frag} {mg : Str → Option Value} {base : Heap} {f : Addr} : ∀ k, Vis ((FX_law_least_word P w K mg base f).X k).env.scope "_law_count" := fun _ => Or.inl lm543
theorem lm545 : List.lookup ("range" : Str) (Scope.names (defScope st_law_least_word)) = some NameKind.globalImplicit := by decide +kernel
theorem lm546 {P : Program} {w : World} {K : PySem.W.Frag} {mg : Str → Option Value} {base : Heap} {f : Addr} : ∀ k, Gl ((FX_law_least_word P w K mg base f).X k) "range" := fun _ => lm545
theorem lm547 : List.lookup ("_law_place" : Str) (Scope.names (defScope st_law_least_word)) = some NameKind.local := by decide +kernel
theorem lm548 {P : Program} {w : World} {K : PySem.W.Frag} {mg : Str → Option Value} {base : Heap} {f : Addr} : ∀ k, Loc ((FX_law_least_word P w K mg base f).X k).env.scope "_law_place" := fun _ => Or.inl lm547
theorem lm549 {P : Program} {w : World} {K : PySem.W.Frag} {mg : Str → Option Value} {base : Heap} {f : Addr} : ∀ k, ((FX_law_least_word P w K mg base f).X k).fn "_law_place" = true ∨ List.lookup ("_law_place" : Str) ((FX_law_least_word P w K mg base f).X k).env.scope.names = some NameKind.local := fun _ => Or.inr lm547
theorem lm550 : List.lookup ("_law_rows" : Str) (Scope.names (defScope st_law_least_word)) = some NameKind.local := by decide +kernel
theorem lm551 {P : Program} {w : World} {K : PySem.W.Frag} {mg : Str → Option Value} {base : Heap} {f : Addr} : ∀ k, Vis ((FX_law_least_word P w K mg base f).X k).env.scope "_law_rows" := fun _ => Or.inl lm550
theorem lm552 : List.lookup ("_law_reasons" : Str) (Scope.names (defScope st_law_least_word)) = some NameKind.local := by decide +kernel
theorem lm553 {P : Program} {w : World} {K : PySem.W.Frag} {mg : Str → Option Value} {base : Heap} {f : Addr} : ∀ k, Vis ((FX_law_least_word P w K mg base f).X k).env.scope "_law_reasons" := fun _ => Or.inl lm552
theorem lm554 : (("_law_reasons" : Str) == ("__debug__" : Str)) = false := by decide +kernel
theorem lm555 : (("_law_reasons" : Str) == ("__classdict__" : Str)) = false := by decide +kernel
theorem lm556 : List.lookup ("_law_at" : Str) (Scope.names (defScope st_law_least_word)) = some NameKind.local := by decide +kernel
theorem lm557 {P : Program} {w : World} {K : PySem.W.Frag} {mg : Str → Option Value} {base : Heap} {f : Addr} : ∀ k, Vis ((FX_law_least_word P w K mg base f).X k).env.scope "_law_at" := fun _ => Or.inl lm556
theorem lm558 : (("_law_at" : Str) == ("__debug__" : Str)) = false := by decide +kernel
theorem lm559 : (("_law_at" : Str) == ("__classdict__" : Str)) = false := by decide +kernel
theorem lm560 : List.lookup ("_law_turn" : Str) (Scope.names (defScope st_law_least_word)) = some NameKind.local := by decide +kernel
theorem lm561 {P : Program} {w : World} {K : PySem.W.Frag} {mg : Str → Option Value} {base : Heap} {f : Addr} : ∀ k, Loc ((FX_law_least_word P w K mg base f).X k).env.scope "_law_turn" := fun _ => Or.inl lm560
theorem lm562 {P : Program} {w : World} {K : PySem.W.Frag} {mg : Str → Option Value} {base : Heap} {f : Addr} : ∀ k, ((FX_law_least_word P w K mg base f).X k).fn "_law_turn" = true ∨ List.lookup ("_law_turn" : Str) ((FX_law_least_word P w K mg base f).X k).env.scope.names = some NameKind.local := fun _ => Or.inr lm560
theorem lm563 {P : Program} {w : World} {K : PySem.W.Frag} {mg : Str → Option Value} {base : Heap} {f : Addr} : ∀ k, Loc ((FX_law_least_word P w K mg base f).X k).env.scope "_law_at" := fun _ => Or.inl lm556
theorem lm564 {P : Program} {w : World} {K : PySem.W.Frag} {mg : Str → Option Value} {base : Heap} {f : Addr} : ∀ k, ((FX_law_least_word P w K mg base f).X k).fn "_law_at" = true ∨ List.lookup ("_law_at" : Str) ((FX_law_least_word P w K mg base f).X k).env.scope.names = some NameKind.local := fun _ => Or.inr lm556
theorem lm565 {P : Program} {w : World} {K : PySem.W.Frag} {mg : Str → Option Value} {base : Heap} {f : Addr} : ∀ k, Vis ((FX_law_least_word P w K mg base f).X k).env.scope "_law_place" := fun _ => Or.inl lm547
theorem lm566 : List.lookup ("_law_numbers" : Str) (Scope.names (defScope st_law_least_word)) = some NameKind.cell := by decide +kernel
theorem lm567 {P : Program} {w : World} {K : PySem.W.Frag} {mg : Str → Option Value} {base : Heap} {f : Addr} : ∀ k, Vis ((FX_law_least_word P w K mg base f).X k).env.scope "_law_numbers" := fun _ => Or.inr (Or.inl lm566)
theorem lm568 : List.lookup ("_law_claimed" : Str) (Scope.names (defScope st_law_least_word)) = some NameKind.globalImplicit := by decide +kernel
theorem lm569 {P : Program} {w : World} {K : PySem.W.Frag} {mg : Str → Option Value} {base : Heap} {f : Addr} : ∀ k, Gl ((FX_law_least_word P w K mg base f).X k) "_law_claimed" := fun _ => lm568
theorem lm570 : (("_law_claimed" : Str) == ("__debug__" : Str)) = false := by decide +kernel
theorem lm571 {P : Program} {w : World} {K : PySem.W.Frag} {mg : Str → Option Value} {base : Heap} {f : Addr} : ∀ k, Loc ((blkF (FX_law_least_word P w K mg base f) bs_law_least_word_0).X k).env.scope "_law_row" := fun _ => Or.inl (by kernel_rfl)
theorem lm572 {P : Program} {w : World} {K : PySem.W.Frag} {mg : Str → Option Value} {base : Heap} {f : Addr} : ∀ k, ((blkF (FX_law_least_word P w K mg base f) bs_law_least_word_0).X k).fn "_law_row" = true ∨ List.lookup ("_law_row" : Str) ((blkF (FX_law_least_word P w K mg base f) bs_law_least_word_0).X k).env.scope.names = some NameKind.local := fun _ => Or.inr (by kernel_rfl)
theorem lm573 {P : Program} {w : World} {K : PySem.W.Frag} {mg : Str → Option Value} {base : Heap} {f : Addr} : ∀ k, Vis ((blkF (FX_law_least_word P w K mg base f) bs_law_least_word_0).X k).env.scope "_law_numbers" := fun _ => Or.inr (Or.inl (by kernel_rfl))
theorem lm574 {P : Program} {w : World} {K : PySem.W.Frag} {mg : Str → Option Value} {base : Heap} {f : Addr} : ∀ k, Vis ((blkF (FX_law_least_word P w K mg base f) bs_law_least_word_0).X k).env.scope "_law_row" := fun _ => Or.inl (by kernel_rfl)
theorem lm575 {P : Program} {w : World} {K : PySem.W.Frag} {mg : Str → Option Value} {base : Heap} {f : Addr} : ∀ k, Gl ((blkF (FX_law_least_word P w K mg base f) bs_law_least_word_0).X k) "_law_claimed" := fun _ => (by unfold Gl; kernel_rfl)
theorem lm576 : List.lookup ("len" : Str) (Scope.names (defScope st_law_least_word)) = some NameKind.globalImplicit := by decide +kernel
theorem lm577 {P : Program} {w : World} {K : PySem.W.Frag} {mg : Str → Option Value} {base : Heap} {f : Addr} : ∀ k, Gl ((FX_law_least_word P w K mg base f).X k) "len" := fun _ => lm576
theorem lm578 : List.lookup ("_law_row_of" : Str) (Scope.names (defScope st_law_least_word)) = some NameKind.globalImplicit := by decide +kernel
theorem lm579 {P : Program} {w : World} {K : PySem.W.Frag} {mg : Str → Option Value} {base : Heap} {f : Addr} : ∀ k, Gl ((FX_law_least_word P w K mg base f).X k) "_law_row_of" := fun _ => lm578
theorem lm580 : (("_law_row_of" : Str) == ("__debug__" : Str)) = false := by decide +kernel
theorem lm581 : List.lookup ("_law_indexes" : Str) (Scope.names (defScope st_law_ring_word)) = some NameKind.local := by decide +kernel
theorem lm582 {P : Program} {w : World} {K : PySem.W.Frag} {mg : Str → Option Value} {base : Heap} {f : Addr} : ∀ k, Vis ((FX_law_ring_word P w K mg base f).X k).env.scope "_law_indexes" := fun _ => Or.inl lm581
theorem lm583 : (("_law_indexes" : Str) == ("__debug__" : Str)) = false := by decide +kernel
theorem lm584 : (("_law_indexes" : Str) == ("__classdict__" : Str)) = false := by decide +kernel
theorem lm585 {P : Program} {w : World} {K : PySem.W.Frag} {mg : Str → Option Value} {base : Heap} {f : Addr} : ∀ k, Loc ((blkF (FX_law_ring_word P w K mg base f) bs_law_ring_word_0).X k).env.scope "_law_index" := fun _ => Or.inl (by kernel_rfl)
theorem lm586 {P : Program} {w : World} {K : PySem.W.Frag} {mg : Str → Option Value} {base : Heap} {f : Addr} : ∀ k, ((blkF (FX_law_ring_word P w K mg base f) bs_law_ring_word_0).X k).fn "_law_index" = true ∨ List.lookup ("_law_index" : Str) ((blkF (FX_law_ring_word P w K mg base f) bs_law_ring_word_0).X k).env.scope.names = some NameKind.local := fun _ => Or.inr (by kernel_rfl)
theorem lm587 {P : Program} {w : World} {K : PySem.W.Frag} {mg : Str → Option Value} {base : Heap} {f : Addr} : ∀ k, Vis ((blkF (FX_law_ring_word P w K mg base f) bs_law_ring_word_0).X k).env.scope "_law_rows" := fun _ => Or.inr (Or.inl (by kernel_rfl))
theorem lm588 {P : Program} {w : World} {K : PySem.W.Frag} {mg : Str → Option Value} {base : Heap} {f : Addr} : ∀ k, Vis ((blkF (FX_law_ring_word P w K mg base f) bs_law_ring_word_0).X k).env.scope "_law_index" := fun _ => Or.inl (by kernel_rfl)
theorem lm589 : (("_law_index" : Str) == ("__debug__" : Str)) = false := by decide +kernel
theorem lm590 : (("_law_index" : Str) == ("__classdict__" : Str)) = false := by decide +kernel
theorem lm591 : List.lookup ("sum" : Str) (Scope.names (defScope st_law_ring_word)) = some NameKind.globalImplicit := by decide +kernel
theorem lm592 {P : Program} {w : World} {K : PySem.W.Frag} {mg : Str → Option Value} {base : Heap} {f : Addr} : ∀ k, Gl ((FX_law_ring_word P w K mg base f).X k) "sum" := fun _ => lm591
theorem lm593 : List.lookup ("len" : Str) (Scope.names (defScope st_law_ring_word)) = some NameKind.globalImplicit := by decide +kernel
theorem lm594 {P : Program} {w : World} {K : PySem.W.Frag} {mg : Str → Option Value} {base : Heap} {f : Addr} : ∀ k, Gl ((FX_law_ring_word P w K mg base f).X k) "len" := fun _ => lm593
theorem lm595 : List.lookup ("range" : Str) (Scope.names (defScope st_law_ring_word)) = some NameKind.globalImplicit := by decide +kernel
theorem lm596 {P : Program} {w : World} {K : PySem.W.Frag} {mg : Str → Option Value} {base : Heap} {f : Addr} : ∀ k, Gl ((FX_law_ring_word P w K mg base f).X k) "range" := fun _ => lm595
theorem lm597 : List.lookup ("_law_at" : Str) (Scope.names (defScope st_law_ring_word)) = some NameKind.local := by decide +kernel
theorem lm598 {P : Program} {w : World} {K : PySem.W.Frag} {mg : Str → Option Value} {base : Heap} {f : Addr} : ∀ k, Loc ((FX_law_ring_word P w K mg base f).X k).env.scope "_law_at" := fun _ => Or.inl lm597
theorem lm599 {P : Program} {w : World} {K : PySem.W.Frag} {mg : Str → Option Value} {base : Heap} {f : Addr} : ∀ k, ((FX_law_ring_word P w K mg base f).X k).fn "_law_at" = true ∨ List.lookup ("_law_at" : Str) ((FX_law_ring_word P w K mg base f).X k).env.scope.names = some NameKind.local := fun _ => Or.inr lm597
theorem lm600 : List.lookup ("_law_rows" : Str) (Scope.names (defScope st_law_ring_word)) = some NameKind.cell := by decide +kernel
theorem lm601 {P : Program} {w : World} {K : PySem.W.Frag} {mg : Str → Option Value} {base : Heap} {f : Addr} : ∀ k, Vis ((FX_law_ring_word P w K mg base f).X k).env.scope "_law_rows" := fun _ => Or.inr (Or.inl lm600)
theorem lm602 {P : Program} {w : World} {K : PySem.W.Frag} {mg : Str → Option Value} {base : Heap} {f : Addr} : ∀ k, Vis ((FX_law_ring_word P w K mg base f).X k).env.scope "_law_at" := fun _ => Or.inl lm597
theorem lm603 : List.lookup ("_law_index" : Str) (Scope.names (defScope st_law_ring_word)) = some NameKind.local := by decide +kernel
theorem lm604 {P : Program} {w : World} {K : PySem.W.Frag} {mg : Str → Option Value} {base : Heap} {f : Addr} : ∀ k, Loc ((FX_law_ring_word P w K mg base f).X k).env.scope "_law_index" := fun _ => Or.inl lm603
theorem lm605 {P : Program} {w : World} {K : PySem.W.Frag} {mg : Str → Option Value} {base : Heap} {f : Addr} : ∀ k, ((FX_law_ring_word P w K mg base f).X k).fn "_law_index" = true ∨ List.lookup ("_law_index" : Str) ((FX_law_ring_word P w K mg base f).X k).env.scope.names = some NameKind.local := fun _ => Or.inr lm603
theorem lm606 {P : Program} {w : World} {K : PySem.W.Frag} {mg : Str → Option Value} {base : Heap} {f : Addr} : ∀ k, Vis ((FX_law_ring_word P w K mg base f).X k).env.scope "_law_index" := fun _ => Or.inl lm603
theorem lm607 : List.lookup ("tuple" : Str) (Scope.names (defScope st_law_ring_word)) = some NameKind.globalImplicit := by decide +kernel
theorem lm608 {P : Program} {w : World} {K : PySem.W.Frag} {mg : Str → Option Value} {base : Heap} {f : Addr} : ∀ k, Gl ((FX_law_ring_word P w K mg base f).X k) "tuple" := fun _ => lm607
theorem lm609 : List.lookup ("isinstance" : Str) (Scope.names (defScope st_law_ring_word)) = some NameKind.globalImplicit := by decide +kernel
theorem lm610 {P : Program} {w : World} {K : PySem.W.Frag} {mg : Str → Option Value} {base : Heap} {f : Addr} : ∀ k, Gl ((FX_law_ring_word P w K mg base f).X k) "isinstance" := fun _ => lm609
theorem lm611 : List.lookup ("_law_row_of" : Str) (Scope.names (defScope st_law_ring_word)) = some NameKind.globalImplicit := by decide +kernel
theorem lm612 {P : Program} {w : World} {K : PySem.W.Frag} {mg : Str → Option Value} {base : Heap} {f : Addr} : ∀ k, Gl ((FX_law_ring_word P w K mg base f).X k) "_law_row_of" := fun _ => lm611
theorem lm613 : List.lookup ("range" : Str) (Scope.names (defScope st_law)) = some NameKind.globalImplicit := by decide +kernel
theorem lm614 {P : Program} {w : World} {K : PySem.W.Frag} {mg : Str → Option Value} {base : Heap} {f : Addr} : ∀ k, Gl ((FX_law P w K mg base f).X k) "range" := fun _ => lm613
theorem lm615 : List.lookup ("_law_turn" : Str) (Scope.names (defScope st_law)) = some NameKind.local := by decide +kernel
theorem lm616 {P : Program} {w : World} {K : PySem.W.Frag} {mg : Str → Option Value} {base : Heap} {f : Addr} : ∀ k, Loc ((FX_law P w K mg base f).X k).env.scope "_law_turn" := fun _ => Or.inl lm615
theorem lm617 {P : Program} {w : World} {K : PySem.W.Frag} {mg : Str → Option Value} {base : Heap} {f : Addr} : ∀ k, ((FX_law P w K mg base f).X k).fn "_law_turn" = true ∨ List.lookup ("_law_turn" : Str) ((FX_law P w K mg base f).X k).env.scope.names = some NameKind.local := fun _ => Or.inr lm615
theorem lm618 : List.lookup ("_law_given" : Str) (Scope.names (defScope st_law)) = some NameKind.local := by decide +kernel
theorem lm619 {P : Program} {w : World} {K : PySem.W.Frag} {mg : Str → Option Value} {base : Heap} {f : Addr} : ∀ k, Vis ((FX_law P w K mg base f).X k).env.scope "_law_given" := fun _ => Or.inl lm618
theorem lm620 : (("_law_given" : Str) == ("__debug__" : Str)) = false := by decide +kernel
theorem lm621 : (("_law_given" : Str) == ("__classdict__" : Str)) = false := by decide +kernel
theorem lm622 : List.lookup ("repr" : Str) (Scope.names (defScope st_law)) = some NameKind.globalImplicit := by decide +kernel
theorem lm623 {P : Program} {w : World} {K : PySem.W.Frag} {mg : Str → Option Value} {base : Heap} {f : Addr} : ∀ k, Gl ((FX_law P w K mg base f).X k) "repr" := fun _ => lm622
theorem lm624 : List.lookup ("_law_kept" : Str) (Scope.names (defScope st_law)) = some NameKind.local := by decide +kernel
theorem lm625 {P : Program} {w : World} {K : PySem.W.Frag} {mg : Str → Option Value} {base : Heap} {f : Addr} : ∀ k, Vis ((FX_law P w K mg base f).X k).env.scope "_law_kept" := fun _ => Or.inl lm624
theorem lm626 : (("_law_kept" : Str) == ("__debug__" : Str)) = false := by decide +kernel
theorem lm627 : (("_law_kept" : Str) == ("__classdict__" : Str)) = false := by decide +kernel
theorem lm628 : List.lookup ("DemandRing" : Str) (Scope.names (defScope st_law)) = some NameKind.globalImplicit := by decide +kernel
theorem lm629 {P : Program} {w : World} {K : PySem.W.Frag} {mg : Str → Option Value} {base : Heap} {f : Addr} : ∀ k, Gl ((FX_law P w K mg base f).X k) "DemandRing" := fun _ => lm628
theorem lm630 : List.lookup ("_law_found" : Str) (Scope.names (defScope st_law)) = some NameKind.local := by decide +kernel
theorem lm631 {P : Program} {w : World} {K : PySem.W.Frag} {mg : Str → Option Value} {base : Heap} {f : Addr} : ∀ k, Vis ((FX_law P w K mg base f).X k).env.scope "_law_found" := fun _ => Or.inl lm630
theorem lm632 : (("_law_found" : Str) == ("__debug__" : Str)) = false := by decide +kernel
theorem lm633 : (("_law_found" : Str) == ("__classdict__" : Str)) = false := by decide +kernel
theorem lm634 : List.lookup ("isinstance" : Str) (Scope.names (defScope st_law)) = some NameKind.globalImplicit := by decide +kernel
theorem lm635 {P : Program} {w : World} {K : PySem.W.Frag} {mg : Str → Option Value} {base : Heap} {f : Addr} : ∀ k, Gl ((FX_law P w K mg base f).X k) "isinstance" := fun _ => lm634
theorem lm636 : List.lookup ("_law_count" : Str) (Scope.names (defScope st_law)) = some NameKind.local := by decide +kernel
theorem lm637 {P : Program} {w : World} {K : PySem.W.Frag} {mg : Str → Option Value} {base : Heap} {f : Addr} : ∀ k, Vis ((FX_law P w K mg base f).X k).env.scope "_law_count" := fun _ => Or.inl lm636
theorem lm638 : List.lookup ("ring_fault" : Str) (Scope.names (defScope st_law)) = some NameKind.globalImplicit := by decide +kernel
theorem lm639 {P : Program} {w : World} {K : PySem.W.Frag} {mg : Str → Option Value} {base : Heap} {f : Addr} : ∀ k, Gl ((FX_law P w K mg base f).X k) "ring_fault" := fun _ => lm638
theorem lm640 : (("ring_fault" : Str) == ("__debug__" : Str)) = false := by decide +kernel
theorem lm641 : List.lookup ("_law_rows" : Str) (Scope.names (defScope st_law)) = some NameKind.local := by decide +kernel
theorem lm642 {P : Program} {w : World} {K : PySem.W.Frag} {mg : Str → Option Value} {base : Heap} {f : Addr} : ∀ k, Vis ((FX_law P w K mg base f).X k).env.scope "_law_rows" := fun _ => Or.inl lm641
theorem lm643 : List.lookup ("_law_ring_word" : Str) (Scope.names (defScope st_law)) = some NameKind.globalImplicit := by decide +kernel
theorem lm644 {P : Program} {w : World} {K : PySem.W.Frag} {mg : Str → Option Value} {base : Heap} {f : Addr} : ∀ k, Gl ((FX_law P w K mg base f).X k) "_law_ring_word" := fun _ => lm643
theorem lm645 : (("_law_ring_word" : Str) == ("__debug__" : Str)) = false := by decide +kernel
theorem lm646 : List.lookup ("Least" : Str) (Scope.names (defScope st_law)) = some NameKind.globalImplicit := by decide +kernel
theorem lm647 {P : Program} {w : World} {K : PySem.W.Frag} {mg : Str → Option Value} {base : Heap} {f : Addr} : ∀ k, Gl ((FX_law P w K mg base f).X k) "Least" := fun _ => lm646
theorem lm648 : List.lookup ("least_fault" : Str) (Scope.names (defScope st_law)) = some NameKind.globalImplicit := by decide +kernel
theorem lm649 {P : Program} {w : World} {K : PySem.W.Frag} {mg : Str → Option Value} {base : Heap} {f : Addr} : ∀ k, Gl ((FX_law P w K mg base f).X k) "least_fault" := fun _ => lm648
theorem lm650 : (("least_fault" : Str) == ("__debug__" : Str)) = false := by decide +kernel
theorem lm651 : List.lookup ("_law_least_word" : Str) (Scope.names (defScope st_law)) = some NameKind.globalImplicit := by decide +kernel
theorem lm652 {P : Program} {w : World} {K : PySem.W.Frag} {mg : Str → Option Value} {base : Heap} {f : Addr} : ∀ k, Gl ((FX_law P w K mg base f).X k) "_law_least_word" := fun _ => lm651
theorem lm653 : (("_law_least_word" : Str) == ("__debug__" : Str)) = false := by decide +kernel
theorem lm654 : List.lookup ("least_numbers" : Str) (Scope.names (defScope st_law)) = some NameKind.globalImplicit := by decide +kernel
theorem lm655 {P : Program} {w : World} {K : PySem.W.Frag} {mg : Str → Option Value} {base : Heap} {f : Addr} : ∀ k, Gl ((FX_law P w K mg base f).X k) "least_numbers" := fun _ => lm654
theorem lm656 : (("least_numbers" : Str) == ("__debug__" : Str)) = false := by decide +kernel
theorem lm657 {P : Program} {w : World} {K : PySem.W.Frag} {mg : Str → Option Value} {base : Heap} {f : Addr} : ∀ k, Loc ((FX_law P w K mg base f).X k).env.scope "_law_found" := fun _ => Or.inl lm630
theorem lm658 {P : Program} {w : World} {K : PySem.W.Frag} {mg : Str → Option Value} {base : Heap} {f : Addr} : ∀ k, ((FX_law P w K mg base f).X k).fn "_law_found" = true ∨ List.lookup ("_law_found" : Str) ((FX_law P w K mg base f).X k).env.scope.names = some NameKind.local := fun _ => Or.inr lm630
theorem lm659 : List.lookup ("check_demands" : Str) (Scope.names (defScope st_law)) = some NameKind.globalImplicit := by decide +kernel
theorem lm660 {P : Program} {w : World} {K : PySem.W.Frag} {mg : Str → Option Value} {base : Heap} {f : Addr} : ∀ k, Gl ((FX_law P w K mg base f).X k) "check_demands" := fun _ => lm659
theorem lm661 : List.lookup ("tuple" : Str) (Scope.names (defScope st_law)) = some NameKind.globalImplicit := by decide +kernel
theorem lm662 {P : Program} {w : World} {K : PySem.W.Frag} {mg : Str → Option Value} {base : Heap} {f : Addr} : ∀ k, Gl ((FX_law P w K mg base f).X k) "tuple" := fun _ => lm661
theorem lm663 {P : Program} {w : World} {K : PySem.W.Frag} {mg : Str → Option Value} {base : Heap} {f : Addr} : ∀ k, Loc ((FX_law P w K mg base f).X k).env.scope "_law_kept" := fun _ => Or.inl lm624
theorem lm664 {P : Program} {w : World} {K : PySem.W.Frag} {mg : Str → Option Value} {base : Heap} {f : Addr} : ∀ k, ((FX_law P w K mg base f).X k).fn "_law_kept" = true ∨ List.lookup ("_law_kept" : Str) ((FX_law P w K mg base f).X k).env.scope.names = some NameKind.local := fun _ => Or.inr lm624
theorem lm665 {P : Program} {w : World} {K : PySem.W.Frag} {mg : Str → Option Value} {base : Heap} {f : Addr} : ∀ k, Loc ((blkF (FX_law P w K mg base f) bs_law_0).X k).env.scope "_law_row" := fun _ => Or.inl (by kernel_rfl)
theorem lm666 {P : Program} {w : World} {K : PySem.W.Frag} {mg : Str → Option Value} {base : Heap} {f : Addr} : ∀ k, ((blkF (FX_law P w K mg base f) bs_law_0).X k).fn "_law_row" = true ∨ List.lookup ("_law_row" : Str) ((blkF (FX_law P w K mg base f) bs_law_0).X k).env.scope.names = some NameKind.local := fun _ => Or.inr (by kernel_rfl)
theorem lm667 {P : Program} {w : World} {K : PySem.W.Frag} {mg : Str → Option Value} {base : Heap} {f : Addr} : ∀ k, Vis ((blkF (FX_law P w K mg base f) bs_law_0).X k).env.scope "_law_row" := fun _ => Or.inl (by kernel_rfl)
theorem lm668 {P : Program} {w : World} {K : PySem.W.Frag} {mg : Str → Option Value} {base : Heap} {f : Addr} : ∀ k, Vis ((blkF (FX_law P w K mg base f) bs_law_0).X k).env.scope "_law_hand_here" := fun _ => Or.inr (Or.inl (by kernel_rfl))
theorem lm669 {P : Program} {w : World} {K : PySem.W.Frag} {mg : Str → Option Value} {base : Heap} {f : Addr} : ∀ k, Gl ((blkF (FX_law P w K mg base f) bs_law_0).X k) "_law_lists" := fun _ => (by unfold Gl; kernel_rfl)
theorem lm670 : (("_law_lists" : Str) == ("__debug__" : Str)) = false := by decide +kernel
theorem lm671 : List.lookup ("_law_hand_here" : Str) (Scope.names (defScope st_law)) = some NameKind.cell := by decide +kernel
theorem lm672 {P : Program} {w : World} {K : PySem.W.Frag} {mg : Str → Option Value} {base : Heap} {f : Addr} : ∀ k, Vis ((FX_law P w K mg base f).X k).env.scope "_law_hand_here" := fun _ => Or.inr (Or.inl lm671)
theorem lm673 : List.lookup ("_law_lists" : Str) (Scope.names (defScope st_law)) = some NameKind.globalImplicit := by decide +kernel
theorem lm674 {P : Program} {w : World} {K : PySem.W.Frag} {mg : Str → Option Value} {base : Heap} {f : Addr} : ∀ k, Gl ((FX_law P w K mg base f).X k) "_law_lists" := fun _ => lm673
theorem lm675 {P : Program} {w : World} {K : PySem.W.Frag} {mg : Str → Option Value} {base : Heap} {f : Addr} : ∀ k, Loc ((FX_law P w K mg base f).X k).env.scope "_law_given" := fun _ => Or.inl lm618
theorem lm676 {P : Program} {w : World} {K : PySem.W.Frag} {mg : Str → Option Value} {base : Heap} {f : Addr} : ∀ k, ((FX_law P w K mg base f).X k).fn "_law_given" = true ∨ List.lookup ("_law_given" : Str) ((FX_law P w K mg base f).X k).env.scope.names = some NameKind.local := fun _ => Or.inr lm618
theorem lm677 : List.lookup ("_law_system" : Str) (Scope.names (defScope st_law)) = some NameKind.globalImplicit := by decide +kernel
theorem lm678 {P : Program} {w : World} {K : PySem.W.Frag} {mg : Str → Option Value} {base : Heap} {f : Addr} : ∀ k, Gl ((FX_law P w K mg base f).X k) "_law_system" := fun _ => lm677
theorem lm679 : (("_law_system" : Str) == ("__debug__" : Str)) = false := by decide +kernel
theorem lm680 {P : Program} {w : World} {K : PySem.W.Frag} {mg : Str → Option Value} {base : Heap} {f : Addr} : ∀ k, Loc ((FX_law P w K mg base f).X k).env.scope "_law_rows" := fun _ => Or.inl lm641
theorem lm681 {P : Program} {w : World} {K : PySem.W.Frag} {mg : Str → Option Value} {base : Heap} {f : Addr} : ∀ k, ((FX_law P w K mg base f).X k).fn "_law_rows" = true ∨ List.lookup ("_law_rows" : Str) ((FX_law P w K mg base f).X k).env.scope.names = some NameKind.local := fun _ => Or.inr lm641
theorem lm682 {P : Program} {w : World} {K : PySem.W.Frag} {mg : Str → Option Value} {base : Heap} {f : Addr} : ∀ k, Loc ((FX_law P w K mg base f).X k).env.scope "_law_count" := fun _ => Or.inl lm636
theorem lm683 {P : Program} {w : World} {K : PySem.W.Frag} {mg : Str → Option Value} {base : Heap} {f : Addr} : ∀ k, ((FX_law P w K mg base f).X k).fn "_law_count" = true ∨ List.lookup ("_law_count" : Str) ((FX_law P w K mg base f).X k).env.scope.names = some NameKind.local := fun _ => Or.inr lm636
theorem lm684 : List.lookup ("_law_script" : Str) (Scope.names (defScope st_law)) = some NameKind.local := by decide +kernel
theorem lm685 {P : Program} {w : World} {K : PySem.W.Frag} {mg : Str → Option Value} {base : Heap} {f : Addr} : ∀ k, Vis ((FX_law P w K mg base f).X k).env.scope "_law_script" := fun _ => Or.inl lm684
theorem lm686 : List.lookup ("_law_hand" : Str) (Scope.names (defScope st_law)) = some NameKind.globalImplicit := by decide +kernel
theorem lm687 {P : Program} {w : World} {K : PySem.W.Frag} {mg : Str → Option Value} {base : Heap} {f : Addr} : ∀ k, Gl ((FX_law P w K mg base f).X k) "_law_hand" := fun _ => lm686
theorem lm688 : (("_law_hand" : Str) == ("__debug__" : Str)) = false := by decide +kernel
theorem lm689 {P : Program} {w : World} {K : PySem.W.Frag} {mg : Str → Option Value} {base : Heap} {f : Addr} : ∀ k, Loc ((FX_law P w K mg base f).X k).env.scope "_law_hand_here" := fun _ => Or.inr lm671
theorem lm690 {P : Program} {w : World} {K : PySem.W.Frag} {mg : Str → Option Value} {base : Heap} {f : Addr} : ∀ k, ((FX_law P w K mg base f).X k).fn "_law_hand_here" = true ∨ List.lookup ("_law_hand_here" : Str) ((FX_law P w K mg base f).X k).env.scope.names = some NameKind.local := fun _ => Or.inl (show (List.lookup ("_law_hand_here" : Str) (Scope.names (defScope st_law)) == some NameKind.cell) = true by rw [lm671]; rfl)


end DL
end

section
set_option Elab.async false
set_option linter.all false
set_option maxRecDepth 100000
set_option maxHeartbeats 400000
namespace DL
open PySem PySem.Spec PyProof.Rows L2
/- DemandRing.__init__ -/
def rd_DemandRing__init (K : PySem.W.Frag) (g : Str → Addr) : DCtx → DS := fun c =>
    (dFldS (g "DemandRing") "indexes" (dVar 0) (dVar 1))
theorem der_DemandRing__init {P : Program} {w : World} {K : PySem.W.Frag} {mg : Str → Option Value} {base : Heap} {g : Str → Addr} {f : Addr} (fx : Fx P w K mg base g) :
    PDSs (FX_DemandRing__init P w K mg base f) K (defBody st_DemandRing__init) (rd_DemandRing__init K g) :=
  (ss_1 (s_fld fx.cls_DemandRing fx.na_DemandRing_indexes (pd_v 0 (hv := lm225) (hd := lm179) (hcd := lm180)) (pd_v 1 (hv := lm227) (hd := lm228) (hcd := lm229))))
end DL
end

section
set_option Elab.async false
set_option linter.all false
set_option maxRecDepth 100000
set_option maxHeartbeats 400000
namespace DL
open PySem PySem.Spec PyProof.Rows L2
/- Least.__init__ -/
def rd_Least__init (K : PySem.W.Frag) (g : Str → Addr) : DCtx → DS := fun c =>
    (dSeq (dFldS (g "Least") "numbers" (dVar 0) (dVar 1))
    (dFldS (g "Least") "reasons" (dVar 0) (dVar 2)))
theorem der_Least__init {P : Program} {w : World} {K : PySem.W.Frag} {mg : Str → Option Value} {base : Heap} {g : Str → Addr} {f : Addr} (fx : Fx P w K mg base g) :
    PDSs (FX_Least__init P w K mg base f) K (defBody st_Least__init) (rd_Least__init K g) :=
  (ss_c (s_fld fx.cls_Least fx.na_Least_numbers (pd_v 0 (hv := lm178) (hd := lm179) (hcd := lm180)) (pd_v 1 (hv := lm184) (hd := lm110) (hcd := lm111)))
    (ss_1 (s_fld fx.cls_Least fx.na_Least_reasons (pd_v 0 (hv := lm178) (hd := lm179) (hcd := lm180)) (pd_v 2 (hv := lm182) (hd := lm167) (hcd := lm168)))))
end DL
end

section
set_option Elab.async false
set_option linter.all false
set_option maxRecDepth 100000
set_option maxHeartbeats 400000
namespace DL
open PySem PySem.Spec PyProof.Rows L2
/- asked_number -/
def rd_asked_number (K : PySem.W.Frag) (g : Str → Addr) : DCtx → DS := fun c =>
    (dSeq (dIfS (dB (dOp rIsN' (dOp rIx' (dVar 1) (dC (.int 1))) (dC .non))) (dRet (dOp rIx' (dVar 1) (dC (.int 2)))) dNext)
    (dRet (dOp rAdd' (dOp rIx' (dVar 0) (dOp rIx' (dVar 1) (dC (.int 1)))) (dOp rIx' (dVar 1) (dC (.int 2))))))
theorem der_asked_number {P : Program} {w : World} {K : PySem.W.Frag} {mg : Str → Option Value} {base : Heap} {g : Str → Addr} {f : Addr} (fx : Fx P w K mg base g) :
    PDSs (FX_asked_number P w K mg base f) K (defBody st_asked_number) (rd_asked_number K g) :=
  (ss_c (s_if (pdt_c c_is (pd_ix (pd_v 1 (hv := lm113) (hd := lm46) (hcd := lm47)) pd_int) pd_non) (ss_1 (s_ret (pd_ix (pd_v 1 (hv := lm113) (hd := lm46) (hcd := lm47)) pd_int))) ss_nil)
    (ss_1 (s_ret (pd_add (pd_ix (pd_v 0 (hv := lm109) (hd := lm110) (hcd := lm111)) (pd_ix (pd_v 1 (hv := lm113) (hd := lm46) (hcd := lm47)) pd_int)) (pd_ix (pd_v 1 (hv := lm113) (hd := lm46) (hcd := lm47)) pd_int)))))
end DL
end

section
set_option Elab.async false
set_option linter.all false
set_option maxRecDepth 100000
set_option maxHeartbeats 400000
namespace DL
open PySem PySem.Spec PyProof.Rows L2
/- check_demands -/
def rd_check_demands (K : PySem.W.Frag) (g : Str → Addr) : DCtx → DS := fun c =>
    (dSeq (dIfS (dNot (dTru (dCall (F_is_whole K g) [] c.w (dCons (dVar 0) (dCons (dC (.int 1)) (dCons (dC (.int 60)) dNil)))))) (dRaise (g "BadDemands") ["what", "index"] c.w (dCons (dC (.str "count")) (dCons (dC (.int 0)) dNil))) dNext)
    (dSeq (dIfS (dNot (dTru (dCall (F_is_row K g) [] c.w (dCons (dVar 1) (dCons (dC (.int 0)) (dCons (dC (.int 400)) dNil)))))) (dRaise (g "BadDemands") ["what", "index"] c.w (dCons (dC (.str "many")) (dCons (dC (.int 0)) dNil))) dNext)
    (dSeq (dFor (diEnum (dCons (dVar 1) dNil)) (dgTup 2 (dgCons (dgName 2) (dgCons (dgName 3) dgNil))) (dIfS (dNot (dTru (dCall (F_is_demand K g) [] c.w (dCons (dVar 0) (dCons (dVar 3) dNil))))) (dRaise (g "BadDemands") ["what", "index"] c.w (dCons (dC (.str "demand")) (dCons (dVar 2) dNil))) dNext))
    (dSeq (dAsg (dLc (diSeq (dVar 1)) (dgName 3) (dB (dOp rIsN' (dOp rIx' (dVar 3) (dC (.int 1))) (dC .non))) (dOp rIx' (dVar 3) (dC (.int 0))) [3]) (dgName 4))
    (dSeq (dFor (diRng1 (dCons (dVar 0) dNil)) (dgName 5) (dIfS (dB (dOp (rIn' true) (dVar 5) (dVar 4))) (dRaise (g "BadDemands") ["what", "index"] c.w (dCons (dC (.str "root")) (dCons (dVar 5) dNil))) dNext))
    (dRet (dCB rTupOf' (dCons (dLc (diSeq (dVar 1)) (dgName 3) dYes (dCB rTupOf' (dCons (dVar 3) dNil)) [3]) dNil))))))))
theorem der_check_demands {P : Program} {w : World} {K : PySem.W.Frag} {mg : Str → Option Value} {base : Heap} {g : Str → Addr} {f : Addr} (fx : Fx P w K mg base g) (h_is_demand : FnD P w K mg base 2 "is_demand" (F_is_demand K g) []) (h_is_row : FnD P w K mg base 1 "is_row" (F_is_row K g) []) (h_is_whole : FnD P w K mg base 1 "is_whole" (F_is_whole K g) []) :
    PDSs (FX_check_demands P w K mg base f) K (defBody st_check_demands) (rd_check_demands K g) :=
  (ss_c (s_if (pdt_not (pdt_tru (pd_call h_is_whole bf_room (by decide) (pa_c (pd_v 0 (hv := lm69) (hd := lm53) (hcd := lm54)) (pa_c pd_int (pa_c pd_int pa_n))) (hg := lm107) (hdb := lm50)))) (ss_1 (s_raise fx.ex_BadDemands bf_room (by decide) (pa_c pd_str (pa_c pd_int pa_n)) (hg := lm83) (hdb := lm84))) ss_nil)
    (ss_c (s_if (pdt_not (pdt_tru (pd_call h_is_row bf_room (by decide) (pa_c (pd_v 1 (hv := lm59) (hd := lm60) (hcd := lm61)) (pa_c pd_int (pa_c pd_int pa_n))) (hg := lm105) (hdb := lm57)))) (ss_1 (s_raise fx.ex_BadDemands bf_room (by decide) (pa_c pd_str (pa_c pd_int pa_n)) (hg := lm83) (hdb := lm84))) ss_nil)
    (ss_c (s_for (ws := [2, 3]) bf_pso (i_enum fx.m_enumerate (pa_c (pd_v 1 (hv := lm59) (hd := lm60) (hcd := lm61)) pa_n) (hg := lm90)) (pg_t (pgs_c (pg_n (i := 2) (show ∀ k, ((FX_check_demands P w K mg base f).X k).N.Nodup from fun _ => sc_check_demands.nd) (hx := lm95) (hf := lm96)) (pgs_c (pg_n (i := 3) (show ∀ k, ((FX_check_demands P w K mg base f).X k).N.Nodup from fun _ => sc_check_demands.nd) (hx := lm92) (hf := lm93)) pgs_n))) (ss_1 (s_if (pdt_not (pdt_tru (pd_call h_is_demand bf_room (by decide) (pa_c (pd_v 0 (hv := lm69) (hd := lm53) (hcd := lm54)) (pa_c (pd_v 3 (hv := lm97) (hd := lm46) (hcd := lm47)) pa_n)) (hg := lm99) (hdb := lm100)))) (ss_1 (s_raise fx.ex_BadDemands bf_room (by decide) (pa_c pd_str (pa_c (pd_v 2 (hv := lm101) (hd := lm102) (hcd := lm103)) pa_n)) (hg := lm83) (hdb := lm84))) ss_nil)))
    (ss_c (s_setLc (own := [("demand", 3)]) (g := fun cb1 => (dgName 3)) (tt := fun cb1 => (dB (dOp rIsN' (dOp rIx' (dVar 3) (dC (.int 1))) (dC .non)))) (te := fun cb1 => (dOp rIx' (dVar 3) (dC (.int 0)))) (i := 4) (show ∀ k, ((FX_check_demands P w K mg base f).X k).N.Nodup from fun _ => sc_check_demands.nd) (by intro _; kernel_rfl) (i_seq (pd_v 1 (hv := lm59) (hd := lm60) (hcd := lm61))) (show ∀ k, BlkOk ((FX_check_demands P w K mg base f).X k).N ((FX_check_demands P w K mg base f).X k).env.scope bs_check_demands_1 [("demand", 3)] from fun _ => blkOk_by blk_check_demands_1) (pg_n (i := 3) (show ∀ k, ((blkF (FX_check_demands P w K mg base f) bs_check_demands_1).X k).N.Nodup from fun _ => sc_check_demands.nd) (hx := lm85) (hf := lm86)) (ts_one (pdt_c c_is (pd_ix (pd_v 3 (hv := lm87) (hd := lm46) (hcd := lm47)) pd_int) pd_non)) (pd_ix (pd_v 3 (hv := lm87) (hd := lm46) (hcd := lm47)) pd_int) (hyl := lm88))
    (ss_c (s_for (ws := [5]) bf_pso (i_r1 fx.m_range (pa_c (pd_v 0 (hv := lm69) (hd := lm53) (hcd := lm54)) pa_n) (hg := lm71)) (pg_n (i := 5) (show ∀ k, ((FX_check_demands P w K mg base f).X k).N.Nodup from fun _ => sc_check_demands.nd) (hx := lm73) (hf := lm74)) (ss_1 (s_if (pdt_c c_nin (pd_v 5 (hv := lm75) (hd := lm76) (hcd := lm77)) (pd_v 4 (hv := lm79) (hd := lm80) (hcd := lm81))) (ss_1 (s_raise fx.ex_BadDemands bf_room (by decide) (pa_c pd_str (pa_c (pd_v 5 (hv := lm75) (hd := lm76) (hcd := lm77)) pa_n)) (hg := lm83) (hdb := lm84))) ss_nil)))
    (ss_1 (s_ret (pd_tupOf fx.m_tuple (pa_c (pd_lc (own := [("demand", 3)]) (g := fun cb0 => (dgName 3)) (tt := fun cb0 => dYes) (te := fun cb0 => (dCB rTupOf' (dCons (dVar 3) dNil))) (show ∀ k, ((FX_check_demands P w K mg base f).X k).N.Nodup from fun _ => sc_check_demands.nd) (i_seq (pd_v 1 (hv := lm59) (hd := lm60) (hcd := lm61))) (show ∀ k, BlkOk ((FX_check_demands P w K mg base f).X k).N ((FX_check_demands P w K mg base f).X k).env.scope bs_check_demands_0 [("demand", 3)] from fun _ => blkOk_by blk_check_demands_0) (pg_n (i := 3) (show ∀ k, ((blkF (FX_check_demands P w K mg base f) bs_check_demands_0).X k).N.Nodup from fun _ => sc_check_demands.nd) (hx := lm62) (hf := lm63)) ts_nil (pd_tupOf fx.m_tuple (pa_c (pd_v 3 (hv := lm64) (hd := lm46) (hcd := lm47)) pa_n) (hg := lm65))) pa_n) (hg := lm67)))))))))
end DL
end

section
set_option Elab.async false
set_option linter.all false
set_option maxRecDepth 100000
set_option maxHeartbeats 400000
namespace DL
open PySem PySem.Spec PyProof.Rows L2
/- greatest_roots -/
def rd_greatest_roots (K : PySem.W.Frag) (g : Str → Addr) : DCtx → DS := fun c =>
    (dSeq (dAsg (dOp rRepLM' (dLst (dCons (dC .non) dNil)) (dVar 0)) (dgName 2))
    (dSeq (dFor (diEnum (dCons (dVar 1) dNil)) (dgTup 2 (dgCons (dgName 3) (dgCons (dgName 4) dgNil))) (dSeq (dAsg (dOp rIx' (dVar 4) (dC (.int 0))) (dgName 5))
    (dIfS (dAnd (dB (dOp rIsN' (dOp rIx' (dVar 4) (dC (.int 1))) (dC .non))) (dOr (dB (dOp rIsN' (dOp rIx' (dVar 2) (dVar 5)) (dC .non))) (dB (dOp (rI0' fun i j => .bl (decide (j < i))) (dOp rIx' (dVar 4) (dC (.int 2))) (dOp rIx' (dOp rIx' (dVar 1) (dOp rIx' (dVar 2) (dVar 5))) (dC (.int 2))))))) (dAsg (dVar 3) (dgSub (dVar 2) (dVar 5))) dNext)))
    (dRet (dVar 2))))
theorem der_greatest_roots {P : Program} {w : World} {K : PySem.W.Frag} {mg : Str → Option Value} {base : Heap} {g : Str → Addr} {f : Addr} (fx : Fx P w K mg base g) :
    PDSs (FX_greatest_roots P w K mg base f) K (defBody st_greatest_roots) (rd_greatest_roots K g) :=
  (ss_c (s_set (i := 2) (show ∀ k, ((FX_greatest_roots P w K mg base f).X k).N.Nodup from fun _ => sc_greatest_roots.nd) (pd_repLM (pd_lst (pa_c pd_non pa_n)) (pd_v 0 (hv := lm137) (hd := lm53) (hcd := lm54))) (hx := lm138) (hf := lm139))
    (ss_c (s_for (ws := [3, 4]) bf_pso (i_enum fx.m_enumerate (pa_c (pd_v 1 (hv := lm119) (hd := lm120) (hcd := lm121)) pa_n) (hg := lm123)) (pg_t (pgs_c (pg_n (i := 3) (show ∀ k, ((FX_greatest_roots P w K mg base f).X k).N.Nodup from fun _ => sc_greatest_roots.nd) (hx := lm128) (hf := lm129)) (pgs_c (pg_n (i := 4) (show ∀ k, ((FX_greatest_roots P w K mg base f).X k).N.Nodup from fun _ => sc_greatest_roots.nd) (hx := lm125) (hf := lm126)) pgs_n))) (ss_c (s_set (i := 5) (show ∀ k, ((FX_greatest_roots P w K mg base f).X k).N.Nodup from fun _ => sc_greatest_roots.nd) (pd_ix (pd_v 4 (hv := lm130) (hd := lm46) (hcd := lm47)) pd_int) (hx := lm134) (hf := lm135))
    (ss_1 (s_if (pdw_and (pdt_c c_is (pd_ix (pd_v 4 (hv := lm130) (hd := lm46) (hcd := lm47)) pd_int) pd_non) (pdw_and1 (pdw_or (pdt_c c_is (pd_ix (pd_v 2 (hv := lm115) (hd := lm116) (hcd := lm117)) (pd_v 5 (hv := lm132) (hd := lm76) (hcd := lm77))) pd_non) (pdw_or1 (pdt_c c_gt (pd_ix (pd_v 4 (hv := lm130) (hd := lm46) (hcd := lm47)) pd_int) (pd_ix (pd_ix (pd_v 1 (hv := lm119) (hd := lm120) (hcd := lm121)) (pd_ix (pd_v 2 (hv := lm115) (hd := lm116) (hcd := lm117)) (pd_v 5 (hv := lm132) (hd := lm76) (hcd := lm77)))) pd_int)))).pdt)).pdt (ss_1 (s_asg (ws := []) (pd_v 3 (hv := lm133) (hd := lm102) (hcd := lm103)) (pg_s (pd_v 2 (hv := lm115) (hd := lm116) (hcd := lm117)) (pd_v 5 (hv := lm132) (hd := lm76) (hcd := lm77))))) ss_nil))))
    (ss_1 (s_ret (pd_v 2 (hv := lm115) (hd := lm116) (hcd := lm117))))))
end DL
end

section
set_option Elab.async false
set_option linter.all false
set_option maxRecDepth 100000
set_option maxHeartbeats 400000
namespace DL
open PySem PySem.Spec PyProof.Rows L2
/- is_demand -/
def rd_is_demand (K : PySem.W.Frag) (g : Str → Addr) : DCtx → DS := fun c =>
    (dSeq (dIfS (dOr (dNot (dTru (dCall (F_is_row K g) [] c.w (dCons (dVar 1) (dCons (dC (.int 3)) (dCons (dC (.int 3)) dNil)))))) (dNot (dTru (dCall (F_is_whole K g) [] c.w (dCons (dOp rIx' (dVar 1) (dC (.int 0))) (dCons (dC (.int 0)) (dCons (dOp (rI0' fun i j => .int (i - j)) (dVar 0) (dC (.int 1))) dNil))))))) (dRet (dC (.bl false))) dNext)
    (dSeq (dIfS (dAnd (dB (dOp rNotN' (dOp rIx' (dVar 1) (dC (.int 1))) (dC .non))) (dNot (dTru (dCall (F_is_whole K g) [] c.w (dCons (dOp rIx' (dVar 1) (dC (.int 1))) (dCons (dC (.int 0)) (dCons (dOp (rI0' fun i j => .int (i - j)) (dVar 0) (dC (.int 1))) dNil))))))) (dRet (dC (.bl false))) dNext)
    (dRet (dCall (F_is_whole K g) [] c.w (dCons (dOp rIx' (dVar 1) (dC (.int 2))) (dCons (dUnI (fun i => -i) (dOp (rI' CPow fun i j => .int (i ^ j.toNat)) (dC (.int 10)) (dC (.int 12)))) (dCons (dOp (rI' CPow fun i j => .int (i ^ j.toNat)) (dC (.int 10)) (dC (.int 12))) dNil)))))))
theorem der_is_demand {P : Program} {w : World} {K : PySem.W.Frag} {mg : Str → Option Value} {base : Heap} {g : Str → Addr} {f : Addr} (fx : Fx P w K mg base g) (h_is_row : FnD P w K mg base 1 "is_row" (F_is_row K g) []) (h_is_whole : FnD P w K mg base 1 "is_whole" (F_is_whole K g) []) :
    PDSs (FX_is_demand P w K mg base f) K (defBody st_is_demand) (rd_is_demand K g) :=
  (ss_c (s_if (pdw_or (pdt_not (pdt_tru (pd_call h_is_row bf_room (by decide) (pa_c (pd_v 1 (hv := lm45) (hd := lm46) (hcd := lm47)) (pa_c pd_int (pa_c pd_int pa_n))) (hg := lm56) (hdb := lm57)))) (pdw_or1 (pdt_not (pdt_tru (pd_call h_is_whole bf_room (by decide) (pa_c (pd_ix (pd_v 1 (hv := lm45) (hd := lm46) (hcd := lm47)) pd_int) (pa_c pd_int (pa_c (pd_sub (pd_v 0 (hv := lm52) (hd := lm53) (hcd := lm54)) pd_int) pa_n))) (hg := lm49) (hdb := lm50)))))).pdt (ss_1 (s_ret pd_bl)) ss_nil)
    (ss_c (s_if (pdw_and (pdt_c c_isn (pd_ix (pd_v 1 (hv := lm45) (hd := lm46) (hcd := lm47)) pd_int) pd_non) (pdw_and1 (pdt_not (pdt_tru (pd_call h_is_whole bf_room (by decide) (pa_c (pd_ix (pd_v 1 (hv := lm45) (hd := lm46) (hcd := lm47)) pd_int) (pa_c pd_int (pa_c (pd_sub (pd_v 0 (hv := lm52) (hd := lm53) (hcd := lm54)) pd_int) pa_n))) (hg := lm49) (hdb := lm50)))))).pdt (ss_1 (s_ret pd_bl)) ss_nil)
    (ss_1 (s_ret (pd_call h_is_whole bf_room (by decide) (pa_c (pd_ix (pd_v 1 (hv := lm45) (hd := lm46) (hcd := lm47)) pd_int) (pa_c (pd_neg (pd_pow pd_int pd_int)) (pa_c (pd_pow pd_int pd_int) pa_n))) (hg := lm49) (hdb := lm50))))))
end DL
end

section
set_option Elab.async false
set_option linter.all false
set_option maxRecDepth 100000
set_option maxHeartbeats 400000
namespace DL
open PySem PySem.Spec PyProof.Rows L2
/- is_number_row -/
def rd_is_number_row (K : PySem.W.Frag) (g : Str → Addr) : DCtx → DS := fun c =>
    (dSeq (dIfS (dOr (dNot (dTru (dCB (rIsi' K) (dCons (dVar 0) (dCons (dC (.ty .tuple)) dNil))))) (dB (dOp rNe' (dCB rLen' (dCons (dVar 0) dNil)) (dVar 1)))) (dRet (dC (.bl false))) dNext)
    (dRet (dCB rAll' (dCons (dLc (diSeq (dVar 0)) (dgName 2) dYes (dAndT (dCB (rIsi' K) (dCons (dVar 2) (dCons (dC (.ty .int)) dNil))) (dNotT (dCB (rIsi' K) (dCons (dVar 2) (dCons (dC (.ty .bool)) dNil))))) [2]) dNil))))
theorem der_is_number_row {P : Program} {w : World} {K : PySem.W.Frag} {mg : Str → Option Value} {base : Heap} {g : Str → Addr} {f : Addr} (fx : Fx P w K mg base g) :
    PDSs (FX_is_number_row P w K mg base f) K (defBody st_is_number_row) (rd_is_number_row K g) :=
  (ss_c (s_if (pdw_or (pdt_not (pdt_tru (pd_isi fx.m_isinstance (pa_c (pd_v 0 (hv := lm265) (hd := lm6) (hcd := lm7)) (pa_c (pd_ty .tuple fx.m_tuple (by decide +kernel) (hg := lm277) (hn := lm26) (hd := lm27)) pa_n)) (hg := lm279)))) (pdw_or1 (pdt_c (c_ne bf_room) (pd_len fx.m_len (pa_c (pd_v 0 (hv := lm265) (hd := lm6) (hcd := lm7)) pa_n) (hg := lm281)) (pd_v 1 (hv := lm283) (hd := lm284) (hcd := lm285))))).pdt (ss_1 (s_ret pd_bl)) ss_nil)
    (ss_1 (s_ret (pd_all fx.m_all (pa_c (pd_lc (own := [("item", 2)]) (g := fun cb0 => (dgName 2)) (tt := fun cb0 => dYes) (te := fun cb0 => (dAndT (dCB (rIsi' K) (dCons (dVar 2) (dCons (dC (.ty .int)) dNil))) (dNotT (dCB (rIsi' K) (dCons (dVar 2) (dCons (dC (.ty .bool)) dNil)))))) (show ∀ k, ((FX_is_number_row P w K mg base f).X k).N.Nodup from fun _ => sc_is_number_row.nd) (i_seq (pd_v 0 (hv := lm265) (hd := lm6) (hcd := lm7))) (show ∀ k, BlkOk ((FX_is_number_row P w K mg base f).X k).N ((FX_is_number_row P w K mg base f).X k).env.scope bs_is_number_row_0 [("item", 2)] from fun _ => blkOk_by blk_is_number_row_0) (pg_n (i := 2) (show ∀ k, ((blkF (FX_is_number_row P w K mg base f) bs_is_number_row_0).X k).N.Nodup from fun _ => sc_is_number_row.nd) (hx := lm266) (hf := lm267)) ts_nil (pd_and (pd_isi fx.m_isinstance (pa_c (pd_v 2 (hv := lm269) (hd := lm270) (hcd := lm271)) (pa_c (pd_ty .int fx.m_int (by decide +kernel) (hg := lm268) (hn := lm2) (hd := lm3)) pa_n)) (hg := lm272)) (pd_one (pd_not (pd_isi fx.m_isinstance (pa_c (pd_v 2 (hv := lm269) (hd := lm270) (hcd := lm271)) (pa_c (pd_ty .bool fx.m_bool (by decide +kernel) (hg := lm273) (hn := lm12) (hd := lm13)) pa_n)) (hg := lm272)))))) pa_n) (hg := lm275)))))
end DL
end

section
set_option Elab.async false
set_option linter.all false
set_option maxRecDepth 100000
set_option maxHeartbeats 400000
namespace DL
open PySem PySem.Spec PyProof.Rows L2
/- is_row -/
def rd_is_row (K : PySem.W.Frag) (g : Str → Addr) : DCtx → DS := fun c =>
    (dRet (dAndT (dIsiT [.list, .tuple] (dVar 0)) (dChain (rI0' fun i j => .bl (decide (i ≤ j))) (rI0' fun i j => .bl (decide (i ≤ j))) (dVar 1) (dCB rLen' (dCons (dVar 0) dNil)) (dVar 2))))
theorem der_is_row {P : Program} {w : World} {K : PySem.W.Frag} {mg : Str → Option Value} {base : Heap} {g : Str → Addr} {f : Addr} (fx : Fx P w K mg base g) :
    PDSs (FX_is_row P w K mg base f) K (defBody st_is_row) (rd_is_row K g) :=
  (ss_1 (s_ret (pd_and (pd_isiT [.list, .tuple] fx.m_isinstance (pd_v 0 (hv := lm23) (hd := lm6) (hcd := lm7)) (fun k => (pa_cons (pe_bltn (v := .ty "list") (lm29 k) (by rw [Fam.mg k]; exact fx.m_list) (by decide +kernel) rfl lm30 lm31) (pa_cons (pe_bltn (v := .ty "tuple") (lm25 k) (by rw [Fam.mg k]; exact fx.m_tuple) (by decide +kernel) rfl lm26 lm27) pa_nil rfl) rfl)) (hg := lm33)) (pd_one (pd_chain c_le c_le (pd_v 1 (hv := lm35) (hd := lm36) (hcd := lm37)) (pd_len fx.m_len (pa_c (pd_v 0 (hv := lm23) (hd := lm6) (hcd := lm7)) pa_n) (hg := lm39)) (pd_v 2 (hv := lm41) (hd := lm42) (hcd := lm43)))))))
end DL
end

section
set_option Elab.async false
set_option linter.all false
set_option maxRecDepth 100000
set_option maxHeartbeats 400000
namespace DL
open PySem PySem.Spec PyProof.Rows L2
/- is_whole -/
def rd_is_whole (K : PySem.W.Frag) (g : Str → Addr) : DCtx → DS := fun c =>
    (dRet (dAndT (dCB (rIsi' K) (dCons (dVar 0) (dCons (dC (.ty .int)) dNil))) (dAndT (dNotT (dCB (rIsi' K) (dCons (dVar 0) (dCons (dC (.ty .bool)) dNil)))) (dChain (rI0' fun i j => .bl (decide (i ≤ j))) (rI0' fun i j => .bl (decide (i ≤ j))) (dVar 1) (dVar 0) (dVar 2)))))
theorem der_is_whole {P : Program} {w : World} {K : PySem.W.Frag} {mg : Str → Option Value} {base : Heap} {g : Str → Addr} {f : Addr} (fx : Fx P w K mg base g) :
    PDSs (FX_is_whole P w K mg base f) K (defBody st_is_whole) (rd_is_whole K g) :=
  (ss_1 (s_ret (pd_and (pd_isi fx.m_isinstance (pa_c (pd_v 0 (hv := lm5) (hd := lm6) (hcd := lm7)) (pa_c (pd_ty .int fx.m_int (by decide +kernel) (hg := lm1) (hn := lm2) (hd := lm3)) pa_n)) (hg := lm9)) (pd_and (pd_not (pd_isi fx.m_isinstance (pa_c (pd_v 0 (hv := lm5) (hd := lm6) (hcd := lm7)) (pa_c (pd_ty .bool fx.m_bool (by decide +kernel) (hg := lm11) (hn := lm12) (hd := lm13)) pa_n)) (hg := lm9))) (pd_one (pd_chain c_le c_le (pd_v 1 (hv := lm15) (hd := lm16) (hcd := lm17)) (pd_v 0 (hv := lm5) (hd := lm6) (hcd := lm7)) (pd_v 2 (hv := lm19) (hd := lm20) (hcd := lm21))))))))
end DL
end

section
set_option Elab.async false
set_option linter.all false
set_option maxRecDepth 100000
set_option maxHeartbeats 400000
namespace DL
open PySem PySem.Spec PyProof.Rows L2
/- law -/
def rd_law (K : PySem.W.Frag) (g : Str → Addr) : DCtx → DS := fun c =>
    (dSeq (dAsg (dCall (F_law_hand K g) [] c.w (dCons (dVar 0) dNil)) (dgName 1))
    (dSeq (dFor (diRng1 (dCons (dC (.int 3)) dNil)) (dgName 2) (dSeq (dAsg (dCall (F_law_system K g) [] c.w (dCons (dVar 1) dNil)) (dgTup 2 (dgCons (dgName 3) (dgCons (dgName 4) dgNil))))
    (dSeq (dAsg (dCall (F_law_lists K g) [] c.w (dCons (dVar 1) (dCons (dLc (diSeq (dVar 4)) (dgName 8) dYes (dCall (F_law_lists K g) [] c0.w (dCons (dVar 1) (dCons (dVar 8) dNil))) [8]) dNil))) (dgName 5))
    (dSeq (dAsg (dCB rRepr' (dCons (dVar 5) dNil)) (dgName 6))
    (dSeq (dIfS (dB (dOp rNe' (dCall (F_check_demands K g) [] c.w (dCons (dVar 3) (dCons (dVar 5) dNil))) (dCB rTupOf' (dCons (dVar 4) dNil)))) (dRet (dC (.bl false))) dNext)
    (dSeq (dAsg (dCall (F_least_numbers K g) [] c.w (dCons (dVar 3) (dCons (dVar 5) dNil))) (dgName 7))
    (dSeq (dIfS (dTru (dCB (rIsi' K) (dCons (dVar 7) (dCons (dC (.raw (g "DemandRing"))) dNil)))) (dSeq (dIfS (dB (dOp rNotN' (dCall (F_law_ring_word K g) [] c.w (dCons (dVar 4) (dCons (dFld (g "DemandRing") "indexes" (dVar 7)) dNil))) (dC .non))) (dRet (dC (.bl false))) dNext)
    (dIfS (dB (dOp rNotN' (dCall (F_ring_fault K g) [] c.w (dCons (dVar 3) (dCons (dVar 5) (dCons (dVar 7) dNil)))) (dC .non))) (dRet (dC (.bl false))) dNext)) (dIfS (dTru (dCB (rIsi' K) (dCons (dVar 7) (dCons (dC (.raw (g "Least"))) dNil)))) (dSeq (dIfS (dB (dOp rNotN' (dCall (F_law_least_word K g) [] c.w (dCons (dVar 3) (dCons (dVar 4) (dCons (dFld (g "Least") "numbers" (dVar 7)) (dCons (dFld (g "Least") "reasons" (dVar 7)) dNil))))) (dC .non))) (dRet (dC (.bl false))) dNext)
    (dIfS (dB (dOp rNotN' (dCall (F_least_fault K g) [] c.w (dCons (dVar 3) (dCons (dVar 5) (dCons (dVar 7) dNil)))) (dC .non))) (dRet (dC (.bl false))) dNext)) (dRet (dC (.bl false)))))
    (dIfS (dB (dOp rNe' (dCB rRepr' (dCons (dVar 5) dNil)) (dVar 6))) (dRet (dC (.bl false))) dNext))))))))
    (dRet (dC (.bl true)))))
theorem der_law {P : Program} {w : World} {K : PySem.W.Frag} {mg : Str → Option Value} {base : Heap} {g : Str → Addr} {f : Addr} (fx : Fx P w K mg base g) (h_law_hand : FnD P w K mg base 1 "_law_hand" (F_law_hand K g) []) (h_law_least_word : FnD P w K mg base 2 "_law_least_word" (F_law_least_word K g) []) (h_law_lists : FnD P w K mg base 3 "_law_lists" (F_law_lists K g) []) (h_law_ring_word : FnD P w K mg base 2 "_law_ring_word" (F_law_ring_word K g) []) (h_law_system : FnD P w K mg base 3 "_law_system" (F_law_system K g) []) (h_check_demands : FnD P w K mg base 3 "check_demands" (F_check_demands K g) []) (h_least_fault : FnD P w K mg base 4 "least_fault" (F_least_fault K g) []) (h_least_numbers : FnD P w K mg base 4 "least_numbers" (F_least_numbers K g) []) (h_ring_fault : FnD P w K mg base 4 "ring_fault" (F_ring_fault K g) []) :
    PDSs (FX_law P w K mg base f) K (defBody st_law) (rd_law K g) :=
  (ss_c (s_set (i := 1) (show ∀ k, ((FX_law P w K mg base f).X k).N.Nodup from fun _ => sc_law.nd) (pd_call h_law_hand bfg_room (by decide) (pa_c (pd_v 0 (hv := lm685) (hd := lm380) (hcd := lm381)) pa_n) (hg := lm687) (hdb := lm688)) (hx := lm689) (hf := lm690))
    (ss_c (s_for (ws := [2]) bfg_pso (i_r1 fx.m_range (pa_c pd_int pa_n) (hg := lm614)) (pg_n (i := 2) (show ∀ k, ((FX_law P w K mg base f).X k).N.Nodup from fun _ => sc_law.nd) (hx := lm616) (hf := lm617)) (ss_c (s_asg (ws := [3, 4]) (pd_call h_law_system bfg_room (by decide) (pa_c (pd_v 1 (hv := lm672) (hd := lm422) (hcd := lm423)) pa_n) (hg := lm678) (hdb := lm679)) (pg_t (pgs_c (pg_n (i := 3) (show ∀ k, ((FX_law P w K mg base f).X k).N.Nodup from fun _ => sc_law.nd) (hx := lm682) (hf := lm683)) (pgs_c (pg_n (i := 4) (show ∀ k, ((FX_law P w K mg base f).X k).N.Nodup from fun _ => sc_law.nd) (hx := lm680) (hf := lm681)) pgs_n))))
    (ss_c (s_set (i := 5) (show ∀ k, ((FX_law P w K mg base f).X k).N.Nodup from fun _ => sc_law.nd) (pd_call h_law_lists bfg_room (by decide) (pa_c (pd_v 1 (hv := lm672) (hd := lm422) (hcd := lm423)) (pa_c (pd_lc (own := [("_law_row", 8)]) (g := fun cb0 => (dgName 8)) (tt := fun cb0 => dYes) (te := fun cb0 => (dCall (F_law_lists K g) [] cb0.w (dCons (dVar 1) (dCons (dVar 8) dNil)))) (show ∀ k, ((FX_law P w K mg base f).X k).N.Nodup from fun _ => sc_law.nd) (i_seq (pd_v 4 (hv := lm642) (hd := lm478) (hcd := lm479))) (show ∀ k, BlkOk ((FX_law P w K mg base f).X k).N ((FX_law P w K mg base f).X k).env.scope bs_law_0 [("_law_row", 8)] from fun _ => blkOk_by blk_law_0) (pg_n (i := 8) (show ∀ k, ((blkF (FX_law P w K mg base f) bs_law_0).X k).N.Nodup from fun _ => sc_law.nd) (hx := lm665) (hf := lm666)) ts_nil (pd_call h_law_lists (blk_room bfg_room) (by decide) (pa_c (pd_v 1 (hv := lm668) (hd := lm422) (hcd := lm423)) (pa_c (pd_v 8 (hv := lm667) (hd := lm495) (hcd := lm496)) pa_n)) (hg := lm669) (hdb := lm670))) pa_n)) (hg := lm674) (hdb := lm670)) (hx := lm675) (hf := lm676))
    (ss_c (s_set (i := 6) (show ∀ k, ((FX_law P w K mg base f).X k).N.Nodup from fun _ => sc_law.nd) (pd_repr bfg_ng bfg_room fx.m_repr (pa_c (pd_v 5 (hv := lm619) (hd := lm620) (hcd := lm621)) pa_n) (hg := lm623)) (hx := lm663) (hf := lm664))
    (ss_c (s_if (pdt_c (c_ne bfg_room) (pd_call h_check_demands bfg_room (by decide) (pa_c (pd_v 3 (hv := lm637) (hd := lm482) (hcd := lm483)) (pa_c (pd_v 5 (hv := lm619) (hd := lm620) (hcd := lm621)) pa_n)) (hg := lm660) (hdb := lm261)) (pd_tupOf fx.m_tuple (pa_c (pd_v 4 (hv := lm642) (hd := lm478) (hcd := lm479)) pa_n) (hg := lm662))) (ss_1 (s_ret pd_bl)) ss_nil)
    (ss_c (s_set (i := 7) (show ∀ k, ((FX_law P w K mg base f).X k).N.Nodup from fun _ => sc_law.nd) (pd_call h_least_numbers bfg_room (by decide) (pa_c (pd_v 3 (hv := lm637) (hd := lm482) (hcd := lm483)) (pa_c (pd_v 5 (hv := lm619) (hd := lm620) (hcd := lm621)) pa_n)) (hg := lm655) (hdb := lm656)) (hx := lm657) (hf := lm658))
    (ss_c (s_if (pdt_tru (pd_isi fx.m_isinstance (pa_c (pd_v 7 (hv := lm631) (hd := lm632) (hcd := lm633)) (pa_c (pd_glob (A := g "DemandRing") fx.g_DemandRing (hg := lm629) (hd := lm235)) pa_n)) (hg := lm635))) (ss_c (s_if (pdt_c c_isn (pd_call h_law_ring_word bfg_room (by decide) (pa_c (pd_v 4 (hv := lm642) (hd := lm478) (hcd := lm479)) (pa_c (pd_fld fx.cls_DemandRing fx.na_DemandRing_indexes (pd_v 7 (hv := lm631) (hd := lm632) (hcd := lm633))) pa_n)) (hg := lm644) (hdb := lm645)) pd_non) (ss_1 (s_ret pd_bl)) ss_nil)
    (ss_1 (s_if (pdt_c c_isn (pd_call h_ring_fault bfg_room (by decide) (pa_c (pd_v 3 (hv := lm637) (hd := lm482) (hcd := lm483)) (pa_c (pd_v 5 (hv := lm619) (hd := lm620) (hcd := lm621)) (pa_c (pd_v 7 (hv := lm631) (hd := lm632) (hcd := lm633)) pa_n))) (hg := lm639) (hdb := lm640)) pd_non) (ss_1 (s_ret pd_bl)) ss_nil))) (ss_1 (s_if (pdt_tru (pd_isi fx.m_isinstance (pa_c (pd_v 7 (hv := lm631) (hd := lm632) (hcd := lm633)) (pa_c (pd_glob (A := g "Least") fx.g_Least (hg := lm647) (hd := lm193)) pa_n)) (hg := lm635))) (ss_c (s_if (pdt_c c_isn (pd_call h_law_least_word bfg_room (by decide) (pa_c (pd_v 3 (hv := lm637) (hd := lm482) (hcd := lm483)) (pa_c (pd_v 4 (hv := lm642) (hd := lm478) (hcd := lm479)) (pa_c (pd_fld fx.cls_Least fx.na_Least_numbers (pd_v 7 (hv := lm631) (hd := lm632) (hcd := lm633))) (pa_c (pd_fld fx.cls_Least fx.na_Least_reasons (pd_v 7 (hv := lm631) (hd := lm632) (hcd := lm633))) pa_n)))) (hg := lm652) (hdb := lm653)) pd_non) (ss_1 (s_ret pd_bl)) ss_nil)
    (ss_1 (s_if (pdt_c c_isn (pd_call h_least_fault bfg_room (by decide) (pa_c (pd_v 3 (hv := lm637) (hd := lm482) (hcd := lm483)) (pa_c (pd_v 5 (hv := lm619) (hd := lm620) (hcd := lm621)) (pa_c (pd_v 7 (hv := lm631) (hd := lm632) (hcd := lm633)) pa_n))) (hg := lm649) (hdb := lm650)) pd_non) (ss_1 (s_ret pd_bl)) ss_nil))) (ss_1 (s_ret pd_bl)))))
    (ss_1 (s_if (pdt_c (c_ne bfg_room) (pd_repr bfg_ng bfg_room fx.m_repr (pa_c (pd_v 5 (hv := lm619) (hd := lm620) (hcd := lm621)) pa_n) (hg := lm623)) (pd_v 6 (hv := lm625) (hd := lm626) (hcd := lm627))) (ss_1 (s_ret pd_bl)) ss_nil)))))))))
    (ss_1 (s_ret pd_bl))))
end DL
end

section
set_option Elab.async false
set_option linter.all false
set_option maxRecDepth 100000
set_option maxHeartbeats 400000
namespace DL
open PySem PySem.Spec PyProof.Rows L2
/- _law_claimed -/
def rd_law_claimed (K : PySem.W.Frag) (g : Str → Addr) : DCtx → DS := fun c =>
    (dRet (dIf (dB (dOp rIsN' (dOp rIx' (dVar 1) (dC (.int 1))) (dC .non))) (dOp rIx' (dVar 1) (dC (.int 2))) (dOp rAdd' (dOp rIx' (dVar 0) (dOp rIx' (dVar 1) (dC (.int 1)))) (dOp rIx' (dVar 1) (dC (.int 2))))))
theorem der_law_claimed {P : Program} {w : World} {K : PySem.W.Frag} {mg : Str → Option Value} {base : Heap} {g : Str → Addr} {f : Addr} (fx : Fx P w K mg base g) :
    PDSs (FX_law_claimed P w K mg base f) K (defBody st_law_claimed) (rd_law_claimed K g) :=
  (ss_1 (s_ret (pd_if (pdt_c c_is (pd_ix (pd_v 1 (hv := lm538) (hd := lm495) (hcd := lm496)) pd_int) pd_non) (pd_ix (pd_v 1 (hv := lm538) (hd := lm495) (hcd := lm496)) pd_int) (pd_add (pd_ix (pd_v 0 (hv := lm540) (hd := lm541) (hcd := lm542)) (pd_ix (pd_v 1 (hv := lm538) (hd := lm495) (hcd := lm496)) pd_int)) (pd_ix (pd_v 1 (hv := lm538) (hd := lm495) (hcd := lm496)) pd_int)))))
end DL
end

section
set_option Elab.async false
set_option linter.all false
set_option maxRecDepth 100000
set_option maxHeartbeats 400000
namespace DL
open PySem PySem.Spec PyProof.Rows L2
/- _law_hand -/
def rd_law_hand (K : PySem.W.Frag) (g : Str → Addr) : DCtx → DS := fun c =>
    (dSeq (dAsg (dOp rAdd' (dCB (rLenS' K) (dCons (dVar 0) dNil)) (dC (.int 37))) (dgName 1))
    (dSeq (dAsg (dLstM dNil) (dgName 2))
    (dSeq (dFor (diSeqS K (dVar 0)) (dgName 3) (dSeq (dAsg (dOp (rI' (fun _ j => 0 < j) fun i j => .int (i % j)) (dCB rInt' (dCons (dOp rAdd' (dOp (rI' CM fun i j => .int (i * j)) (dVar 1) (dC (.int 1709))) (dCB rInt' (dCons (dVar 3) dNil))) dNil)) (dC (.int 2147483549))) (dgName 1))
    (dDrop (dBM rAppend' (dVar 2) (dCons (dCB rAbs' (dCons (dCB rInt' (dCons (dVar 3) dNil)) dNil)) dNil)))))
    (dRetG (dLstM (dCons (dVar 2) (dCons (dC (.int 0)) (dCons (dC (.int 0)) (dCons (dVar 1) dNil)))))))))
theorem der_law_hand {P : Program} {w : World} {K : PySem.W.Frag} {mg : Str → Option Value} {base : Heap} {g : Str → Addr} {f : Addr} (fx : Fx P w K mg base g) :
    PDSs (FX_law_hand P w K mg base f) K (defBody st_law_hand) (rd_law_hand K g) :=
  (ss_c (s_set (i := 1) (show ∀ k, ((FX_law_hand P w K mg base f).X k).N.Nodup from fun _ => sc_law_hand.nd) (pd_add (pd_lenS fx.m_len (pa_c (pd_v 0 (hv := lm379) (hd := lm380) (hcd := lm381)) pa_n) (hg := lm397)) pd_int) (hx := lm392) (hf := lm393))
    (ss_c (s_set (i := 2) (show ∀ k, ((FX_law_hand P w K mg base f).X k).N.Nodup from fun _ => sc_law_hand.nd) (pd_lstM pa_n) (hx := lm394) (hf := lm395))
    (ss_c (s_for (ws := [3]) bf_pso (i_seqS (pd_v 0 (hv := lm379) (hd := lm380) (hcd := lm381))) (pg_n (i := 3) (show ∀ k, ((FX_law_hand P w K mg base f).X k).N.Nodup from fun _ => sc_law_hand.nd) (hx := lm383) (hf := lm384)) (ss_c (s_set (i := 1) (show ∀ k, ((FX_law_hand P w K mg base f).X k).N.Nodup from fun _ => sc_law_hand.nd) (pd_mod (pd_int1 fx.m_int (pa_c (pd_add (pd_mul (pd_v 1 (hv := lm371) (hd := lm372) (hcd := lm373)) pd_int) (pd_int1 fx.m_int (pa_c (pd_v 3 (hv := lm385) (hd := lm386) (hcd := lm387)) pa_n) (hg := lm389))) pa_n) (hg := lm389)) pd_int) (hx := lm392) (hf := lm393))
    (ss_1 (s_expr (pd_append (pd_v 2 (hv := lm375) (hd := lm376) (hcd := lm377)) (pa_c (pd_abs fx.m_abs (pa_c (pd_int1 fx.m_int (pa_c (pd_v 3 (hv := lm385) (hd := lm386) (hcd := lm387)) pa_n) (hg := lm389)) pa_n) (hg := lm391)) pa_n))))))
    (ss_1 (s_retG (pd_lstM (pa_c (pd_v 2 (hv := lm375) (hd := lm376) (hcd := lm377)) (pa_c pd_int (pa_c pd_int (pa_c (pd_v 1 (hv := lm371) (hd := lm372) (hcd := lm373)) pa_n))))))))))
end DL
end

section
set_option Elab.async false
set_option linter.all false
set_option maxRecDepth 100000
set_option maxHeartbeats 400000
namespace DL
open PySem PySem.Spec PyProof.Rows L2
/- _law_least_word -/
def rd_law_least_word (K : PySem.W.Frag) (g : Str → Addr) : DCtx → DS := fun c =>
    (dSeq (dIfS (dNot (dTru (dCall (F_law_row_of K g) [] c.w (dCons (dVar 2) (dCons (dVar 0) dNil))))) (dRet (dC (.str "numbers"))) dNext)
    (dSeq (dIfS (dNot (dTru (dCall (F_law_row_of K g) [] c.w (dCons (dVar 3) (dCons (dVar 0) dNil))))) (dRet (dC (.str "reason"))) dNext)
    (dSeq (dFor (diRng1 (dCons (dVar 0) dNil)) (dgName 4) (dIfS (dOr (dNot (dB (dChain (rI0' fun i j => .bl (decide (i ≤ j))) (rI0' fun i j => .bl (decide (i < j))) (dC (.int 0)) (dOp rIx' (dVar 3) (dVar 4)) (dCB rLen' (dCons (dVar 1) dNil))))) (dB (dOp rNe' (dOp rIx' (dOp rIx' (dVar 1) (dOp rIx' (dVar 3) (dVar 4))) (dC (.int 0))) (dVar 4)))) (dRet (dC (.str "reason"))) dNext))
    (dSeq (dIfS (dTru (dLc (diSeq (dVar 1)) (dgName 7) (dB (dOp (rI0' fun i j => .bl (decide (i < j))) (dOp rIx' (dVar 2) (dOp rIx' (dVar 7) (dC (.int 0)))) (dCall (F_law_claimed K g) [] c0.w (dCons (dVar 2) (dCons (dVar 7) dNil))))) (dC (.int 1)) [7])) (dRet (dC (.str "demand"))) dNext)
    (dSeq (dFor (diRng1 (dCons (dVar 0) dNil)) (dgName 4) (dIfS (dB (dOp rNe' (dOp rIx' (dVar 2) (dVar 4)) (dCall (F_law_claimed K g) [] c.w (dCons (dVar 2) (dCons (dOp rIx' (dVar 1) (dOp rIx' (dVar 3) (dVar 4))) dNil))))) (dRet (dC (.str "met"))) dNext))
    (dSeq (dFor (diRng1 (dCons (dVar 0) dNil)) (dgName 4) (dSeq (dAsg (dVar 4) (dgName 5))
    (dSeq (dFor (diRng1 (dCons (dVar 0) dNil)) (dgName 6) (dAsg (dIf (dB (dOp rIsN' (dOp rIx' (dOp rIx' (dVar 1) (dOp rIx' (dVar 3) (dVar 5))) (dC (.int 1))) (dC .non))) (dVar 5) (dOp rIx' (dOp rIx' (dVar 1) (dOp rIx' (dVar 3) (dVar 5))) (dC (.int 1)))) (dgName 5)))
    (dIfS (dB (dOp rNotN' (dOp rIx' (dOp rIx' (dVar 1) (dOp rIx' (dVar 3) (dVar 5))) (dC (.int 1))) (dC .non))) (dRet (dC (.str "ring"))) dNext))))
    (dRet (dC .non))))))))
theorem der_law_least_word {P : Program} {w : World} {K : PySem.W.Frag} {mg : Str → Option Value} {base : Heap} {g : Str → Addr} {f : Addr} (fx : Fx P w K mg base g) (h_law_claimed : FnD P w K mg base 1 "_law_claimed" (F_law_claimed K g) []) (h_law_row_of : FnD P w K mg base 1 "_law_row_of" (F_law_row_of K g) []) :
    PDSs (FX_law_least_word P w K mg base f) K (defBody st_law_least_word) (rd_law_least_word K g) :=
  (ss_c (s_if (pdt_not (pdt_tru (pd_call h_law_row_of bf_room (by decide) (pa_c (pd_v 2 (hv := lm567) (hd := lm541) (hcd := lm542)) (pa_c (pd_v 0 (hv := lm544) (hd := lm482) (hcd := lm483)) pa_n)) (hg := lm579) (hdb := lm580)))) (ss_1 (s_ret pd_str)) ss_nil)
    (ss_c (s_if (pdt_not (pdt_tru (pd_call h_law_row_of bf_room (by decide) (pa_c (pd_v 3 (hv := lm553) (hd := lm554) (hcd := lm555)) (pa_c (pd_v 0 (hv := lm544) (hd := lm482) (hcd := lm483)) pa_n)) (hg := lm579) (hdb := lm580)))) (ss_1 (s_ret pd_str)) ss_nil)
    (ss_c (s_for (ws := [4]) bf_pso (i_r1 fx.m_range (pa_c (pd_v 0 (hv := lm544) (hd := lm482) (hcd := lm483)) pa_n) (hg := lm546)) (pg_n (i := 4) (show ∀ k, ((FX_law_least_word P w K mg base f).X k).N.Nodup from fun _ => sc_law_least_word.nd) (hx := lm548) (hf := lm549)) (ss_1 (s_if (pdw_or (pdt_not (pdt_chain c_le c_lt pd_int (pd_ix (pd_v 3 (hv := lm553) (hd := lm554) (hcd := lm555)) (pd_v 4 (hv := lm565) (hd := lm526) (hcd := lm527))) (pd_len fx.m_len (pa_c (pd_v 1 (hv := lm551) (hd := lm478) (hcd := lm479)) pa_n) (hg := lm577)))) (pdw_or1 (pdt_c (c_ne bf_room) (pd_ix (pd_ix (pd_v 1 (hv := lm551) (hd := lm478) (hcd := lm479)) (pd_ix (pd_v 3 (hv := lm553) (hd := lm554) (hcd := lm555)) (pd_v 4 (hv := lm565) (hd := lm526) (hcd := lm527)))) pd_int) (pd_v 4 (hv := lm565) (hd := lm526) (hcd := lm527))))).pdt (ss_1 (s_ret pd_str)) ss_nil)))
    (ss_c (s_if (pdt_tru (pd_lc (own := [("_law_row", 7)]) (g := fun cb0 => (dgName 7)) (tt := fun cb0 => (dB (dOp (rI0' fun i j => .bl (decide (i < j))) (dOp rIx' (dVar 2) (dOp rIx' (dVar 7) (dC (.int 0)))) (dCall (F_law_claimed K g) [] cb0.w (dCons (dVar 2) (dCons (dVar 7) dNil)))))) (te := fun cb0 => (dC (.int 1))) (show ∀ k, ((FX_law_least_word P w K mg base f).X k).N.Nodup from fun _ => sc_law_least_word.nd) (i_seq (pd_v 1 (hv := lm551) (hd := lm478) (hcd := lm479))) (show ∀ k, BlkOk ((FX_law_least_word P w K mg base f).X k).N ((FX_law_least_word P w K mg base f).X k).env.scope bs_law_least_word_0 [("_law_row", 7)] from fun _ => blkOk_by blk_law_least_word_0) (pg_n (i := 7) (show ∀ k, ((blkF (FX_law_least_word P w K mg base f) bs_law_least_word_0).X k).N.Nodup from fun _ => sc_law_least_word.nd) (hx := lm571) (hf := lm572)) (ts_one (pdt_c c_lt (pd_ix (pd_v 2 (hv := lm573) (hd := lm541) (hcd := lm542)) (pd_ix (pd_v 7 (hv := lm574) (hd := lm495) (hcd := lm496)) pd_int)) (pd_call h_law_claimed (blk_room bf_room) (by decide) (pa_c (pd_v 2 (hv := lm573) (hd := lm541) (hcd := lm542)) (pa_c (pd_v 7 (hv := lm574) (hd := lm495) (hcd := lm496)) pa_n)) (hg := lm575) (hdb := lm570)))) pd_int)) (ss_1 (s_ret pd_str)) ss_nil)
    (ss_c (s_for (ws := [4]) bf_pso (i_r1 fx.m_range (pa_c (pd_v 0 (hv := lm544) (hd := lm482) (hcd := lm483)) pa_n) (hg := lm546)) (pg_n (i := 4) (show ∀ k, ((FX_law_least_word P w K mg base f).X k).N.Nodup from fun _ => sc_law_least_word.nd) (hx := lm548) (hf := lm549)) (ss_1 (s_if (pdt_c (c_ne bf_room) (pd_ix (pd_v 2 (hv := lm567) (hd := lm541) (hcd := lm542)) (pd_v 4 (hv := lm565) (hd := lm526) (hcd := lm527))) (pd_call h_law_claimed bf_room (by decide) (pa_c (pd_v 2 (hv := lm567) (hd := lm541) (hcd := lm542)) (pa_c (pd_ix (pd_v 1 (hv := lm551) (hd := lm478) (hcd := lm479)) (pd_ix (pd_v 3 (hv := lm553) (hd := lm554) (hcd := lm555)) (pd_v 4 (hv := lm565) (hd := lm526) (hcd := lm527)))) pa_n)) (hg := lm569) (hdb := lm570))) (ss_1 (s_ret pd_str)) ss_nil)))
    (ss_c (s_for (ws := [4]) bf_pso (i_r1 fx.m_range (pa_c (pd_v 0 (hv := lm544) (hd := lm482) (hcd := lm483)) pa_n) (hg := lm546)) (pg_n (i := 4) (show ∀ k, ((FX_law_least_word P w K mg base f).X k).N.Nodup from fun _ => sc_law_least_word.nd) (hx := lm548) (hf := lm549)) (ss_c (s_set (i := 5) (show ∀ k, ((FX_law_least_word P w K mg base f).X k).N.Nodup from fun _ => sc_law_least_word.nd) (pd_v 4 (hv := lm565) (hd := lm526) (hcd := lm527)) (hx := lm563) (hf := lm564))
    (ss_c (s_for (ws := [6]) bf_pso (i_r1 fx.m_range (pa_c (pd_v 0 (hv := lm544) (hd := lm482) (hcd := lm483)) pa_n) (hg := lm546)) (pg_n (i := 6) (show ∀ k, ((FX_law_least_word P w K mg base f).X k).N.Nodup from fun _ => sc_law_least_word.nd) (hx := lm561) (hf := lm562)) (ss_1 (s_set (i := 5) (show ∀ k, ((FX_law_least_word P w K mg base f).X k).N.Nodup from fun _ => sc_law_least_word.nd) (pd_if (pdt_c c_is (pd_ix (pd_ix (pd_v 1 (hv := lm551) (hd := lm478) (hcd := lm479)) (pd_ix (pd_v 3 (hv := lm553) (hd := lm554) (hcd := lm555)) (pd_v 5 (hv := lm557) (hd := lm558) (hcd := lm559)))) pd_int) pd_non) (pd_v 5 (hv := lm557) (hd := lm558) (hcd := lm559)) (pd_ix (pd_ix (pd_v 1 (hv := lm551) (hd := lm478) (hcd := lm479)) (pd_ix (pd_v 3 (hv := lm553) (hd := lm554) (hcd := lm555)) (pd_v 5 (hv := lm557) (hd := lm558) (hcd := lm559)))) pd_int)) (hx := lm563) (hf := lm564))))
    (ss_1 (s_if (pdt_c c_isn (pd_ix (pd_ix (pd_v 1 (hv := lm551) (hd := lm478) (hcd := lm479)) (pd_ix (pd_v 3 (hv := lm553) (hd := lm554) (hcd := lm555)) (pd_v 5 (hv := lm557) (hd := lm558) (hcd := lm559)))) pd_int) pd_non) (ss_1 (s_ret pd_str)) ss_nil)))))
    (ss_1 (s_ret pd_non))))))))
end DL
end

section
set_option Elab.async false
set_option linter.all false
set_option maxRecDepth 100000
set_option maxHeartbeats 400000
namespace DL
open PySem PySem.Spec PyProof.Rows L2
/- _law_lists -/
def rd_law_lists (K : PySem.W.Frag) (g : Str → Addr) : DCtx → DS := fun c =>
    (dRet (dIf (dTru (dCall (F_law_take K g) [] c.w (dCons (dVar 0) (dCons (dC (.int 2)) dNil)))) (dCB rListOf' (dCons (dVar 1) dNil)) (dCB rTupOf' (dCons (dVar 1) dNil))))
theorem der_law_lists {P : Program} {w : World} {K : PySem.W.Frag} {mg : Str → Option Value} {base : Heap} {g : Str → Addr} {f : Addr} (fx : Fx P w K mg base g) (h_law_take : FnD P w K mg base 2 "_law_take" (F_law_take K g) []) :
    PDSs (FX_law_lists P w K mg base f) K (defBody st_law_lists) (rd_law_lists K g) :=
  (ss_1 (s_ret (pd_if (pdt_tru (pd_call h_law_take bf_room (by decide) (pa_c (pd_v 0 (hv := lm446) (hd := lm422) (hcd := lm423)) (pa_c pd_int pa_n)) (hg := lm448) (hdb := lm449))) (pd_listOf fx.m_list (pa_c (pd_v 1 (hv := lm451) (hd := lm452) (hcd := lm453)) pa_n) (hg := lm455)) (pd_tupOf fx.m_tuple (pa_c (pd_v 1 (hv := lm451) (hd := lm452) (hcd := lm453)) pa_n) (hg := lm457)))))
end DL
end

section
set_option Elab.async false
set_option linter.all false
set_option maxRecDepth 100000
set_option maxHeartbeats 400000
namespace DL
open PySem PySem.Spec PyProof.Rows L2
/- _law_mixed -/
def rd_law_mixed (K : PySem.W.Frag) (g : Str → Addr) : DCtx → DS := fun c =>
    (dSeq (dAsg (dOp (rI' (fun _ j => 0 < j) fun i j => .int (i % j)) (dCB rInt' (dCons (dOp rAdd' (dOp rAdd' (dOp (rI' CM fun i j => .int (i * j)) (dVar 0) (dC (.int 48271))) (dOp (rI' CM fun i j => .int (i * j)) (dVar 1) (dC (.int 7919)))) (dC (.int 30011))) dNil)) (dC (.int 2147483399))) (dgName 2))
    (dSeq (dAsg (dOp (rI' (fun _ j => 0 < j) fun i j => .int (i % j)) (dCB rInt' (dCons (dOp rAdd' (dOp rAdd' (dOp (rI' CM fun i j => .int (i * j)) (dVar 2) (dVar 2)) (dOp (rI' CM fun i j => .int (i * j)) (dVar 1) (dC (.int 92821)))) (dOp (rI' CD fun i j => .int (i / j)) (dVar 2) (dC (.int 131)))) dNil)) (dC (.int 2147483629))) (dgName 3))
    (dRet (dOp (rI' CD fun i j => .int (i / j)) (dCB rInt' (dCons (dOp (rI' (fun _ j => 0 < j) fun i j => .int (i % j)) (dCB rInt' (dCons (dOp rAdd' (dOp (rI' CM fun i j => .int (i * j)) (dVar 3) (dC (.int 69621))) (dOp (rI' CD fun i j => .int (i / j)) (dVar 2) (dC (.int 13)))) dNil)) (dC (.int 2147483587))) dNil)) (dC (.int 32))))))
theorem der_law_mixed {P : Program} {w : World} {K : PySem.W.Frag} {mg : Str → Option Value} {base : Heap} {g : Str → Addr} {f : Addr} (fx : Fx P w K mg base g) :
    PDSs (FX_law_mixed P w K mg base f) K (defBody st_law_mixed) (rd_law_mixed K g) :=
  (ss_c (s_set (i := 2) (show ∀ k, ((FX_law_mixed P w K mg base f).X k).N.Nodup from fun _ => sc_law_mixed.nd) (pd_mod (pd_int1 fx.m_int (pa_c (pd_add (pd_add (pd_mul (pd_v 0 (hv := lm415) (hd := lm416) (hcd := lm417)) pd_int) (pd_mul (pd_v 1 (hv := lm409) (hd := lm410) (hcd := lm411)) pd_int)) pd_int) pa_n) (hg := lm407)) pd_int) (hx := lm418) (hf := lm419))
    (ss_c (s_set (i := 3) (show ∀ k, ((FX_law_mixed P w K mg base f).X k).N.Nodup from fun _ => sc_law_mixed.nd) (pd_mod (pd_int1 fx.m_int (pa_c (pd_add (pd_add (pd_mul (pd_v 2 (hv := lm403) (hd := lm404) (hcd := lm405)) (pd_v 2 (hv := lm403) (hd := lm404) (hcd := lm405))) (pd_mul (pd_v 1 (hv := lm409) (hd := lm410) (hcd := lm411)) pd_int)) (pd_div (pd_v 2 (hv := lm403) (hd := lm404) (hcd := lm405)) pd_int)) pa_n) (hg := lm407)) pd_int) (hx := lm412) (hf := lm413))
    (ss_1 (s_ret (pd_div (pd_int1 fx.m_int (pa_c (pd_mod (pd_int1 fx.m_int (pa_c (pd_add (pd_mul (pd_v 3 (hv := lm399) (hd := lm400) (hcd := lm401)) pd_int) (pd_div (pd_v 2 (hv := lm403) (hd := lm404) (hcd := lm405)) pd_int)) pa_n) (hg := lm407)) pd_int) pa_n) (hg := lm407)) pd_int)))))
end DL
end

section
set_option Elab.async false
set_option linter.all false
set_option maxRecDepth 100000
set_option maxHeartbeats 400000
namespace DL
open PySem PySem.Spec PyProof.Rows L2
/- _law_ring_word -/
def rd_law_ring_word (K : PySem.W.Frag) (g : Str → Addr) : DCtx → DS := fun c =>
    (dSeq (dIfS (dOr (dNot (dTru (dCB (rIsi' K) (dCons (dVar 1) (dCons (dC (.ty .tuple)) dNil))))) (dOr (dB (dOp rEq' (dVar 1) (dTup dNil))) (dNot (dTru (dCall (F_law_row_of K g) [] c.w (dCons (dVar 1) (dCons (dCB rLen' (dCons (dVar 1) dNil)) dNil))))))) (dRet (dC (.str "index"))) dNext)
    (dSeq (dFor (diSeq (dVar 1)) (dgName 2) (dIfS (dOr (dNot (dB (dChain (rI0' fun i j => .bl (decide (i ≤ j))) (rI0' fun i j => .bl (decide (i < j))) (dC (.int 0)) (dVar 2) (dCB rLen' (dCons (dVar 0) dNil))))) (dB (dOp rIsN' (dOp rIx' (dOp rIx' (dVar 0) (dVar 2)) (dC (.int 1))) (dC .non)))) (dRet (dC (.str "index"))) dNext))
    (dSeq (dFor (diRng1 (dCons (dCB rLen' (dCons (dVar 1) dNil)) dNil)) (dgName 3) (dIfS (dB (dOp rNe' (dOp rIx' (dOp rIx' (dVar 0) (dOp rIx' (dVar 1) (dVar 3))) (dC (.int 0))) (dOp rIx' (dOp rIx' (dVar 0) (dOp rIx' (dVar 1) (dIf (dB (dOp (rI0' fun i j => .bl (decide (i < j))) (dOp rAdd' (dVar 3) (dC (.int 1))) (dCB rLen' (dCons (dVar 1) dNil)))) (dOp rAdd' (dVar 3) (dC (.int 1))) (dC (.int 0))))) (dC (.int 1))))) (dRet (dC (.str "closed"))) dNext))
    (dSeq (dIfS (dB (dOp (rI0' fun i j => .bl (decide (i ≤ j))) (dCB rSum' (dCons (dLc (diSeq (dVar 1)) (dgName 2) dYes (dOp rIx' (dOp rIx' (dVar 0) (dVar 2)) (dC (.int 2))) [2]) dNil)) (dC (.int 0)))) (dRet (dC (.str "sum"))) dNext)
    (dRet (dC .non))))))
theorem der_law_ring_word {P : Program} {w : World} {K : PySem.W.Frag} {mg : Str → Option Value} {base : Heap} {g : Str → Addr} {f : Addr} (fx : Fx P w K mg base g) (h_law_row_of : FnD P w K mg base 1 "_law_row_of" (F_law_row_of K g) []) :
    PDSs (FX_law_ring_word P w K mg base f) K (defBody st_law_ring_word) (rd_law_ring_word K g) :=
  (ss_c (s_if (pdw_or (pdt_not (pdt_tru (pd_isi fx.m_isinstance (pa_c (pd_v 1 (hv := lm582) (hd := lm583) (hcd := lm584)) (pa_c (pd_ty .tuple fx.m_tuple (by decide +kernel) (hg := lm608) (hn := lm26) (hd := lm27)) pa_n)) (hg := lm610)))) (pdw_or (pdt_c (c_eq bf_room) (pd_v 1 (hv := lm582) (hd := lm583) (hcd := lm584)) (pd_tup pa_n)) (pdw_or1 (pdt_not (pdt_tru (pd_call h_law_row_of bf_room (by decide) (pa_c (pd_v 1 (hv := lm582) (hd := lm583) (hcd := lm584)) (pa_c (pd_len fx.m_len (pa_c (pd_v 1 (hv := lm582) (hd := lm583) (hcd := lm584)) pa_n) (hg := lm594)) pa_n)) (hg := lm612) (hdb := lm580))))))).pdt (ss_1 (s_ret pd_str)) ss_nil)
    (ss_c (s_for (ws := [2]) bf_pso (i_seq (pd_v 1 (hv := lm582) (hd := lm583) (hcd := lm584))) (pg_n (i := 2) (show ∀ k, ((FX_law_ring_word P w K mg base f).X k).N.Nodup from fun _ => sc_law_ring_word.nd) (hx := lm604) (hf := lm605)) (ss_1 (s_if (pdw_or (pdt_not (pdt_chain c_le c_lt pd_int (pd_v 2 (hv := lm606) (hd := lm589) (hcd := lm590)) (pd_len fx.m_len (pa_c (pd_v 0 (hv := lm601) (hd := lm478) (hcd := lm479)) pa_n) (hg := lm594)))) (pdw_or1 (pdt_c c_is (pd_ix (pd_ix (pd_v 0 (hv := lm601) (hd := lm478) (hcd := lm479)) (pd_v 2 (hv := lm606) (hd := lm589) (hcd := lm590))) pd_int) pd_non))).pdt (ss_1 (s_ret pd_str)) ss_nil)))
    (ss_c (s_for (ws := [3]) bf_pso (i_r1 fx.m_range (pa_c (pd_len fx.m_len (pa_c (pd_v 1 (hv := lm582) (hd := lm583) (hcd := lm584)) pa_n) (hg := lm594)) pa_n) (hg := lm596)) (pg_n (i := 3) (show ∀ k, ((FX_law_ring_word P w K mg base f).X k).N.Nodup from fun _ => sc_law_ring_word.nd) (hx := lm598) (hf := lm599)) (ss_1 (s_if (pdt_c (c_ne bf_room) (pd_ix (pd_ix (pd_v 0 (hv := lm601) (hd := lm478) (hcd := lm479)) (pd_ix (pd_v 1 (hv := lm582) (hd := lm583) (hcd := lm584)) (pd_v 3 (hv := lm602) (hd := lm558) (hcd := lm559)))) pd_int) (pd_ix (pd_ix (pd_v 0 (hv := lm601) (hd := lm478) (hcd := lm479)) (pd_ix (pd_v 1 (hv := lm582) (hd := lm583) (hcd := lm584)) (pd_if (pdt_c c_lt (pd_add (pd_v 3 (hv := lm602) (hd := lm558) (hcd := lm559)) pd_int) (pd_len fx.m_len (pa_c (pd_v 1 (hv := lm582) (hd := lm583) (hcd := lm584)) pa_n) (hg := lm594))) (pd_add (pd_v 3 (hv := lm602) (hd := lm558) (hcd := lm559)) pd_int) pd_int))) pd_int)) (ss_1 (s_ret pd_str)) ss_nil)))
    (ss_c (s_if (pdt_c c_le (pd_sum fx.m_sum (pa_c (pd_lc (own := [("_law_index", 2)]) (g := fun cb0 => (dgName 2)) (tt := fun cb0 => dYes) (te := fun cb0 => (dOp rIx' (dOp rIx' (dVar 0) (dVar 2)) (dC (.int 2)))) (show ∀ k, ((FX_law_ring_word P w K mg base f).X k).N.Nodup from fun _ => sc_law_ring_word.nd) (i_seq (pd_v 1 (hv := lm582) (hd := lm583) (hcd := lm584))) (show ∀ k, BlkOk ((FX_law_ring_word P w K mg base f).X k).N ((FX_law_ring_word P w K mg base f).X k).env.scope bs_law_ring_word_0 [("_law_index", 2)] from fun _ => blkOk_by blk_law_ring_word_0) (pg_n (i := 2) (show ∀ k, ((blkF (FX_law_ring_word P w K mg base f) bs_law_ring_word_0).X k).N.Nodup from fun _ => sc_law_ring_word.nd) (hx := lm585) (hf := lm586)) ts_nil (pd_ix (pd_ix (pd_v 0 (hv := lm587) (hd := lm478) (hcd := lm479)) (pd_v 2 (hv := lm588) (hd := lm589) (hcd := lm590))) pd_int)) pa_n) (hg := lm592)) pd_int) (ss_1 (s_ret pd_str)) ss_nil)
    (ss_1 (s_ret pd_non))))))
end DL
end

section
set_option Elab.async false
set_option linter.all false
set_option maxRecDepth 100000
set_option maxHeartbeats 400000
namespace DL
open PySem PySem.Spec PyProof.Rows L2
/- _law_row_of -/
def rd_law_row_of (K : PySem.W.Frag) (g : Str → Addr) : DCtx → DS := fun c =>
    (dSeq (dIfS (dOr (dNot (dTru (dCB (rIsi' K) (dCons (dVar 0) (dCons (dC (.ty .tuple)) dNil))))) (dB (dOp rNe' (dCB rLen' (dCons (dVar 0) dNil)) (dVar 1)))) (dRet (dC (.bl false))) dNext)
    (dRet (dNotT (dLc (diSeq (dVar 0)) (dgName 2) (dOr (dNot (dTru (dCB (rIsi' K) (dCons (dVar 2) (dCons (dC (.ty .int)) dNil))))) (dTru (dCB (rIsi' K) (dCons (dVar 2) (dCons (dC (.ty .bool)) dNil))))) (dC (.int 1)) [2]))))
theorem der_law_row_of {P : Program} {w : World} {K : PySem.W.Frag} {mg : Str → Option Value} {base : Heap} {g : Str → Addr} {f : Addr} (fx : Fx P w K mg base g) :
    PDSs (FX_law_row_of P w K mg base f) K (defBody st_law_row_of) (rd_law_row_of K g) :=
  (ss_c (s_if (pdw_or (pdt_not (pdt_tru (pd_isi fx.m_isinstance (pa_c (pd_v 0 (hv := lm459) (hd := lm452) (hcd := lm453)) (pa_c (pd_ty .tuple fx.m_tuple (by decide +kernel) (hg := lm469) (hn := lm26) (hd := lm27)) pa_n)) (hg := lm471)))) (pdw_or1 (pdt_c (c_ne bf_room) (pd_len fx.m_len (pa_c (pd_v 0 (hv := lm459) (hd := lm452) (hcd := lm453)) pa_n) (hg := lm473)) (pd_v 1 (hv := lm475) (hd := lm431) (hcd := lm432))))).pdt (ss_1 (s_ret pd_bl)) ss_nil)
    (ss_1 (s_ret (pd_not (pd_lc (own := [("_law_item", 2)]) (g := fun cb0 => (dgName 2)) (tt := fun cb0 => (dOr (dNot (dTru (dCB (rIsi' K) (dCons (dVar 2) (dCons (dC (.ty .int)) dNil))))) (dTru (dCB (rIsi' K) (dCons (dVar 2) (dCons (dC (.ty .bool)) dNil)))))) (te := fun cb0 => (dC (.int 1))) (show ∀ k, ((FX_law_row_of P w K mg base f).X k).N.Nodup from fun _ => sc_law_row_of.nd) (i_seq (pd_v 0 (hv := lm459) (hd := lm452) (hcd := lm453))) (show ∀ k, BlkOk ((FX_law_row_of P w K mg base f).X k).N ((FX_law_row_of P w K mg base f).X k).env.scope bs_law_row_of_0 [("_law_item", 2)] from fun _ => blkOk_by blk_law_row_of_0) (pg_n (i := 2) (show ∀ k, ((blkF (FX_law_row_of P w K mg base f) bs_law_row_of_0).X k).N.Nodup from fun _ => sc_law_row_of.nd) (hx := lm460) (hf := lm461)) (ts_one (pdw_or (pdt_not (pdt_tru (pd_isi fx.m_isinstance (pa_c (pd_v 2 (hv := lm463) (hd := lm464) (hcd := lm465)) (pa_c (pd_ty .int fx.m_int (by decide +kernel) (hg := lm462) (hn := lm2) (hd := lm3)) pa_n)) (hg := lm466)))) (pdw_or1 (pdt_tru (pd_isi fx.m_isinstance (pa_c (pd_v 2 (hv := lm463) (hd := lm464) (hcd := lm465)) (pa_c (pd_ty .bool fx.m_bool (by decide +kernel) (hg := lm467) (hn := lm12) (hd := lm13)) pa_n)) (hg := lm466))))).pdt) pd_int)))))
end DL
end

section
set_option Elab.async false
set_option linter.all false
set_option maxRecDepth 100000
set_option maxHeartbeats 400000
namespace DL
open PySem PySem.Spec PyProof.Rows L2
/- _law_system -/
def rd_law_system (K : PySem.W.Frag) (g : Str → Addr) : DCtx → DS := fun c =>
    (dSeq (dAsg (dOp rAdd' (dC (.int 1)) (dCall (F_law_take K g) [] c.w (dCons (dVar 0) (dCons (dC (.int 7)) dNil)))) (dgName 1))
    (dSeq (dAsg (dCall (F_law_take K g) [] c.w (dCons (dVar 0) (dCons (dC (.int 15)) dNil))) (dgName 2))
    (dSeq (dIfS (dB (dOp rEq' (dCall (F_law_take K g) [] c.w (dCons (dVar 0) (dCons (dC (.int 16)) dNil))) (dC (.int 0)))) (dSeq (dAsg (dOp rAdd' (dC (.int 1)) (dCall (F_law_take K g) [] c.w (dCons (dVar 0) (dCons (dC (.int 60)) dNil)))) (dgName 1))
    (dAsg (dCall (F_law_take K g) [] c.w (dCons (dVar 0) (dCons (dC (.int 341)) dNil))) (dgName 2))) dNext)
    (dSeq (dAsg (dOp rIx' (dTup (dCons (dTup (dCons (dUnI (fun i => -i) (dC (.int 6))) (dCons (dC (.int 10)) dNil))) (dCons (dTup (dCons (dUnI (fun i => -i) (dC (.int 3))) (dCons (dC (.int 7)) dNil))) (dCons (dTup (dCons (dUnI (fun i => -i) (dC (.int 6))) (dCons (dC (.int 7)) dNil))) (dCons (dTup (dCons (dOp (rI0' fun i j => .int (i - j)) (dC (.int 0)) (dOp (rI' CPow fun i j => .int (i ^ j.toNat)) (dC (.int 10)) (dC (.int 12)))) (dCons (dOp rAdd' (dOp (rI' CM fun i j => .int (i * j)) (dC (.int 2)) (dOp (rI' CPow fun i j => .int (i ^ j.toNat)) (dC (.int 10)) (dC (.int 12)))) (dC (.int 1))) dNil))) (dCons (dTup (dCons (dC (.int 0)) (dCons (dC (.int 1)) dNil))) dNil)))))) (dCall (F_law_take K g) [] c.w (dCons (dVar 0) (dCons (dC (.int 5)) dNil)))) (dgTup 2 (dgCons (dgName 3) (dgCons (dgName 4) dgNil))))
    (dSeq (dAsg (dLcM (diRng1 (dCons (dVar 1) dNil)) (dgName 9) dYes (dTup (dCons (dVar 9) (dCons (dC .non) (dCons (dOp rAdd' (dVar 3) (dCall (F_law_take K g) [] c0.w (dCons (dVar 0) (dCons (dVar 4) dNil)))) dNil)))) [9]) (dgName 5))
    (dSeq (dFor (diRng1 (dCons (dVar 2) dNil)) (dgName 6) (dSeq (dAsg (dCall (F_law_take K g) [] c.w (dCons (dVar 0) (dCons (dOp rAdd' (dVar 1) (dC (.int 1))) dNil))) (dgName 7))
    (dSeq (dAsg (dTup (dCons (dCall (F_law_take K g) [] c.w (dCons (dVar 0) (dCons (dVar 1) dNil))) (dCons (dIf (dB (dOp rEq' (dVar 7) (dVar 1))) (dC .non) (dVar 7)) (dCons (dOp rAdd' (dVar 3) (dCall (F_law_take K g) [] c.w (dCons (dVar 0) (dCons (dVar 4) dNil)))) dNil)))) (dgName 8))
    (dDrop (dBM rInsert' (dVar 5) (dCons (dCall (F_law_take K g) [] c.w (dCons (dVar 0) (dCons (dOp rAdd' (dCB rLen' (dCons (dVar 5) dNil)) (dC (.int 1))) dNil))) (dCons (dVar 8) dNil)))))))
    (dGh (dRet (dTup (dCons (dVar 1) (dCons (dVar 5) dNil)))))))))))
theorem der_law_system {P : Program} {w : World} {K : PySem.W.Frag} {mg : Str → Option Value} {base : Heap} {g : Str → Addr} {f : Addr} (fx : Fx P w K mg base g) (h_law_take : FnD P w K mg base 2 "_law_take" (F_law_take K g) []) :
    PDSs (FX_law_system P w K mg base f) K (defBody st_law_system) (rd_law_system K g) :=
  (ss_c (s_set (i := 1) (show ∀ k, ((FX_law_system P w K mg base f).X k).N.Nodup from fun _ => sc_law_system.nd) (pd_add pd_int (pd_call h_law_take bf_room (by decide) (pa_c (pd_v 0 (hv := lm500) (hd := lm422) (hcd := lm423)) (pa_c pd_int pa_n)) (hg := lm502) (hdb := lm449))) (hx := lm535) (hf := lm536))
    (ss_c (s_set (i := 2) (show ∀ k, ((FX_law_system P w K mg base f).X k).N.Nodup from fun _ => sc_law_system.nd) (pd_call h_law_take bf_room (by decide) (pa_c (pd_v 0 (hv := lm500) (hd := lm422) (hcd := lm423)) (pa_c pd_int pa_n)) (hg := lm502) (hdb := lm449)) (hx := lm533) (hf := lm534))
    (ss_c (s_if (pdt_c (c_eq bf_room) (pd_call h_law_take bf_room (by decide) (pa_c (pd_v 0 (hv := lm500) (hd := lm422) (hcd := lm423)) (pa_c pd_int pa_n)) (hg := lm502) (hdb := lm449)) pd_int) (ss_c (s_set (i := 1) (show ∀ k, ((FX_law_system P w K mg base f).X k).N.Nodup from fun _ => sc_law_system.nd) (pd_add pd_int (pd_call h_law_take bf_room (by decide) (pa_c (pd_v 0 (hv := lm500) (hd := lm422) (hcd := lm423)) (pa_c pd_int pa_n)) (hg := lm502) (hdb := lm449))) (hx := lm535) (hf := lm536))
    (ss_1 (s_set (i := 2) (show ∀ k, ((FX_law_system P w K mg base f).X k).N.Nodup from fun _ => sc_law_system.nd) (pd_call h_law_take bf_room (by decide) (pa_c (pd_v 0 (hv := lm500) (hd := lm422) (hcd := lm423)) (pa_c pd_int pa_n)) (hg := lm502) (hdb := lm449)) (hx := lm533) (hf := lm534)))) ss_nil)
    (ss_c (s_asg (ws := [3, 4]) (pd_ix (pd_tup (pa_c (pd_tup (pa_c (pd_neg pd_int) (pa_c pd_int pa_n))) (pa_c (pd_tup (pa_c (pd_neg pd_int) (pa_c pd_int pa_n))) (pa_c (pd_tup (pa_c (pd_neg pd_int) (pa_c pd_int pa_n))) (pa_c (pd_tup (pa_c (pd_sub pd_int (pd_pow pd_int pd_int)) (pa_c (pd_add (pd_mul pd_int (pd_pow pd_int pd_int)) pd_int) pa_n))) (pa_c (pd_tup (pa_c pd_int (pa_c pd_int pa_n))) pa_n)))))) (pd_call h_law_take bf_room (by decide) (pa_c (pd_v 0 (hv := lm500) (hd := lm422) (hcd := lm423)) (pa_c pd_int pa_n)) (hg := lm502) (hdb := lm449))) (pg_t (pgs_c (pg_n (i := 3) (show ∀ k, ((FX_law_system P w K mg base f).X k).N.Nodup from fun _ => sc_law_system.nd) (hx := lm531) (hf := lm532)) (pgs_c (pg_n (i := 4) (show ∀ k, ((FX_law_system P w K mg base f).X k).N.Nodup from fun _ => sc_law_system.nd) (hx := lm529) (hf := lm530)) pgs_n))))
    (ss_c (s_setLcM (own := [("_law_place", 9)]) (g := fun cb0 => (dgName 9)) (tt := fun cb0 => dYes) (te := fun cb0 => (dTup (dCons (dVar 9) (dCons (dC .non) (dCons (dOp rAdd' (dVar 3) (dCall (F_law_take K g) [] cb0.w (dCons (dVar 0) (dCons (dVar 4) dNil)))) dNil))))) (i := 5) (show ∀ k, ((FX_law_system P w K mg base f).X k).N.Nodup from fun _ => sc_law_system.nd) (by intro _; kernel_rfl) (i_r1 fx.m_range (pa_c (pd_v 1 (hv := lm481) (hd := lm482) (hcd := lm483)) pa_n) (hg := lm489)) (show ∀ k, BlkOk ((FX_law_system P w K mg base f).X k).N ((FX_law_system P w K mg base f).X k).env.scope bs_law_system_0 [("_law_place", 9)] from fun _ => blkOk_by blk_law_system_0) (pg_n (i := 9) (show ∀ k, ((blkF (FX_law_system P w K mg base f) bs_law_system_0).X k).N.Nodup from fun _ => sc_law_system.nd) (hx := lm519) (hf := lm520)) ts_nil (pd_tup (pa_c (pd_v 9 (hv := lm525) (hd := lm526) (hcd := lm527)) (pa_c pd_non (pa_c (pd_add (pd_v 3 (hv := lm521) (hd := lm505) (hcd := lm506)) (pd_call h_law_take (blk_room bf_room) (by decide) (pa_c (pd_v 0 (hv := lm523) (hd := lm422) (hcd := lm423)) (pa_c (pd_v 4 (hv := lm522) (hd := lm509) (hcd := lm510)) pa_n)) (hg := lm524) (hdb := lm449))) pa_n)))) (hyl := lm528))
    (ss_c (s_for (ws := [6]) bf_pso (i_r1 fx.m_range (pa_c (pd_v 2 (hv := lm485) (hd := lm486) (hcd := lm487)) pa_n) (hg := lm489)) (pg_n (i := 6) (show ∀ k, ((FX_law_system P w K mg base f).X k).N.Nodup from fun _ => sc_law_system.nd) (hx := lm491) (hf := lm492)) (ss_c (s_set (i := 7) (show ∀ k, ((FX_law_system P w K mg base f).X k).N.Nodup from fun _ => sc_law_system.nd) (pd_call h_law_take bf_room (by decide) (pa_c (pd_v 0 (hv := lm500) (hd := lm422) (hcd := lm423)) (pa_c (pd_add (pd_v 1 (hv := lm481) (hd := lm482) (hcd := lm483)) pd_int) pa_n)) (hg := lm502) (hdb := lm449)) (hx := lm517) (hf := lm518))
    (ss_c (s_set (i := 8) (show ∀ k, ((FX_law_system P w K mg base f).X k).N.Nodup from fun _ => sc_law_system.nd) (pd_tup (pa_c (pd_call h_law_take bf_room (by decide) (pa_c (pd_v 0 (hv := lm500) (hd := lm422) (hcd := lm423)) (pa_c (pd_v 1 (hv := lm481) (hd := lm482) (hcd := lm483)) pa_n)) (hg := lm502) (hdb := lm449)) (pa_c (pd_if (pdt_c (c_eq bf_room) (pd_v 7 (hv := lm512) (hd := lm513) (hcd := lm514)) (pd_v 1 (hv := lm481) (hd := lm482) (hcd := lm483))) pd_non (pd_v 7 (hv := lm512) (hd := lm513) (hcd := lm514))) (pa_c (pd_add (pd_v 3 (hv := lm504) (hd := lm505) (hcd := lm506)) (pd_call h_law_take bf_room (by decide) (pa_c (pd_v 0 (hv := lm500) (hd := lm422) (hcd := lm423)) (pa_c (pd_v 4 (hv := lm508) (hd := lm509) (hcd := lm510)) pa_n)) (hg := lm502) (hdb := lm449))) pa_n)))) (hx := lm515) (hf := lm516))
    (ss_1 (s_expr (pd_insert (pd_v 5 (hv := lm477) (hd := lm478) (hcd := lm479)) (pa_c (pd_call h_law_take bf_room (by decide) (pa_c (pd_v 0 (hv := lm500) (hd := lm422) (hcd := lm423)) (pa_c (pd_add (pd_len fx.m_len (pa_c (pd_v 5 (hv := lm477) (hd := lm478) (hcd := lm479)) pa_n) (hg := lm498)) pd_int) pa_n)) (hg := lm502) (hdb := lm449)) (pa_c (pd_v 8 (hv := lm494) (hd := lm495) (hcd := lm496)) pa_n))))))))
    (ss_gh (ss_1 (s_ret (pd_tup (pa_c (pd_v 1 (hv := lm481) (hd := lm482) (hcd := lm483)) (pa_c (pd_v 5 (hv := lm477) (hd := lm478) (hcd := lm479)) pa_n))))))))))))
end DL
end

section
set_option Elab.async false
set_option linter.all false
set_option maxRecDepth 100000
set_option maxHeartbeats 400000
namespace DL
open PySem PySem.Spec PyProof.Rows L2
/- _law_take -/
def rd_law_take (K : PySem.W.Frag) (g : Str → Addr) : DCtx → DS := fun c =>
    (dOpen (dSeq (dIfS (dAnd (dB (dOp rEq' (dOp rIx' (dVar 0) (dC (.int 2))) (dC (.int 0)))) (dB (dOp (rI0' fun i j => .bl (decide (i < j))) (dOp rIx' (dVar 0) (dC (.int 1))) (dCB rLen' (dCons (dOp rIx' (dVar 0) (dC (.int 0))) dNil))))) (dSeq (dAsg (dOp rIx' (dOp rIx' (dVar 0) (dC (.int 0))) (dOp rIx' (dVar 0) (dC (.int 1)))) (dgName 2))
    (dSeq (dAsg (dOp rAdd' (dOp rIx' (dVar 0) (dC (.int 1))) (dC (.int 1))) (dgSub (dVar 0) (dC (.int 1))))
    (dSeq (dIfS (dB (dOp (rI0' fun i j => .bl (decide (i < j))) (dVar 2) (dOp (rI' CPow fun i j => .int (i ^ j.toNat)) (dC (.int 10)) (dC (.int 18))))) (dRetG (dOp (rI' (fun _ j => 0 < j) fun i j => .int (i % j)) (dCB rInt' (dCons (dCall (F_law_mixed K g) [] c.w (dCons (dOp (rI' (fun _ j => 0 < j) fun i j => .int (i % j)) (dCB rInt' (dCons (dVar 2) dNil)) (dC (.int 2147483399))) (dCons (dOp rIx' (dVar 0) (dC (.int 1))) dNil))) dNil)) (dVar 1))) dNext)
    (dAsg (dVar 2) (dgSub (dVar 0) (dC (.int 2))))))) dNext)
    (dSeq (dIfS (dB (dOp (rI0' fun i j => .bl (decide (j < i))) (dOp rIx' (dVar 0) (dC (.int 2))) (dC (.int 0)))) (dSeq (dAsg (dOp rIx' (dVar 0) (dC (.int 2))) (dgName 3))
    (dSeq (dAsg (dOp (rI' CD fun i j => .int (i / j)) (dCB rInt' (dCons (dVar 3) dNil)) (dVar 1)) (dgSub (dVar 0) (dC (.int 2))))
    (dRetG (dOp (rI' (fun _ j => 0 < j) fun i j => .int (i % j)) (dCB rInt' (dCons (dVar 3) dNil)) (dVar 1))))) dNext)
    (dSeq (dAsg (dOp (rI' (fun _ j => 0 < j) fun i j => .int (i % j)) (dCB rInt' (dCons (dOp rAdd' (dOp rIx' (dVar 0) (dC (.int 3))) (dC (.int 1))) dNil)) (dC (.int 2147483549))) (dgSub (dVar 0) (dC (.int 3))))
    (dRetG (dOp (rI' (fun _ j => 0 < j) fun i j => .int (i % j)) (dCB rInt' (dCons (dCall (F_law_mixed K g) [] c.w (dCons (dOp rIx' (dVar 0) (dC (.int 3))) (dCons (dOp rIx' (dVar 0) (dC (.int 1))) dNil))) dNil)) (dVar 1)))))))
theorem der_law_take {P : Program} {w : World} {K : PySem.W.Frag} {mg : Str → Option Value} {base : Heap} {g : Str → Addr} {f : Addr} (fx : Fx P w K mg base g) (h_law_mixed : FnD P w K mg base 1 "_law_mixed" (F_law_mixed K g) []) :
    PDSs (FX_law_take P w K mg base f) K (defBody st_law_take) (rd_law_take K g) :=
  (ss_open (ss_c (s_if (pdw_and (pdt_c (c_eq bf_room) (pd_ix (pd_v 0 (hv := lm421) (hd := lm422) (hcd := lm423)) pd_int) pd_int) (pdw_and1 (pdt_c c_lt (pd_ix (pd_v 0 (hv := lm421) (hd := lm422) (hcd := lm423)) pd_int) (pd_len fx.m_len (pa_c (pd_ix (pd_v 0 (hv := lm421) (hd := lm422) (hcd := lm423)) pd_int) pa_n) (hg := lm440))))).pdt (ss_c (s_set (i := 2) (show ∀ k, ((FX_law_take P w K mg base f).X k).N.Nodup from fun _ => sc_law_take.nd) (pd_ix (pd_ix (pd_v 0 (hv := lm421) (hd := lm422) (hcd := lm423)) pd_int) (pd_ix (pd_v 0 (hv := lm421) (hd := lm422) (hcd := lm423)) pd_int)) (hx := lm443) (hf := lm444))
    (ss_c (s_asg (ws := []) (pd_add (pd_ix (pd_v 0 (hv := lm421) (hd := lm422) (hcd := lm423)) pd_int) pd_int) (pg_s (pd_v 0 (hv := lm421) (hd := lm422) (hcd := lm423)) pd_int))
    (ss_c (s_if (pdt_c c_lt (pd_v 2 (hv := lm442) (hd := lm386) (hcd := lm387)) (pd_pow pd_int pd_int)) (ss_1 (s_retG (pd_mod (pd_int1 fx.m_int (pa_c (pd_call h_law_mixed bf_room (by decide) (pa_c (pd_mod (pd_int1 fx.m_int (pa_c (pd_v 2 (hv := lm442) (hd := lm386) (hcd := lm387)) pa_n) (hg := lm428)) pd_int) (pa_c (pd_ix (pd_v 0 (hv := lm421) (hd := lm422) (hcd := lm423)) pd_int) pa_n)) (hg := lm425) (hdb := lm426)) pa_n) (hg := lm428)) (pd_v 1 (hv := lm430) (hd := lm431) (hcd := lm432))))) ss_nil)
    (ss_1 (s_asg (ws := []) (pd_v 2 (hv := lm442) (hd := lm386) (hcd := lm387)) (pg_s (pd_v 0 (hv := lm421) (hd := lm422) (hcd := lm423)) pd_int)))))) ss_nil)
    (ss_c (s_if (pdt_c c_gt (pd_ix (pd_v 0 (hv := lm421) (hd := lm422) (hcd := lm423)) pd_int) pd_int) (ss_c (s_set (i := 3) (show ∀ k, ((FX_law_take P w K mg base f).X k).N.Nodup from fun _ => sc_law_take.nd) (pd_ix (pd_v 0 (hv := lm421) (hd := lm422) (hcd := lm423)) pd_int) (hx := lm437) (hf := lm438))
    (ss_c (s_asg (ws := []) (pd_div (pd_int1 fx.m_int (pa_c (pd_v 3 (hv := lm434) (hd := lm435) (hcd := lm436)) pa_n) (hg := lm428)) (pd_v 1 (hv := lm430) (hd := lm431) (hcd := lm432))) (pg_s (pd_v 0 (hv := lm421) (hd := lm422) (hcd := lm423)) pd_int))
    (ss_1 (s_retG (pd_mod (pd_int1 fx.m_int (pa_c (pd_v 3 (hv := lm434) (hd := lm435) (hcd := lm436)) pa_n) (hg := lm428)) (pd_v 1 (hv := lm430) (hd := lm431) (hcd := lm432))))))) ss_nil)
    (ss_c (s_asg (ws := []) (pd_mod (pd_int1 fx.m_int (pa_c (pd_add (pd_ix (pd_v 0 (hv := lm421) (hd := lm422) (hcd := lm423)) pd_int) pd_int) pa_n) (hg := lm428)) pd_int) (pg_s (pd_v 0 (hv := lm421) (hd := lm422) (hcd := lm423)) pd_int))
    (ss_1 (s_retG (pd_mod (pd_int1 fx.m_int (pa_c (pd_call h_law_mixed bf_room (by decide) (pa_c (pd_ix (pd_v 0 (hv := lm421) (hd := lm422) (hcd := lm423)) pd_int) (pa_c (pd_ix (pd_v 0 (hv := lm421) (hd := lm422) (hcd := lm423)) pd_int) pa_n)) (hg := lm425) (hdb := lm426)) pa_n) (hg := lm428)) (pd_v 1 (hv := lm430) (hd := lm431) (hcd := lm432)))))))))
end DL
end

section
set_option Elab.async false
set_option linter.all false
set_option maxRecDepth 100000
set_option maxHeartbeats 400000
namespace DL
open PySem PySem.Spec PyProof.Rows L2
/- least_fault -/
def rd_least_fault (K : PySem.W.Frag) (g : Str → Addr) : DCtx → DS := fun c =>
    (dSeq (dAsg (dCall (F_check_demands K g) [] c.w (dCons (dVar 0) (dCons (dVar 1) dNil))) (dgName 3))
    (dSeq (dIfS (dNot (dTru (dCall (F_is_number_row K g) [] c.w (dCons (dFld (g "Least") "numbers" (dVar 2)) (dCons (dVar 0) dNil))))) (dRet (dC (.str "numbers"))) dNext)
    (dSeq (dIfS (dNot (dTru (dCall (F_is_number_row K g) [] c.w (dCons (dFld (g "Least") "reasons" (dVar 2)) (dCons (dVar 0) dNil))))) (dRet (dC (.str "reason"))) dNext)
    (dSeq (dFor (diEnum (dCons (dFld (g "Least") "reasons" (dVar 2)) dNil)) (dgTup 2 (dgCons (dgName 4) (dgCons (dgName 5) dgNil))) (dIfS (dOr (dNot (dB (dChain (rI0' fun i j => .bl (decide (i ≤ j))) (rI0' fun i j => .bl (decide (i < j))) (dC (.int 0)) (dVar 5) (dCB rLen' (dCons (dVar 3) dNil))))) (dB (dOp rNe' (dOp rIx' (dOp rIx' (dVar 3) (dVar 5)) (dC (.int 0))) (dVar 4)))) (dRet (dC (.str "reason"))) dNext))
    (dSeq (dFor (diSeq (dVar 3)) (dgName 6) (dIfS (dB (dOp (rI0' fun i j => .bl (decide (i < j))) (dOp rIx' (dFld (g "Least") "numbers" (dVar 2)) (dOp rIx' (dVar 6) (dC (.int 0)))) (dCall (F_asked_number K g) [] c.w (dCons (dFld (g "Least") "numbers" (dVar 2)) (dCons (dVar 6) dNil))))) (dRet (dC (.str "demand"))) dNext))
    (dSeq (dFor (diEnum (dCons (dFld (g "Least") "reasons" (dVar 2)) dNil)) (dgTup 2 (dgCons (dgName 4) (dgCons (dgName 5) dgNil))) (dIfS (dB (dOp rNe' (dOp rIx' (dFld (g "Least") "numbers" (dVar 2)) (dVar 4)) (dCall (F_asked_number K g) [] c.w (dCons (dFld (g "Least") "numbers" (dVar 2)) (dCons (dOp rIx' (dVar 3) (dVar 5)) dNil))))) (dRet (dC (.str "met"))) dNext))
    (dSeq (dFor (diRng1 (dCons (dVar 0) dNil)) (dgName 4) (dSeq (dAsg (dVar 4) (dgName 7))
    (dSeq (dFor (diRng1 (dCons (dVar 0) dNil)) (dgName 8) (dIfS (dB (dOp rNotN' (dVar 7) (dC .non))) (dAsg (dOp rIx' (dOp rIx' (dVar 3) (dOp rIx' (dFld (g "Least") "reasons" (dVar 2)) (dVar 7))) (dC (.int 1))) (dgName 7)) dNext))
    (dIfS (dB (dOp rNotN' (dVar 7) (dC .non))) (dRet (dC (.str "ring"))) dNext))))
    (dRet (dC .non)))))))))
theorem der_least_fault {P : Program} {w : World} {K : PySem.W.Frag} {mg : Str → Option Value} {base : Heap} {g : Str → Addr} {f : Addr} (fx : Fx P w K mg base g) (h_asked_number : FnD P w K mg base 1 "asked_number" (F_asked_number K g) []) (h_check_demands : FnD P w K mg base 3 "check_demands" (F_check_demands K g) []) (h_is_number_row : FnD P w K mg base 1 "is_number_row" (F_is_number_row K g) []) :
    PDSs (FX_least_fault P w K mg base f) K (defBody st_least_fault) (rd_least_fault K g) :=
  (ss_c (s_set (i := 3) (show ∀ k, ((FX_least_fault P w K mg base f).X k).N.Nodup from fun _ => sc_least_fault.nd) (pd_call h_check_demands bf_room (by decide) (pa_c (pd_v 0 (hv := lm287) (hd := lm53) (hcd := lm54)) (pa_c (pd_v 1 (hv := lm325) (hd := lm60) (hcd := lm61)) pa_n)) (hg := lm327) (hdb := lm261)) (hx := lm328) (hf := lm329))
    (ss_c (s_if (pdt_not (pdt_tru (pd_call h_is_number_row bf_room (by decide) (pa_c (pd_fld fx.cls_Least fx.na_Least_numbers (pd_v 2 (hv := lm301) (hd := lm36) (hcd := lm37))) (pa_c (pd_v 0 (hv := lm287) (hd := lm53) (hcd := lm54)) pa_n)) (hg := lm322) (hdb := lm323)))) (ss_1 (s_ret pd_str)) ss_nil)
    (ss_c (s_if (pdt_not (pdt_tru (pd_call h_is_number_row bf_room (by decide) (pa_c (pd_fld fx.cls_Least fx.na_Least_reasons (pd_v 2 (hv := lm301) (hd := lm36) (hcd := lm37))) (pa_c (pd_v 0 (hv := lm287) (hd := lm53) (hcd := lm54)) pa_n)) (hg := lm322) (hdb := lm323)))) (ss_1 (s_ret pd_str)) ss_nil)
    (ss_c (s_for (ws := [4, 5]) bf_pso (i_enum fx.m_enumerate (pa_c (pd_fld fx.cls_Least fx.na_Least_reasons (pd_v 2 (hv := lm301) (hd := lm36) (hcd := lm37))) pa_n) (hg := lm306)) (pg_t (pgs_c (pg_n (i := 4) (show ∀ k, ((FX_least_fault P w K mg base f).X k).N.Nodup from fun _ => sc_least_fault.nd) (hx := lm291) (hf := lm292)) (pgs_c (pg_n (i := 5) (show ∀ k, ((FX_least_fault P w K mg base f).X k).N.Nodup from fun _ => sc_least_fault.nd) (hx := lm308) (hf := lm309)) pgs_n))) (ss_1 (s_if (pdw_or (pdt_not (pdt_chain c_le c_lt pd_int (pd_v 5 (hv := lm310) (hd := lm311) (hcd := lm312)) (pd_len fx.m_len (pa_c (pd_v 3 (hv := lm299) (hd := lm120) (hcd := lm121)) pa_n) (hg := lm320)))) (pdw_or1 (pdt_c (c_ne bf_room) (pd_ix (pd_ix (pd_v 3 (hv := lm299) (hd := lm120) (hcd := lm121)) (pd_v 5 (hv := lm310) (hd := lm311) (hcd := lm312))) pd_int) (pd_v 4 (hv := lm304) (hd := lm76) (hcd := lm77))))).pdt (ss_1 (s_ret pd_str)) ss_nil)))
    (ss_c (s_for (ws := [6]) bf_pso (i_seq (pd_v 3 (hv := lm299) (hd := lm120) (hcd := lm121))) (pg_n (i := 6) (show ∀ k, ((FX_least_fault P w K mg base f).X k).N.Nodup from fun _ => sc_least_fault.nd) (hx := lm316) (hf := lm317)) (ss_1 (s_if (pdt_c c_lt (pd_ix (pd_fld fx.cls_Least fx.na_Least_numbers (pd_v 2 (hv := lm301) (hd := lm36) (hcd := lm37))) (pd_ix (pd_v 6 (hv := lm318) (hd := lm46) (hcd := lm47)) pd_int)) (pd_call h_asked_number bf_room (by decide) (pa_c (pd_fld fx.cls_Least fx.na_Least_numbers (pd_v 2 (hv := lm301) (hd := lm36) (hcd := lm37))) (pa_c (pd_v 6 (hv := lm318) (hd := lm46) (hcd := lm47)) pa_n)) (hg := lm314) (hdb := lm242))) (ss_1 (s_ret pd_str)) ss_nil)))
    (ss_c (s_for (ws := [4, 5]) bf_pso (i_enum fx.m_enumerate (pa_c (pd_fld fx.cls_Least fx.na_Least_reasons (pd_v 2 (hv := lm301) (hd := lm36) (hcd := lm37))) pa_n) (hg := lm306)) (pg_t (pgs_c (pg_n (i := 4) (show ∀ k, ((FX_least_fault P w K mg base f).X k).N.Nodup from fun _ => sc_least_fault.nd) (hx := lm291) (hf := lm292)) (pgs_c (pg_n (i := 5) (show ∀ k, ((FX_least_fault P w K mg base f).X k).N.Nodup from fun _ => sc_least_fault.nd) (hx := lm308) (hf := lm309)) pgs_n))) (ss_1 (s_if (pdt_c (c_ne bf_room) (pd_ix (pd_fld fx.cls_Least fx.na_Least_numbers (pd_v 2 (hv := lm301) (hd := lm36) (hcd := lm37))) (pd_v 4 (hv := lm304) (hd := lm76) (hcd := lm77))) (pd_call h_asked_number bf_room (by decide) (pa_c (pd_fld fx.cls_Least fx.na_Least_numbers (pd_v 2 (hv := lm301) (hd := lm36) (hcd := lm37))) (pa_c (pd_ix (pd_v 3 (hv := lm299) (hd := lm120) (hcd := lm121)) (pd_v 5 (hv := lm310) (hd := lm311) (hcd := lm312))) pa_n)) (hg := lm314) (hdb := lm242))) (ss_1 (s_ret pd_str)) ss_nil)))
    (ss_c (s_for (ws := [4]) bf_pso (i_r1 fx.m_range (pa_c (pd_v 0 (hv := lm287) (hd := lm53) (hcd := lm54)) pa_n) (hg := lm289)) (pg_n (i := 4) (show ∀ k, ((FX_least_fault P w K mg base f).X k).N.Nodup from fun _ => sc_least_fault.nd) (hx := lm291) (hf := lm292)) (ss_c (s_set (i := 7) (show ∀ k, ((FX_least_fault P w K mg base f).X k).N.Nodup from fun _ => sc_least_fault.nd) (pd_v 4 (hv := lm304) (hd := lm76) (hcd := lm77)) (hx := lm302) (hf := lm303))
    (ss_c (s_for (ws := [8]) bf_pso (i_r1 fx.m_range (pa_c (pd_v 0 (hv := lm287) (hd := lm53) (hcd := lm54)) pa_n) (hg := lm289)) (pg_n (i := 8) (show ∀ k, ((FX_least_fault P w K mg base f).X k).N.Nodup from fun _ => sc_least_fault.nd) (hx := lm296) (hf := lm297)) (ss_1 (s_if (pdt_c c_isn (pd_v 7 (hv := lm294) (hd := lm157) (hcd := lm158)) pd_non) (ss_1 (s_set (i := 7) (show ∀ k, ((FX_least_fault P w K mg base f).X k).N.Nodup from fun _ => sc_least_fault.nd) (pd_ix (pd_ix (pd_v 3 (hv := lm299) (hd := lm120) (hcd := lm121)) (pd_ix (pd_fld fx.cls_Least fx.na_Least_reasons (pd_v 2 (hv := lm301) (hd := lm36) (hcd := lm37))) (pd_v 7 (hv := lm294) (hd := lm157) (hcd := lm158)))) pd_int) (hx := lm302) (hf := lm303))) ss_nil)))
    (ss_1 (s_if (pdt_c c_isn (pd_v 7 (hv := lm294) (hd := lm157) (hcd := lm158)) pd_non) (ss_1 (s_ret pd_str)) ss_nil)))))
    (ss_1 (s_ret pd_non)))))))))
end DL
end

section
set_option Elab.async false
set_option linter.all false
set_option maxRecDepth 100000
set_option maxHeartbeats 400000
namespace DL
open PySem PySem.Spec PyProof.Rows L2
/- least_numbers -/
def rd_least_numbers (K : PySem.W.Frag) (g : Str → Addr) : DCtx → DS := fun c =>
    (dSeq (dAsg (dCall (F_check_demands K g) [] c.w (dCons (dVar 0) (dCons (dVar 1) dNil))) (dgName 2))
    (dSeq (dAsg (dCall (F_greatest_roots K g) [] c.w (dCons (dVar 0) (dCons (dVar 2) dNil))) (dgName 3))
    (dSeq (dAsg (dLcM (diSeq (dVar 3)) (dgName 4) dYes (dOp rIx' (dOp rIx' (dVar 2) (dVar 4)) (dC (.int 2))) [4]) (dgName 5))
    (dSeq (dFor (diRng1 (dCons (dVar 0) dNil)) (dgName 6) (dSeq (dAsg (dC (.bl false)) (dgName 7))
    (dSeq (dFor (diEnum (dCons (dVar 2) dNil)) (dgTup 2 (dgCons (dgName 4) (dgCons (dgName 8) dgNil))) (dSeq (dAsg (dOp rIx' (dVar 8) (dC (.int 0))) (dgName 9))
    (dSeq (dAsg (dCall (F_asked_number K g) [] c.w (dCons (dVar 5) (dCons (dVar 8) dNil))) (dgName 10))
    (dIfS (dB (dOp (rI0' fun i j => .bl (decide (j < i))) (dVar 10) (dOp rIx' (dVar 5) (dVar 9)))) (dSeq (dAsg (dVar 10) (dgSub (dVar 5) (dVar 9)))
    (dSeq (dAsg (dVar 4) (dgSub (dVar 3) (dVar 9)))
    (dSeq (dAsg (dC (.bl true)) (dgName 7))
    (dIfS (dB (dOp rEq' (dVar 6) (dOp (rI0' fun i j => .int (i - j)) (dVar 0) (dC (.int 1))))) (dRetG (dMake (g "DemandRing") (F_DemandRing__init K g) [] c.w (dCons (dCall (F_ring_behind K g) [] c.w (dCons (dVar 0) (dCons (dVar 2) (dCons (dVar 3) (dCons (dVar 9) dNil))))) dNil))) dNext)))) dNext))))
    (dIfS (dNot (dTru (dVar 7))) dBreak dNext))))
    (dRetG (dMake (g "Least") (F_Least__init K g) [] c.w (dCons (dCB rTupOf' (dCons (dVar 5) dNil)) (dCons (dCB rTupOf' (dCons (dVar 3) dNil)) dNil))))))))
theorem der_least_numbers {P : Program} {w : World} {K : PySem.W.Frag} {mg : Str → Option Value} {base : Heap} {g : Str → Addr} {f : Addr} (fx : Fx P w K mg base g) (h_DemandRing__init : MkD P w K mg base 1 "DemandRing" (g "DemandRing") (F_DemandRing__init K g) []) (h_Least__init : MkD P w K mg base 1 "Least" (g "Least") (F_Least__init K g) []) (h_asked_number : FnD P w K mg base 1 "asked_number" (F_asked_number K g) []) (h_check_demands : FnD P w K mg base 3 "check_demands" (F_check_demands K g) []) (h_greatest_roots : FnD P w K mg base 1 "greatest_roots" (F_greatest_roots K g) []) (h_ring_behind : FnD P w K mg base 1 "ring_behind" (F_ring_behind K g) []) :
    PDSs (FX_least_numbers P w K mg base f) K (defBody st_least_numbers) (rd_least_numbers K g) :=
  (ss_c (s_set (i := 2) (show ∀ k, ((FX_least_numbers P w K mg base f).X k).N.Nodup from fun _ => sc_least_numbers.nd) (pd_call h_check_demands bf_room (by decide) (pa_c (pd_v 0 (hv := lm195) (hd := lm53) (hcd := lm54)) (pa_c (pd_v 1 (hv := lm258) (hd := lm60) (hcd := lm61)) pa_n)) (hg := lm260) (hdb := lm261)) (hx := lm262) (hf := lm263))
    (ss_c (s_set (i := 3) (show ∀ k, ((FX_least_numbers P w K mg base f).X k).N.Nodup from fun _ => sc_least_numbers.nd) (pd_call h_greatest_roots bf_room (by decide) (pa_c (pd_v 0 (hv := lm195) (hd := lm53) (hcd := lm54)) (pa_c (pd_v 2 (hv := lm206) (hd := lm120) (hcd := lm121)) pa_n)) (hg := lm253) (hdb := lm254)) (hx := lm255) (hf := lm256))
    (ss_c (s_setLcM (own := [("index", 4)]) (g := fun cb0 => (dgName 4)) (tt := fun cb0 => dYes) (te := fun cb0 => (dOp rIx' (dOp rIx' (dVar 2) (dVar 4)) (dC (.int 2)))) (i := 5) (show ∀ k, ((FX_least_numbers P w K mg base f).X k).N.Nodup from fun _ => sc_least_numbers.nd) (by intro _; kernel_rfl) (i_seq (pd_v 3 (hv := lm186) (hd := lm167) (hcd := lm168))) (show ∀ k, BlkOk ((FX_least_numbers P w K mg base f).X k).N ((FX_least_numbers P w K mg base f).X k).env.scope bs_least_numbers_0 [("index", 4)] from fun _ => blkOk_by blk_least_numbers_0) (pg_n (i := 4) (show ∀ k, ((blkF (FX_least_numbers P w K mg base f) bs_least_numbers_0).X k).N.Nodup from fun _ => sc_least_numbers.nd) (hx := lm247) (hf := lm248)) ts_nil (pd_ix (pd_ix (pd_v 2 (hv := lm249) (hd := lm120) (hcd := lm121)) (pd_v 4 (hv := lm250) (hd := lm102) (hcd := lm103))) pd_int) (hyl := lm251))
    (ss_c (s_for (ws := [6]) bf_pso (i_r1 fx.m_range (pa_c (pd_v 0 (hv := lm195) (hd := lm53) (hcd := lm54)) pa_n) (hg := lm197)) (pg_n (i := 6) (show ∀ k, ((FX_least_numbers P w K mg base f).X k).N.Nodup from fun _ => sc_least_numbers.nd) (hx := lm199) (hf := lm200)) (ss_c (s_set (i := 7) (show ∀ k, ((FX_least_numbers P w K mg base f).X k).N.Nodup from fun _ => sc_least_numbers.nd) pd_bl (hx := lm236) (hf := lm237))
    (ss_c (s_for (ws := [4, 8]) bf_pso (i_enum fx.m_enumerate (pa_c (pd_v 2 (hv := lm206) (hd := lm120) (hcd := lm121)) pa_n) (hg := lm208)) (pg_t (pgs_c (pg_n (i := 4) (show ∀ k, ((FX_least_numbers P w K mg base f).X k).N.Nodup from fun _ => sc_least_numbers.nd) (hx := lm213) (hf := lm214)) (pgs_c (pg_n (i := 8) (show ∀ k, ((FX_least_numbers P w K mg base f).X k).N.Nodup from fun _ => sc_least_numbers.nd) (hx := lm210) (hf := lm211)) pgs_n))) (ss_c (s_set (i := 9) (show ∀ k, ((FX_least_numbers P w K mg base f).X k).N.Nodup from fun _ => sc_least_numbers.nd) (pd_ix (pd_v 8 (hv := lm239) (hd := lm46) (hcd := lm47)) pd_int) (hx := lm245) (hf := lm246))
    (ss_c (s_set (i := 10) (show ∀ k, ((FX_least_numbers P w K mg base f).X k).N.Nodup from fun _ => sc_least_numbers.nd) (pd_call h_asked_number bf_room (by decide) (pa_c (pd_v 5 (hv := lm190) (hd := lm110) (hcd := lm111)) (pa_c (pd_v 8 (hv := lm239) (hd := lm46) (hcd := lm47)) pa_n)) (hg := lm241) (hdb := lm242)) (hx := lm243) (hf := lm244))
    (ss_1 (s_if (pdt_c c_gt (pd_v 10 (hv := lm216) (hd := lm217) (hcd := lm218)) (pd_ix (pd_v 5 (hv := lm190) (hd := lm110) (hcd := lm111)) (pd_v 9 (hv := lm220) (hd := lm76) (hcd := lm77)))) (ss_c (s_asg (ws := []) (pd_v 10 (hv := lm216) (hd := lm217) (hcd := lm218)) (pg_s (pd_v 5 (hv := lm190) (hd := lm110) (hcd := lm111)) (pd_v 9 (hv := lm220) (hd := lm76) (hcd := lm77))))
    (ss_c (s_asg (ws := []) (pd_v 4 (hv := lm238) (hd := lm102) (hcd := lm103)) (pg_s (pd_v 3 (hv := lm186) (hd := lm167) (hcd := lm168)) (pd_v 9 (hv := lm220) (hd := lm76) (hcd := lm77))))
    (ss_c (s_set (i := 7) (show ∀ k, ((FX_least_numbers P w K mg base f).X k).N.Nodup from fun _ => sc_least_numbers.nd) pd_bl (hx := lm236) (hf := lm237))
    (ss_1 (s_if (pdt_c (c_eq bf_room) (pd_v 6 (hv := lm221) (hd := lm222) (hcd := lm223)) (pd_sub (pd_v 0 (hv := lm195) (hd := lm53) (hcd := lm54)) pd_int)) (ss_1 (s_retG (pd_make h_DemandRing__init bf_room (by decide) (pa_c (pd_call h_ring_behind bf_room (by decide) (pa_c (pd_v 0 (hv := lm195) (hd := lm53) (hcd := lm54)) (pa_c (pd_v 2 (hv := lm206) (hd := lm120) (hcd := lm121)) (pa_c (pd_v 3 (hv := lm186) (hd := lm167) (hcd := lm168)) (pa_c (pd_v 9 (hv := lm220) (hd := lm76) (hcd := lm77)) pa_n)))) (hg := lm231) (hdb := lm232)) pa_n) (hg := lm234) (hdb := lm235)))) ss_nil))))) ss_nil)))))
    (ss_1 (s_if (pdt_not (pdt_tru (pd_v 7 (hv := lm202) (hd := lm203) (hcd := lm204)))) (ss_1 s_break) ss_nil)))))
    (ss_1 (s_retG (pd_make h_Least__init bf_room (by decide) (pa_c (pd_tupOf fx.m_tuple (pa_c (pd_v 5 (hv := lm190) (hd := lm110) (hcd := lm111)) pa_n) (hg := lm188)) (pa_c (pd_tupOf fx.m_tuple (pa_c (pd_v 3 (hv := lm186) (hd := lm167) (hcd := lm168)) pa_n) (hg := lm188)) pa_n)) (hg := lm192) (hdb := lm193))))))))
end DL
end

section
set_option Elab.async false
set_option linter.all false
set_option maxRecDepth 100000
set_option maxHeartbeats 400000
namespace DL
open PySem PySem.Spec PyProof.Rows L2
/- ring_behind -/
def rd_ring_behind (K : PySem.W.Frag) (g : Str → Addr) : DCtx → DS := fun c =>
    (dSeq (dAsg (dVar 3) (dgName 4))
    (dSeq (dFor (diRng1 (dCons (dVar 0) dNil)) (dgName 5) (dAsg (dOp rIx' (dOp rIx' (dVar 1) (dOp rIx' (dVar 2) (dVar 4))) (dC (.int 1))) (dgName 4)))
    (dSeq (dAsg (dVar 4) (dgName 6))
    (dSeq (dAsg (dLstM dNil) (dgName 7))
    (dSeq (dFor (diRng1 (dCons (dVar 0) dNil)) (dgName 5) (dSeq (dDrop (dBM rAppend' (dVar 7) (dCons (dOp rIx' (dVar 2) (dVar 4)) dNil)))
    (dSeq (dAsg (dOp rIx' (dOp rIx' (dVar 1) (dOp rIx' (dVar 2) (dVar 4))) (dC (.int 1))) (dgName 4))
    (dIfS (dB (dOp rEq' (dVar 4) (dVar 6))) dBreak dNext))))
    (dRetG (dTupRev (dVar 7))))))))
theorem der_ring_behind {P : Program} {w : World} {K : PySem.W.Frag} {mg : Str → Option Value} {base : Heap} {g : Str → Addr} {f : Addr} (fx : Fx P w K mg base g) :
    PDSs (FX_ring_behind P w K mg base f) K (defBody st_ring_behind) (rd_ring_behind K g) :=
  (ss_c (s_set (i := 4) (show ∀ k, ((FX_ring_behind P w K mg base f).X k).N.Nodup from fun _ => sc_ring_behind.nd) (pd_v 3 (hv := lm176) (hd := lm76) (hcd := lm77)) (hx := lm169) (hf := lm170))
    (ss_c (s_for (ws := [5]) bf_pso (i_r1 fx.m_range (pa_c (pd_v 0 (hv := lm149) (hd := lm53) (hcd := lm54)) pa_n) (hg := lm151)) (pg_n (i := 5) (show ∀ k, ((FX_ring_behind P w K mg base f).X k).N.Nodup from fun _ => sc_ring_behind.nd) (hx := lm153) (hf := lm154)) (ss_1 (s_set (i := 4) (show ∀ k, ((FX_ring_behind P w K mg base f).X k).N.Nodup from fun _ => sc_ring_behind.nd) (pd_ix (pd_ix (pd_v 1 (hv := lm164) (hd := lm120) (hcd := lm121)) (pd_ix (pd_v 2 (hv := lm166) (hd := lm167) (hcd := lm168)) (pd_v 4 (hv := lm156) (hd := lm157) (hcd := lm158)))) pd_int) (hx := lm169) (hf := lm170))))
    (ss_c (s_set (i := 6) (show ∀ k, ((FX_ring_behind P w K mg base f).X k).N.Nodup from fun _ => sc_ring_behind.nd) (pd_v 4 (hv := lm156) (hd := lm157) (hcd := lm158)) (hx := lm173) (hf := lm174))
    (ss_c (s_set (i := 7) (show ∀ k, ((FX_ring_behind P w K mg base f).X k).N.Nodup from fun _ => sc_ring_behind.nd) (pd_lstM pa_n) (hx := lm171) (hf := lm172))
    (ss_c (s_for (ws := [5]) bf_pso (i_r1 fx.m_range (pa_c (pd_v 0 (hv := lm149) (hd := lm53) (hcd := lm54)) pa_n) (hg := lm151)) (pg_n (i := 5) (show ∀ k, ((FX_ring_behind P w K mg base f).X k).N.Nodup from fun _ => sc_ring_behind.nd) (hx := lm153) (hf := lm154)) (ss_c (s_expr (pd_append (pd_v 7 (hv := lm141) (hd := lm142) (hcd := lm143)) (pa_c (pd_ix (pd_v 2 (hv := lm166) (hd := lm167) (hcd := lm168)) (pd_v 4 (hv := lm156) (hd := lm157) (hcd := lm158))) pa_n)))
    (ss_c (s_set (i := 4) (show ∀ k, ((FX_ring_behind P w K mg base f).X k).N.Nodup from fun _ => sc_ring_behind.nd) (pd_ix (pd_ix (pd_v 1 (hv := lm164) (hd := lm120) (hcd := lm121)) (pd_ix (pd_v 2 (hv := lm166) (hd := lm167) (hcd := lm168)) (pd_v 4 (hv := lm156) (hd := lm157) (hcd := lm158)))) pd_int) (hx := lm169) (hf := lm170))
    (ss_1 (s_if (pdt_c (c_eq bf_room) (pd_v 4 (hv := lm156) (hd := lm157) (hcd := lm158)) (pd_v 6 (hv := lm160) (hd := lm161) (hcd := lm162))) (ss_1 s_break) ss_nil)))))
    (ss_1 (s_retG (pd_tupRev fx.m_tuple fx.m_reversed (pd_v 7 (hv := lm141) (hd := lm142) (hcd := lm143)) (hg := lm145) (hg2 := lm147)))))))))
end DL
end

section
set_option Elab.async false
set_option linter.all false
set_option maxRecDepth 100000
set_option maxHeartbeats 400000
namespace DL
open PySem PySem.Spec PyProof.Rows L2
/- ring_fault -/
def rd_ring_fault (K : PySem.W.Frag) (g : Str → Addr) : DCtx → DS := fun c =>
    (dSeq (dAsg (dCall (F_check_demands K g) [] c.w (dCons (dVar 0) (dCons (dVar 1) dNil))) (dgName 3))
    (dSeq (dAsg (dFld (g "DemandRing") "indexes" (dVar 2)) (dgName 4))
    (dSeq (dIfS (dOr (dNot (dTru (dCB (rIsi' K) (dCons (dVar 4) (dCons (dC (.ty .tuple)) dNil))))) (dOr (dB (dOp rEq' (dVar 4) (dTup dNil))) (dNot (dTru (dCall (F_is_number_row K g) [] c.w (dCons (dVar 4) (dCons (dCB rLen' (dCons (dVar 4) dNil)) dNil))))))) (dRet (dC (.str "index"))) dNext)
    (dSeq (dFor (diSeq (dVar 4)) (dgName 5) (dIfS (dOr (dNot (dB (dChain (rI0' fun i j => .bl (decide (i ≤ j))) (rI0' fun i j => .bl (decide (i < j))) (dC (.int 0)) (dVar 5) (dCB rLen' (dCons (dVar 3) dNil))))) (dB (dOp rIsN' (dOp rIx' (dOp rIx' (dVar 3) (dVar 5)) (dC (.int 1))) (dC .non)))) (dRet (dC (.str "index"))) dNext))
    (dSeq (dFor (diEnum (dCons (dVar 4) dNil)) (dgTup 2 (dgCons (dgName 6) (dgCons (dgName 5) dgNil))) (dIfS (dB (dOp rNe' (dOp rIx' (dOp rIx' (dVar 3) (dVar 5)) (dC (.int 1))) (dOp rIx' (dOp rIx' (dVar 3) (dOp rIx' (dVar 4) (dOp (rI0' fun i j => .int (i - j)) (dVar 6) (dC (.int 1))))) (dC (.int 0))))) (dRet (dC (.str "closed"))) dNext))
    (dSeq (dIfS (dB (dOp (rI0' fun i j => .bl (decide (i ≤ j))) (dCB rSum' (dCons (dLc (diSeq (dVar 4)) (dgName 5) dYes (dOp rIx' (dOp rIx' (dVar 3) (dVar 5)) (dC (.int 2))) [5]) dNil)) (dC (.int 0)))) (dRet (dC (.str "sum"))) dNext)
    (dRet (dC .non))))))))
theorem der_ring_fault {P : Program} {w : World} {K : PySem.W.Frag} {mg : Str → Option Value} {base : Heap} {g : Str → Addr} {f : Addr} (fx : Fx P w K mg base g) (h_check_demands : FnD P w K mg base 3 "check_demands" (F_check_demands K g) []) (h_is_number_row : FnD P w K mg base 1 "is_number_row" (F_is_number_row K g) []) :
    PDSs (FX_ring_fault P w K mg base f) K (defBody st_ring_fault) (rd_ring_fault K g) :=
  (ss_c (s_set (i := 3) (show ∀ k, ((FX_ring_fault P w K mg base f).X k).N.Nodup from fun _ => sc_ring_fault.nd) (pd_call h_check_demands bf_room (by decide) (pa_c (pd_v 0 (hv := lm365) (hd := lm53) (hcd := lm54)) (pa_c (pd_v 1 (hv := lm363) (hd := lm60) (hcd := lm61)) pa_n)) (hg := lm367) (hdb := lm261)) (hx := lm368) (hf := lm369))
    (ss_c (s_set (i := 4) (show ∀ k, ((FX_ring_fault P w K mg base f).X k).N.Nodup from fun _ => sc_ring_fault.nd) (pd_fld fx.cls_DemandRing fx.na_DemandRing_indexes (pd_v 2 (hv := lm359) (hd := lm142) (hcd := lm143))) (hx := lm360) (hf := lm361))
    (ss_c (s_if (pdw_or (pdt_not (pdt_tru (pd_isi fx.m_isinstance (pa_c (pd_v 4 (hv := lm331) (hd := lm228) (hcd := lm229)) (pa_c (pd_ty .tuple fx.m_tuple (by decide +kernel) (hg := lm353) (hn := lm26) (hd := lm27)) pa_n)) (hg := lm355)))) (pdw_or (pdt_c (c_eq bf_room) (pd_v 4 (hv := lm331) (hd := lm228) (hcd := lm229)) (pd_tup pa_n)) (pdw_or1 (pdt_not (pdt_tru (pd_call h_is_number_row bf_room (by decide) (pa_c (pd_v 4 (hv := lm331) (hd := lm228) (hcd := lm229)) (pa_c (pd_len fx.m_len (pa_c (pd_v 4 (hv := lm331) (hd := lm228) (hcd := lm229)) pa_n) (hg := lm351)) pa_n)) (hg := lm357) (hdb := lm323))))))).pdt (ss_1 (s_ret pd_str)) ss_nil)
    (ss_c (s_for (ws := [5]) bf_pso (i_seq (pd_v 4 (hv := lm331) (hd := lm228) (hcd := lm229))) (pg_n (i := 5) (show ∀ k, ((FX_ring_fault P w K mg base f).X k).N.Nodup from fun _ => sc_ring_fault.nd) (hx := lm341) (hf := lm342)) (ss_1 (s_if (pdw_or (pdt_not (pdt_chain c_le c_lt pd_int (pd_v 5 (hv := lm348) (hd := lm102) (hcd := lm103)) (pd_len fx.m_len (pa_c (pd_v 3 (hv := lm347) (hd := lm120) (hcd := lm121)) pa_n) (hg := lm351)))) (pdw_or1 (pdt_c c_is (pd_ix (pd_ix (pd_v 3 (hv := lm347) (hd := lm120) (hcd := lm121)) (pd_v 5 (hv := lm348) (hd := lm102) (hcd := lm103))) pd_int) pd_non))).pdt (ss_1 (s_ret pd_str)) ss_nil)))
    (ss_c (s_for (ws := [6, 5]) bf_pso (i_enum fx.m_enumerate (pa_c (pd_v 4 (hv := lm331) (hd := lm228) (hcd := lm229)) pa_n) (hg := lm339)) (pg_t (pgs_c (pg_n (i := 6) (show ∀ k, ((FX_ring_fault P w K mg base f).X k).N.Nodup from fun _ => sc_ring_fault.nd) (hx := lm344) (hf := lm345)) (pgs_c (pg_n (i := 5) (show ∀ k, ((FX_ring_fault P w K mg base f).X k).N.Nodup from fun _ => sc_ring_fault.nd) (hx := lm341) (hf := lm342)) pgs_n))) (ss_1 (s_if (pdt_c (c_ne bf_room) (pd_ix (pd_ix (pd_v 3 (hv := lm347) (hd := lm120) (hcd := lm121)) (pd_v 5 (hv := lm348) (hd := lm102) (hcd := lm103))) pd_int) (pd_ix (pd_ix (pd_v 3 (hv := lm347) (hd := lm120) (hcd := lm121)) (pd_ix (pd_v 4 (hv := lm331) (hd := lm228) (hcd := lm229)) (pd_sub (pd_v 6 (hv := lm349) (hd := lm157) (hcd := lm158)) pd_int))) pd_int)) (ss_1 (s_ret pd_str)) ss_nil)))
    (ss_c (s_if (pdt_c c_le (pd_sum fx.m_sum (pa_c (pd_lc (own := [("index", 5)]) (g := fun cb0 => (dgName 5)) (tt := fun cb0 => dYes) (te := fun cb0 => (dOp rIx' (dOp rIx' (dVar 3) (dVar 5)) (dC (.int 2)))) (show ∀ k, ((FX_ring_fault P w K mg base f).X k).N.Nodup from fun _ => sc_ring_fault.nd) (i_seq (pd_v 4 (hv := lm331) (hd := lm228) (hcd := lm229))) (show ∀ k, BlkOk ((FX_ring_fault P w K mg base f).X k).N ((FX_ring_fault P w K mg base f).X k).env.scope bs_ring_fault_0 [("index", 5)] from fun _ => blkOk_by blk_ring_fault_0) (pg_n (i := 5) (show ∀ k, ((blkF (FX_ring_fault P w K mg base f) bs_ring_fault_0).X k).N.Nodup from fun _ => sc_ring_fault.nd) (hx := lm332) (hf := lm333)) ts_nil (pd_ix (pd_ix (pd_v 3 (hv := lm334) (hd := lm120) (hcd := lm121)) (pd_v 5 (hv := lm335) (hd := lm102) (hcd := lm103))) pd_int)) pa_n) (hg := lm337)) pd_int) (ss_1 (s_ret pd_str)) ss_nil)
    (ss_1 (s_ret pd_non))))))))
end DL
end

section
set_option Elab.async false
set_option linter.all false
set_option maxRecDepth 100000
set_option maxHeartbeats 400000
namespace DL
open PySem PySem.Spec PyProof.Rows L2
local macro_rules | `(tactic| walk_at "dl") => `(tactic| simp only [x_C, x_V0, x_V, x_op, x_I, x_I0, x_addI, x_addT, x_B, x_And, x_Or, x_Not, x_Tru, x_AndT, x_OrT, x_NotT, x_If, x_nil, x_cons, x_Tup, x_Lst, x_LstM, x_CB, x_Chain, x_UnI, x_int, x_abs, x_lenT, x_lenL, x_listOfT, x_listOfL, x_tupOfT, x_tupOfL, x_call, x_make, x_BM, x_NoPart, x_Part, x_Sl, x_Fld', x_gName, x_gNil, x_gCons, x_gTup, x_next, x_brk, x_cont, x_drop, x_ret, x_retG, x_ifS, x_asg, x_raise, x_isiT, List.set_cons_zero, List.set_cons_succ, List.append_nil])
/-- the ends of a body -/
abbrev endB (Q : DV) : DEnds := { nx := fun _ S' => Q .non S', rt := Q }
abbrev cE (E : DX) : DCtx := ⟨fun C fs _ S => E C fs S, none⟩
theorem ty_int {S : Sto} {d : D} (h : tyD S d = some .int) : ∃ i, d = .int i := by
  cases d with
  | int i => exact ⟨i, rfl⟩
  | raw a => simp only [tyD] at h; split at h <;> simp at h
  | _ => simp [tyD] at h
theorem ty_bool {S : Sto} {d : D} (h : tyD S d = some .bool) : ∃ i, d = .bl i := by
  cases d with
  | bl i => exact ⟨i, rfl⟩
  | raw a => simp only [tyD] at h; split at h <;> simp at h
  | _ => simp [tyD] at h
theorem whole_non {S : Sto} {d : D} {a : Ty} {lo hi : Int} (h : tyD S d = some a) (n : a ≠ .int) : wholeD lo hi d = false := by
  cases d with
  | int i => cases h; exact absurd rfl n
  | _ => rfl
theorem dat_is_whole (K : PySem.W.Frag) (g : Str → Addr) : ∀ ds S Q E, F_is_whole K g ds S Q E → rd_is_whole K g (cE E) (endB Q) (startD N_is_whole ds) S := fun ds S Q E h => by
  obtain ⟨d, lo, hi, rfl, ht, hq⟩ := h
  obtain ⟨a, ha⟩ := Option.isSome_iff_exists.mp ht
  have e0 : startD N_is_whole [d, .int lo, .int hi] = [some d, some (.int lo), some (.int hi)] := rfl
  rw [e0]
  unfold rd_is_whole
  walk_at "dl"
  simp only [x_isi ha, tr_bl]
  refine ⟨by decide, ?_⟩
  by_cases hi' : a = .int
  · subst hi'
    obtain ⟨i, rfl⟩ := ty_int ha
    have e : wholeD lo hi (.int i) = (decide (lo ≤ i) && decide (i ≤ hi)) := rfl
    rw [e] at hq
    simp only [show subT .int .int = true from rfl, show subT .int .bool = false from rfl, if_true, Bool.not_false, x_I0]
    refine ⟨by decide, ?_⟩
    split
    · rename_i z; rw [z] at hq; exact hq
    · rename_i z; simp only [Bool.not_eq_true] at z; rw [z] at hq; exact hq
  · rw [whole_non ha hi'] at hq
    by_cases hb : a = .bool
    · subst hb
      simp only [show subT .bool .int = true from rfl, show subT .bool .bool = true from rfl, if_true, Bool.not_true, Bool.false_eq_true, if_false]
      exact ⟨by decide, hq⟩
    · have e : subT a .int = false := by cases a <;> first | rfl | exact absurd rfl hi' | exact absurd rfl hb
      simp only [e, Bool.false_eq_true, if_false]
      exact hq
theorem row_ty {S : Sto} {d : D} {a : Ty} (h : tyD S d = some a) : (asQ S d).isSome = (([Ty.list, Ty.tuple]).any fun n => subT a n) := by
  cases d with
  | raw x =>
    simp only [tyD] at h
    simp only [asQ, asL]
    cases e : S x with
    | none => simp only [e] at h; cases h
    | some o => cases o <;> simp only [e] at h ⊢ <;> first | cases h | skip
                all_goals rfl
  | ins C fs => cases h
  | ty n => cases h
  | _ => cases h; rfl
theorem dat_is_row (K : PySem.W.Frag) (g : Str → Addr) : ∀ ds S Q E, F_is_row K g ds S Q E → rd_is_row K g (cE E) (endB Q) (startD N_is_row ds) S := fun ds S Q E h => by
  obtain ⟨d, lo, hi, rfl, ht, hq⟩ := h
  obtain ⟨a, ha⟩ := Option.isSome_iff_exists.mp ht
  have e0 : startD N_is_row [d, .int lo, .int hi] = [some d, some (.int lo), some (.int hi)] := rfl
  rw [e0]
  unfold rd_is_row
  walk_at "dl"
  simp only [ha, tr_bl]
  have r := row_ty ha
  cases e : asQ S d with
  | none =>
    rw [e] at r hq
    rw [← r]
    simp only [Option.isSome_none, Bool.false_eq_true, if_false]
    exact hq
  | some es =>
    rw [e] at r hq
    rw [← r]
    simp only [Option.isSome_some, if_true, x_len e, x_I0]
    have e2 : rowD lo hi (some es) = (decide (lo ≤ es.length) && decide ((es.length : Int) ≤ hi)) := rfl
    rw [e2] at hq
    split
    · rename_i z; rw [z] at hq; exact hq
    · rename_i z; simp only [Bool.not_eq_true] at z; rw [z] at hq; exact hq
theorem dat_law_mixed (K : PySem.W.Frag) (g : Str → Addr) : ∀ ds S Q E, F_law_mixed K g ds S Q E → rd_law_mixed K g (cE E) (endB Q) (startD N_law_mixed ds) S := fun ds S Q E h => by
  obtain ⟨n, t, rfl, hn, ht, hq⟩ := h
  have e0 : startD N_law_mixed [.int n, .int t] = [some (.int n), some (.int t), none, none] := rfl
  rw [e0]
  unfold rd_law_mixed
  refine x_seq fun R hR => ?_
  walk_at "dl"
  refine ⟨by unfold CM; omega, by unfold CM; omega, by omega, hR _ _ ?_⟩
  have b1 := Int.emod_nonneg (n * 48271 + t * 7919 + 30011) (b := 2147483399) (by decide)
  have b2 := Int.emod_lt_of_pos (n * 48271 + t * 7919 + 30011) (b := 2147483399) (by decide)
  generalize (n * 48271 + t * 7919 + 30011) % 2147483399 = o at b1 b2
  refine x_seq fun R hR => ?_
  walk_at "dl"
  refine ⟨by unfold CM; omega, by unfold CM; omega, by unfold CD; omega, by omega, hR _ _ ?_⟩
  generalize (o * o + t * 92821 + o / 131) = z
  have b3 := Int.emod_nonneg z (b := 2147483629) (by decide)
  have b4 := Int.emod_lt_of_pos z (b := 2147483629) (by decide)
  generalize z % 2147483629 = o2 at b3 b4
  walk_at "dl"
  refine ⟨by unfold CM; omega, by unfold CD; omega, by omega, by unfold CD; omega, hq _ ?_⟩
  have b5 := Int.emod_nonneg (o2 * 69621 + o / 13) (b := 2147483587) (by decide)
  omega
end DL
end

section
set_option Elab.async false
set_option linter.all false
set_option maxRecDepth 100000
set_option maxHeartbeats 400000
namespace DL
open PySem PySem.Spec PyProof.Rows L2
local macro_rules | `(tactic| walk_at "dl") => `(tactic| simp only [x_C, x_V0, x_V, x_op, x_I, x_I0, x_addI, x_addT, x_B, x_And, x_Or, x_Not, x_Tru, x_AndT, x_OrT, x_NotT, x_If, x_nil, x_cons, x_Tup, x_Lst, x_LstM, x_CB, x_Chain, x_UnI, x_int, x_abs, x_lenT, x_lenL, x_listOfT, x_listOfL, x_tupOfT, x_tupOfL, x_call, x_make, x_BM, x_NoPart, x_Part, x_Sl, x_Fld', x_gName, x_gNil, x_gCons, x_gTup, x_next, x_brk, x_cont, x_drop, x_ret, x_retG, x_ifS, x_asg, x_raise, x_isiT, List.set_cons_zero, List.set_cons_succ, List.append_nil])
theorem at4_0 {a b c d : D} : atI [a, b, c, d] 0 = some a := rfl
theorem at4_1 {a b c d : D} : atI [a, b, c, d] 1 = some b := rfl
theorem at4_2 {a b c d : D} : atI [a, b, c, d] 2 = some c := rfl
theorem at4_3 {a b c d : D} : atI [a, b, c, d] 3 = some d := rfl
theorem ix4_1 {a b c d : D} : ixN [a, b, c, d].length 1 = some 1 := rfl
theorem ix4_2 {a b c d : D} : ixN [a, b, c, d].length 2 = some 2 := rfl
theorem ix4_3 {a b c d : D} : ixN [a, b, c, d].length 3 = some 3 := rfl
theorem cpow_1018 : CPow 10 18 := by unfold CPow; omega
abbrev handL (cs : List Int) (i r t : Int) : O := .lst [.lst (cs.map D.int), .int i, .int r, .int t]
theorem opn_hand {env : DEnv} {S : Sto} {h : Addr} (hh : Hand S h) : Opn env S (fun env2 S2 => env2 = env ∧ ∃ (cs : List Int) (i r t : Int), S2 = updS S h (handL cs i r t) ∧ (∀ c ∈ cs, 0 ≤ c) ∧ 0 ≤ i ∧ 0 ≤ r ∧ 0 ≤ t) := fun K Z H σ re rl => by
  obtain ⟨nz, u, hu, ca, cs, i, r, t, rfl, hZ, hb⟩ := rl.own h _ hh
  refine ⟨Z, env, updS S h (handL cs i r t), ⟨rfl, cs, i, r, t, rfl, hb⟩, Same.refl _, re, rl.sub, fun b o e => ?_⟩
  by_cases hbh : b = h
  · subst hbh
    rw [updS_same] at e
    cases e
    exact ⟨nz, _, hu, _, rfl, .cons (.lst hZ (Reps.of_ints cs)) (.cons (.int _) (.cons (.int _) (.cons (.int _) .nil)))⟩
  · rw [updS_ne hbh] at e
    exact rl.own b o e
theorem close_hand {S : Sto} {h : Addr} {cs : List Int} {i r t : Int} {d : D} (hh : Hand S h) (h0 : ∀ c ∈ cs, 0 ≤ c) (h1 : 0 ≤ i) (h2 : 0 ≤ r) (h3 : 0 ≤ t) : GhR (updS S h (handL cs i r t)) d S d := fun K Z H v p rl => by
  refine ⟨Z, Same.refl _, p, rl.sub, fun b o e => ?_⟩
  by_cases hbh : b = h
  · subst hbh
    rw [hh] at e
    cases e
    obtain ⟨nz, u, hu, xs, rfl, hr⟩ := rl.own b _ updS_same
    cases hr with | cons q1 q2 =>
    cases q2 with | cons q3 q4 =>
    cases q4 with | cons q5 q6 =>
    cases q6 with | cons q7 q8 =>
    cases q8
    cases q1 with | lst z1 z2 =>
    cases q3; cases q5; cases q7
    rw [Reps.ints z2] at z1
    exact ⟨nz, _, hu, _, cs, i, r, t, rfl, z1, h0, h1, h2, h3⟩
  · exact rl.own b o (by rw [updS_ne hbh]; exact e)
theorem dat_law_take (K : PySem.W.Frag) (g : Str → Addr) : ∀ ds S Q E, F_law_take K g ds S Q E → rd_law_take K g (cE E) (endB Q) (startD N_law_take ds) S := fun ds S Q E h => by
  obtain ⟨h, n, rfl, hh, hn, hn2, hq⟩ := h
  have e0 : startD N_law_take [.raw h, .int n] = [some (.raw h), some (.int n), none, none] := rfl
  rw [e0]
  unfold rd_law_take
  refine ⟨_, opn_hand hh, ?_⟩
  rintro _ _ ⟨rfl, cs, i, r, t, rfl, hcs, hi, hr, ht⟩
  have cm : ∀ a : Int, CM a 1709 := fun a => by unfold CM; omega
  refine x_seq fun R hR => ?_
  have key : ∀ (x : Option D) (cs : List Int) (i r t : Int), (∀ c ∈ cs, 0 ≤ c) → 0 ≤ i → 0 ≤ r → 0 ≤ t → R [some (.raw h), some (.int n), x, none] (updS S h (handL cs i r t)) := fun x cs i r t hcs hi hr ht => hR _ _ (by
    refine x_seq fun R2 hR2 => ?_
    walk_at "dl"
    simp only [x_ixQ as_upd, at4_2, x_I0]
    split
    · rename_i hp
      have hp := of_decide_eq_true hp
      refine x_seq fun R3 hR3 => ?_
      walk_at "dl"
      simp only [x_ixQ as_upd, at4_2]
      refine hR3 _ _ ?_
      refine x_seq fun R4 hR4 => ?_
      walk_at "dl"
      refine ⟨⟨hn, hn2⟩, ?_⟩
      simp only [x_gSub, x_C, x_V0, own_upd, ix4_2, updS_upd]
      refine hR4 _ _ ?_
      walk_at "dl"
      refine ⟨hn, _, S, close_hand hh hcs hi (Int.ediv_nonneg hr (by omega)) ht, hq _ (Int.emod_nonneg _ (by omega)) (Int.emod_lt_of_pos _ hn)⟩
    · refine hR2 _ _ ?_
      refine x_seq fun R3 hR3 => ?_
      walk_at "dl"
      simp only [x_ixQ as_upd, at4_3, x_addI, x_int, x_I]
      refine ⟨by omega, ?_⟩
      simp only [x_gSub, x_C, x_V0, own_upd, ix4_3, updS_upd]
      refine hR3 _ _ ?_
      have b1 := Int.emod_nonneg (t + 1) (b := 2147483549) (by decide)
      show dRetG _ _ _ (updS S h (handL cs i r ((t + 1) % 2147483549)))
      generalize (t + 1) % 2147483549 = t2 at b1
      walk_at "dl"
      simp only [x_ixQ as_upd, at4_3, at4_1]
      refine ⟨_, _, rfl, b1, hi, fun z hz => ?_⟩
      simp only [x_int, x_V0, x_V, x_I]
      exact ⟨hn, _, S, close_hand hh hcs hi hr b1, hq _ (Int.emod_nonneg _ (by omega)) (Int.emod_lt_of_pos _ hn)⟩)
  walk_at "dl"
  simp only [x_ixQ as_upd, at4_0, at4_1, at4_2, x_eqI, x_lenL, x_I0]
  split
  · split
    · rename_i _ hlt
      have hlt := of_decide_eq_true hlt
      rw [List.length_map] at hlt
      obtain ⟨cell, hc⟩ : ∃ c, cs[i.toNat]? = some c := ⟨cs[i.toNat]'(by omega), List.getElem?_eq_getElem (by omega)⟩
      have hc0 : 0 ≤ cell := hcs cell (List.mem_of_getElem? hc)
      refine x_seq fun R2 hR2 => ?_
      walk_at "dl"
      simp only [x_ixQ as_upd, at4_0, at4_1]
      have e1 : asQ (updS S h (handL cs i r t)) (.lst (cs.map D.int)) = some (cs.map D.int) := rfl
      have e2 : atI (cs.map D.int) i = some (.int cell) := by
        rw [atI_ok hi (by rw [List.length_map]; exact hlt), List.getElem?_map, hc]
        rfl
      simp only [x_ixQ e1, e2]
      refine hR2 _ _ ?_
      refine x_seq fun R3 hR3 => ?_
      walk_at "dl"
      simp only [x_ixQ as_upd, at4_1, x_addI]
      simp only [x_gSub, x_C, x_V0, own_upd, ix4_1, updS_upd]
      refine hR3 _ _ ?_
      refine x_seq fun R4 hR4 => ?_
      walk_at "dl"
      refine ⟨cpow_1018, ?_⟩
      split
      · refine ⟨by omega, ?_⟩
        show rIx' _ _ (updS S h (handL cs (i + 1) r t)) _
        simp only [x_ixQ as_upd, at4_1]
        refine ⟨_, _, rfl, Int.emod_nonneg _ (by decide), by omega, fun z hz => ?_⟩
        simp only [x_int, x_V0, x_V, x_I]
        exact ⟨hn, _, S, close_hand hh hcs (by omega) hr ht, hq _ (Int.emod_nonneg _ (by omega)) (Int.emod_lt_of_pos _ hn)⟩
      · refine hR4 _ _ ?_
        walk_at "dl"
        simp only [x_gSub, x_C, x_V0, x_V, own_upd, ix4_2, updS_upd]
        exact key (some (.int cell)) cs (i + 1) cell t hcs (by omega) hc0 ht
    · exact key none cs i r t hcs hi hr ht
  · simp only [Bool.false_eq_true, if_false]
    exact key none cs i r t hcs hi hr ht
end DL
end

section
set_option Elab.async false
set_option linter.all false
set_option maxRecDepth 100000
set_option maxHeartbeats 400000
namespace DL
open PySem PySem.Spec PyProof.Rows L2
local macro_rules | `(tactic| walk_at "dl") => `(tactic| simp only [x_C, x_V0, x_V, x_op, x_I, x_I0, x_addI, x_addT, x_B, x_And, x_Or, x_Not, x_Tru, x_AndT, x_OrT, x_NotT, x_If, x_nil, x_cons, x_Tup, x_Lst, x_LstM, x_CB, x_Chain, x_UnI, x_int, x_abs, x_lenT, x_lenL, x_listOfT, x_listOfL, x_tupOfT, x_tupOfL, x_call, x_make, x_BM, x_NoPart, x_Part, x_Sl, x_Fld', x_gName, x_gNil, x_gCons, x_gTup, x_next, x_brk, x_cont, x_drop, x_ret, x_retG, x_ifS, x_asg, x_raise, x_isiT, List.set_cons_zero, List.set_cons_succ, List.append_nil, x_for, x_while, x_iSeq, as_lst, as_tup, x_iRng1, x_iRng2, x_iEnum, x_lc, x_lcM, x_yes, x_Rg1, x_Rg2, x_ixT, x_ixL, x_eqI, x_neI, tr_bl, tr_int, x_gSub])

theorem getElem_map {α β : Type} {f : α → β} {xs : List α} {i : Nat} {y : β} (h : (xs.map f)[i]? = some y) : ∃ x, xs[i]? = some x ∧ y = f x := by
  rw [List.getElem?_map] at h
  obtain ⟨x, h1, h2⟩ := Option.map_eq_some_iff.mp h
  exact ⟨x, h1, h2.symm⟩
theorem take_succ' {α : Type} {xs : List α} {i : Nat} {x : α} (h : xs[i]? = some x) : xs.take (i + 1) = xs.take i ++ [x] := by
  rw [List.take_succ, h]; rfl
theorem new_hand {S : Sto} {a b : Addr} {cs : List Int} {t : Int} (ha : S a = none) (hb : updS S a (.lst (cs.map fun c => D.int c)) b = none) (hc : ∀ c ∈ cs, 0 ≤ c) (ht : 0 ≤ t) :
    GhR (updS (updS S a (.lst (cs.map fun c => D.int c))) b (.lst [.raw a, .int 0, .int 0, .int t])) (.raw b) (updS S b (.abs handP)) (.raw b) := fun K Z H v p rl => by
  have hab : a ≠ b := fun e => by subst e; rw [updS_same] at hb; cases hb
  have hba : b ≠ a := fun e => hab e.symm
  obtain ⟨u, h1, h2, r2, s2⟩ := rl.freeze (a := a) (o := .lst (cs.map fun c => D.int c)) (by rw [updS_ne hab, updS_same])
  obtain ⟨xs, rfl, h3⟩ := h2
  cases p
  refine ⟨_, s2, .raw b, r2.sub, fun x o e => ?_⟩
  by_cases hx : x = b
  · subst hx
    rw [updS_same] at e
    cases e
    obtain ⟨nz, u, h4, h5⟩ := r2.own x (.lst [.raw a, .int 0, .int 0, .int t]) (by rw [delS_ne hba, updS_same])
    refine ⟨nz, u, h4, ?_⟩
    obtain ⟨ys, rfl, h6⟩ := h5
    cases h6 with | cons q1 q2 =>
    cases q2 with | cons q3 q4 =>
    cases q4 with | cons q5 q6 =>
    cases q6 with | cons q7 q8 =>
    cases q8
    cases q1; cases q3; cases q5; cases q7
    rw [Reps.ints h3]
    exact ⟨a, cs, 0, 0, t, rfl, upd_same, hc, by decide, by decide, ht⟩
  · rw [updS_ne hx] at e
    have hxa : x ≠ a := fun z => by subst z; rw [ha] at e; cases e
    exact r2.own x o (by rw [delS_ne hxa, updS_ne hx, updS_ne hxa]; exact e)
theorem dat_law_hand (K : PySem.W.Frag) (g : Str → Addr) : ∀ ds S Q E, F_law_hand K g ds S Q E → rd_law_hand K g (cE E) (endB Q) (startD N_law_hand ds) S := fun ds S Q E h => by
  obtain ⟨sc, cs, rfl, hsc, hl, hq⟩ := h
  have e0 : startD N_law_hand [.raw sc] = [some (.raw sc), none, none, none] := rfl
  rw [e0]
  unfold rd_law_hand
  refine x_seq fun R hR => ?_
  walk_at "dl"
  refine ⟨cs, hsc, hR _ _ ?_⟩
  refine x_seq fun R hR => ?_
  walk_at "dl"
  refine ⟨by decide, fun a ha => hR _ _ ?_⟩
  refine x_seq fun R hR => ?_
  walk_at "dl"
  simp only [diSeqS, x_V, x_V0]
  refine ⟨sc, cs, rfl, hsc.upd ha, fun i env S' => ∃ tot x, 0 ≤ tot ∧ env = [some (.raw sc), some (.int tot), some (.raw a), x] ∧ S' = updS S a (.lst ((cs.take i).map fun c => .int (if c < 0 then -c else c))), ⟨_, none, by omega, rfl, rfl⟩, fun _ _ _ h => by
    obtain ⟨_, _, _, _, rfl⟩ := h
    exact hsc.upd ha, ?_, ?_⟩
  · rintro i _ _ _ hi ⟨tot, x, htot, rfl, rfl⟩
    obtain ⟨c, hc, rfl⟩ := getElem_map hi
    have hlt : i < cs.length := (List.getElem?_eq_some_iff.mp hc).1
    simp only [List.set_cons_zero, List.set_cons_succ]
    refine x_seq fun R2 hR2 => ?_
    walk_at "dl"
    refine ⟨by unfold CM; omega, by omega, hR2 _ _ ?_⟩
    walk_at "dl"
    simp only [asl_upd, Option.isSome_some, true_and, x_append own_upd, updS_upd]
    refine ⟨?_, _, _, Int.emod_nonneg _ (by decide), rfl, ?_⟩
    · rw [List.length_map, List.length_take, sizeLine_eq]; omega
    · rw [take_succ' hc, List.map_append]; rfl
  · rintro _ _ ⟨tot, x, htot, rfl, rfl⟩
    refine hR _ _ ?_
    walk_at "dl"
    rw [List.length_map, List.take_length]
    have e : (cs.map fun c => D.int (if c < 0 then -c else c)) = ((cs.map fun c => if c < 0 then -c else c).map fun c => D.int c) := by rw [List.map_map]; rfl
    rw [e]
    refine ⟨by rw [sizeLine_eq]; simp, fun b hb => ⟨_, _, new_hand ha hb ?_ htot, hq b ?_⟩⟩
    · intro c hc
      obtain ⟨x, _, rfl⟩ := List.mem_map.mp hc
      split <;> omega
    · by_cases hab : b = a
      · subst hab; exact ha
      · rw [updS_ne hab] at hb; exact hb
end DL
end

section
set_option Elab.async false
set_option linter.all false
set_option maxRecDepth 100000
set_option maxHeartbeats 400000
namespace DL
open PySem PySem.Spec PyProof.Rows L2
local macro_rules | `(tactic| walk_at "dl") => `(tactic| simp only [x_C, x_V0, x_V, x_op, x_I, x_I0, x_addI, x_addT, x_B, x_And, x_Or, x_Not, x_Tru, x_AndT, x_OrT, x_NotT, x_If, x_nil, x_cons, x_Tup, x_Lst, x_LstM, x_CB, x_Chain, x_UnI, x_int, x_abs, x_lenT, x_lenL, x_listOfT, x_listOfL, x_tupOfT, x_tupOfL, x_call, x_make, x_BM, x_NoPart, x_Part, x_Sl, x_gName, x_gNil, x_gCons, x_gTup, x_next, x_brk, x_cont, x_drop, x_ret, x_retG, x_ifS, x_asg, x_raise, x_isiT, List.set_cons_zero, List.set_cons_succ, List.append_nil, x_for, x_while, x_iSeq, as_lst, as_tup, x_iRng1, x_iRng2, x_iEnum, x_lc, x_lcM, x_yes, x_Rg1, x_Rg2, x_ixT, x_ixL, x_eqI, x_neI, tr_bl, tr_int, x_gSub])
theorem Fr.refl (S : Sto) : Fr S S := fun _ _ h => h
theorem Fr.trans {S S1 S2 : Sto} (a : Fr S S1) (b : Fr S1 S2) : Fr S S2 := fun x o h => b x o (a x o h)
theorem Fr.upd {S S' : Sto} {a : Addr} {o : O} (h : Fr S S') (ha : S a = none) : Fr S (updS S' a o) := fun x u e => by
  have hx : x ≠ a := fun z => by subst z; rw [ha] at e; cases e
  rw [updS_ne hx]
  exact h x u e
theorem Fr.del {S S' : Sto} {a : Addr} (h : Fr S S') (ha : S a = none) : Fr S (delS S' a) := fun x u e => by
  have hx : x ≠ a := fun z => by subst z; rw [ha] at e; cases e
  rw [delS_ne hx]
  exact h x u e
theorem Fr.none {S S' : Sto} {a : Addr} (h : Fr S S') (ha : S' a = none) : S a = none := by
  cases e : S a with
  | none => rfl
  | some o => rw [h a o e] at ha; cases ha
theorem as_raw {S : Sto} {a : Addr} {es : List D} (h : S a = some (.lst es)) : asQ S (.raw a) = some es := by simp only [asQ, asL, h]
theorem asl_raw {S : Sto} {a : Addr} {es : List D} (h : S a = some (.lst es)) : asL S (.raw a) = some es := by simp only [asL, h]
theorem own_raw {S : Sto} {a : Addr} {es : List D} (h : S a = some (.lst es)) : ownL S (.raw a) = some (a, es) := by simp only [ownL, h]
theorem tr_raw {S : Sto} {a : Addr} {es : List D} (h : S a = some (.lst es)) : truD S (.raw a) = some (!es.isEmpty) := by simp only [truD, asQ, asL, h, Option.map_some]
theorem x_pop {S : Sto} {a : Addr} {es : List D} {y : D} {Q : DV} (h : S a = some (.lst (es ++ [y]))) : rPop' (.raw a) [] S Q = Q y (updS S a (.lst es)) := by
  unfold rPop'
  simp only [own_raw h]
  have e : (es ++ [y])[(es ++ [y]).length - 1]? = some y := by simp
  simp only [e, List.dropLast_concat]
theorem rng_get {n : Nat} {i : Nat} {x : D} {lo : Int} (h : (rngD lo n)[i]? = some x) : i < n ∧ x = .int (lo + (i : Nat)) := by
  unfold rngD at h
  rw [List.getElem?_map] at h
  obtain ⟨y, h1, h2⟩ := Option.map_eq_some_iff.mp h
  obtain ⟨h3, h4⟩ := List.getElem?_eq_some_iff.mp h1
  rw [List.length_range] at h3
  rw [List.getElem_range] at h4
  subst h4
  exact ⟨h3, h2.symm⟩
theorem rng_len {n : Nat} {lo : Int} : (rngD lo n).length = n := by unfold rngD; rw [List.length_map, List.length_range]
theorem x_FldS {C : Addr} {f : Str} {to te : DE} {E : DEnds} {env : DEnv} {S : Sto} : dFldS C f to te E env S = te env S fun y S1 => to env S1 fun x S2 => match x with
  | .raw a => (match S2 a with
    | some (.ins C' fs) => C' = C ∧ fs.length < 1000 ∧ E.nx env (updS S2 a (.ins C' (putD f y fs)))
    | _ => False)
  | _ => False := rfl
theorem enum_get {ds : List D} {i : Nat} {x : D} (h : (enumD ds)[i]? = some x) : ∃ d, ds[i]? = some d ∧ x = .tup [.int (i : Nat), d] := by
  unfold enumD at h
  rw [List.getElem?_map, List.getElem?_zipIdx] at h
  cases e : ds[i]? with
  | none => rw [e] at h; cases h
  | some d =>
    rw [e] at h
    simp at h
    exact ⟨d, rfl, h.symm⟩
theorem enum_len {ds : List D} : (enumD ds).length = ds.length := by unfold enumD; simp
theorem if_tt {p q : Prop} : (if true = true then p else q) = p := if_pos rfl
theorem if_ff {p q : Prop} : (if false = true then p else q) = q := if_neg (by decide)
theorem cpow_109 : CPow 10 9 := by unfold CPow; omega
theorem whole_in {lo hi i : Int} (h1 : lo ≤ i) (h2 : i ≤ hi) : wholeD lo hi (.int i) = true := by unfold wholeD; simp [h1, h2]
theorem whole_of {lo hi : Int} {d : D} (h : wholeD lo hi d = true) : ∃ i, d = .int i ∧ lo ≤ i ∧ i ≤ hi := by
  cases d with
  | int i => unfold wholeD at h; simp at h; exact ⟨i, rfl, h.1, h.2⟩
  | _ => cases h
theorem drop_cons' {α : Type} {xs : List α} {i : Nat} {x : α} (h : xs[i]? = some x) : xs.drop i = x :: xs.drop (i + 1) := by
  obtain ⟨h1, h2⟩ := List.getElem?_eq_some_iff.mp h
  rw [List.drop_eq_getElem_cons h1, h2]
theorem at2_0 {a b : D} : atI [a, b] 0 = some a := rfl
theorem at2_1 {a b : D} : atI [a, b] 1 = some b := rfl
theorem ints_of : ∀ ns : List Int, intsOf (intL ns) = some ns
  | [] => rfl
  | n :: ns => by
    show (intsOf (intL ns)).map (n :: ·) = _
    rw [ints_of ns]; rfl
theorem fa_take {K : PySem.W.Frag} {g : Str → Addr} {S : Sto} {h : Addr} {n : Int} {Q : DV} {E : DX} (hh : Hand S h) (h0 : 0 < n) (h1 : n < 18446744073709551616) (q : ∀ r, 0 ≤ r → r < n → Q (.int r) S) : F_law_take K g [.raw h, .int n] S Q E := ⟨h, n, rfl, hh, h0, h1, q⟩
theorem hand_upd {S : Sto} {h a : Addr} {o : O} (hh : Hand S h) (ha : S a = none) : Hand (updS S a o) h := by
  unfold Hand at *
  rw [updS_ne (neS hh ha)]
  exact hh
theorem cpow_1012 : CPow 10 12 := by unfold CPow; omega
theorem p1012 : ((10 : Int) ^ Int.toNat 12) = 1000000000000 := rfl
theorem p109 : ((10 : Int) ^ Int.toNat 9) = 1000000000 := rfl
theorem whole_out {lo hi i : Int} (h : i < lo ∨ hi < i) : wholeD lo hi (.int i) = false := by
  show (decide (lo ≤ i) && decide (i ≤ hi)) = false
  rcases h with h | h
  · rw [decide_eq_false (p := lo ≤ i) (by omega), Bool.false_and]
  · rw [decide_eq_false (p := i ≤ hi) (by omega), Bool.and_false]
theorem x_addL {i j : List D} {S : Sto} {Q : DV} : rAdd' (.lst i) (.lst j) S Q = (i.length + j.length ≤ sizeLine ∧ Q (.lst (i ++ j)) S) := rfl
theorem isN_non : isNon .non = true := rfl
theorem x_isN {x : D} {S : Sto} {Q : DV} : rIsN' x .non S Q = Q (.bl (isNon x)) S := rfl
theorem asl_lst {S : Sto} {es : List D} : asL S (.lst es) = some es := rfl
theorem cut_from {xs : List D} {t : Int} (h0 : 0 ≤ t) (h1 : t ≤ xs.length) : cutD xs (some t) none = xs.drop t.toNat := by
  unfold cutD
  have e1 : HT.sIx xs.length 0 (some t) = t.toNat := by
    unfold HT.sIx
    simp only
    rw [if_neg (by omega)]
    omega
  rw [e1]
  show (xs.drop t.toNat).take (xs.length - t.toNat) = _
  exact List.take_of_length_le (by rw [List.length_drop]; omega)
theorem cut_to {xs : List D} {t : Int} (h0 : 0 ≤ t) (h1 : t ≤ xs.length) : cutD xs none (some t) = xs.take t.toNat := by
  unfold cutD
  have e1 : HT.sIx xs.length xs.length (some t) = t.toNat := by
    unfold HT.sIx
    simp only
    rw [if_neg (by omega)]
    omega
  rw [e1]
  show (xs.drop 0).take (t.toNat - 0) = _
  rw [List.drop_zero, Nat.sub_zero]
theorem cut_from' {xs : List D} {t : Int} (h0 : 0 ≤ t) : cutD xs (some t) none = xs.drop t.toNat := by
  by_cases h1 : t ≤ xs.length
  · exact cut_from h0 h1
  · unfold cutD
    have e1 : HT.sIx xs.length 0 (some t) = xs.length := by
      unfold HT.sIx
      simp only
      rw [if_neg (by omega)]
      omega
    rw [e1, List.drop_length, List.take_nil, List.drop_of_length_le (by omega)]
theorem eq_ints : ∀ xs : List Int, eqDs (intL xs) (intL xs) = true
  | [] => by simp [intL, eqDs]
  | x :: xs => by
    show eqDs (.int x :: intL xs) (.int x :: intL xs) = true
    simp [eqDs, eqD, eq_ints xs]
theorem shp_int {n : Nat} {i : Int} : shp n (.int i) = true := by cases n <;> simp [shp]
theorem shp_ints {n : Nat} (xs : List Int) : shps n (intL xs) = true := shps_all.mpr fun d hd => by
  obtain ⟨i, _, rfl⟩ := List.mem_map.mp hd
  exact shp_int
theorem x_ne {x y : D} {S : Sto} {Q : DV} {ds : List D} (hx : x = .lst ds) (hy : y = .lst ds) (h1 : shp 60 (.lst ds) = true) (h2 : eqDs ds ds = true) (q : Q (.bl false) S) : rNe' x y S Q := by
  subst hx; subst hy
  refine ⟨h1, h1, ?_⟩
  have e : eqD (frz S (.lst ds)) (frz S (.lst ds)) = true := by
    show eqD (.lst ds) (.lst ds) = true
    simp only [eqD, h2]
  rw [e]
  exact q
theorem x_eq {x y : D} {S : Sto} {Q : DV} {ds : List D} (hx : x = .lst ds) (hy : y = .lst ds) (h1 : shp 60 (.lst ds) = true) (h2 : eqDs ds ds = true) (q : Q (.bl true) S) : rEq' x y S Q := by
  subst hx; subst hy
  refine ⟨h1, h1, ?_⟩
  have e : eqD (frz S (.lst ds)) (frz S (.lst ds)) = true := by
    show eqD (.lst ds) (.lst ds) = true
    simp only [eqD, h2]
  rw [e]
  exact q
end DL
end

section
set_option Elab.async false
set_option linter.all false
set_option maxRecDepth 100000
set_option maxHeartbeats 400000
namespace DL
open PySem PySem.Spec PyProof.Rows L2
local macro_rules | `(tactic| walk_at "dl") => `(tactic| simp only [x_C, x_V0, x_V, x_op, x_I, x_I0, x_addI, x_addT, x_B, x_And, x_Or, x_Not, x_Tru, x_AndT, x_OrT, x_NotT, x_If, x_nil, x_cons, x_Tup, x_Lst, x_LstM, x_CB, x_Chain, x_UnI, x_int, x_abs, x_lenT, x_lenL, x_listOfT, x_listOfL, x_tupOfT, x_tupOfL, x_call, x_make, x_BM, x_NoPart, x_Part, x_Sl, x_gName, x_gNil, x_gCons, x_gTup, x_next, x_brk, x_cont, x_drop, x_ret, x_retG, x_ifS, x_asg, x_raise, x_isiT, List.set_cons_zero, List.set_cons_succ, List.append_nil, x_for, x_while, x_iSeq, as_lst, as_tup, x_iRng1, x_iRng2, x_iEnum, x_lc, x_lcM, x_yes, x_Rg1, x_Rg2, x_ixT, x_ixL, x_eqI, x_neI, tr_bl, tr_int, x_gSub])
theorem at3_0 {a b c : D} : atI [a, b, c] 0 = some a := rfl
theorem at3_1 {a b c : D} : atI [a, b, c] 1 = some b := rfl
theorem at3_2 {a b c : D} : atI [a, b, c] 2 = some c := rfl
theorem x_notN {x : D} {S : Sto} {Q : DV} : rNotN' x .non S Q = Q (.bl (!isNon x)) S := rfl
theorem fa_whole {K : PySem.W.Frag} {g : Str → Addr} {d : D} {lo hi : Int} {S : Sto} {Q : DV} {E : DX} (h : (tyD S d).isSome = true) (q : Q (.bl (wholeD lo hi d)) S) : F_is_whole K g [d, .int lo, .int hi] S Q E := ⟨d, lo, hi, rfl, h, q⟩
theorem fa_row {K : PySem.W.Frag} {g : Str → Addr} {d : D} {lo hi : Int} {S : Sto} {Q : DV} {E : DX} (h : (tyD S d).isSome = true) (q : Q (.bl (rowD lo hi (asQ S d))) S) : F_is_row K g [d, .int lo, .int hi] S Q E := ⟨d, lo, hi, rfl, h, q⟩
theorem num_at {nu : List Int} {v : Int} (h0 : 0 ≤ v) (h1 : v < nu.length) : atI (intL nu) v = some (.int (numAt nu v)) := by
  have h : v.toNat < nu.length := by omega
  rw [atI_ok h0 (by rw [List.length_map]; exact h1), List.getElem?_map, List.getElem?_eq_getElem h]
  unfold numAt
  rw [List.getD_eq_getElem?_getD, List.getElem?_eq_getElem h]
  rfl
theorem dat_asked_number (K : PySem.W.Frag) (g : Str → Addr) : ∀ ds S Q E, F_asked_number K g ds S Q E → rd_asked_number K g (cE E) (endB Q) (startD N_asked_number ds) S := fun ds S Q E h => by
  obtain ⟨d, nu, ⟨p, s, b⟩, rfl, hd, hs, hq⟩ := h
  have e0 : startD N_asked_number [d, rowDt (p, s, b)] = [some d, some (.tup [.int p, optD s, .int b])] := rfl
  rw [e0]
  unfold rd_asked_number
  refine x_seq fun R hR => ?_
  walk_at "dl"
  simp only [at3_1, x_isN]
  cases s with
  | none =>
    simp only [optD, show isNon .non = true from rfl, if_tt, x_ixT, at3_2]
    exact hq
  | some u =>
    obtain ⟨u0, u1⟩ := hs u rfl
    simp only [optD, show isNon (.int u) = false from rfl, if_ff]
    refine hR _ _ ?_
    walk_at "dl"
    simp only [at3_1, at3_2]
    rw [x_ixQ hd]
    rw [num_at u0 u1]
    exact hq

theorem row_at {rs : List Row} {i : Nat} {x : D} (h : (rowsD rs)[i]? = some x) : ∃ r, rs[i]? = some r ∧ x = rowDt r := getElem_map h
theorem rows_len {rs : List Row} : (rowsD rs).length = rs.length := List.length_map _
theorem isN_opt {o : Option Int} : isNon (optD o) = o.isNone := by cases o <;> rfl
theorem in_ints (v : Int) (xs : List Int) : inD (.int v) (intL xs) = decide (v ∈ xs) := by
  rw [Bool.eq_iff_iff, decide_eq_true_iff]
  unfold inD intL
  rw [List.any_eq_true]
  constructor
  · rintro ⟨d, hd, he⟩
    obtain ⟨i, hi, rfl⟩ := List.mem_map.mp hd
    have : i = v := by simpa [eqD] using he
    exact this ▸ hi
  · intro h
    exact ⟨.int v, List.mem_map.mpr ⟨v, h, rfl⟩, by simp [eqD]⟩
theorem flat_ints (xs : List Int) : (intL xs).all flatD = true := by
  rw [List.all_eq_true]
  intro d hd
  obtain ⟨i, _, rfl⟩ := List.mem_map.mp hd
  rfl

theorem seq_cases {d : D} {es : List D} (h : seqD d = some es) : d = .tup es ∨ d = .lst es := by
  cases d with
  | tup xs => cases h; exact .inl rfl
  | lst xs => cases h; exact .inr rfl
  | _ => cases h
theorem x_iEnumV {t : DA} {env : DEnv} {S : Sto} {d : D} {es : List D} {R : List D → (Sto → Prop) → Sto → Prop} (ht : ∀ Q : List D → Sto → Prop, t env S Q = Q [d] S) (h : seqD d = some es) : diEnum t env S R = R (enumD es) (fun _ => True) S := by
  unfold diEnum
  rw [ht]
  rcases seq_cases h with rfl | rfl <;> rfl
theorem x_iSeqV {te : DE} {env : DEnv} {S : Sto} {d : D} {es : List D} {R : List D → (Sto → Prop) → Sto → Prop} (ht : ∀ Q : DV, te env S Q = Q d S) (h : seqD d = some es) : diSeq te env S R = R es (fun _ => True) S := by
  unfold diSeq
  rw [ht]
  rcases seq_cases h with rfl | rfl <;> rfl
theorem firstN_some {α : Type} {p : α → Bool} : ∀ {xs : List α} {m k : Nat} {x : α}, xs[k]? = some x → p x = true → (∀ j y, j < k → xs[j]? = some y → p y = false) → firstN p m xs = some (m + k)
  | [], m, k, x, h, _, _ => by cases h
  | y :: ys, m, k, x, h, hp, hn => by
    unfold firstN
    cases k with
    | zero =>
      cases h
      rw [if_pos hp]; rfl
    | succ k =>
      rw [if_neg (by rw [hn 0 y (Nat.zero_lt_succ _) rfl]; decide), firstN_some (k := k) h hp fun j z hj hz => hn (j + 1) z (Nat.succ_lt_succ hj) hz]
      congr 1; omega
theorem firstN_none {α : Type} {p : α → Bool} : ∀ {xs : List α} {m : Nat}, (∀ x ∈ xs, p x = false) → firstN p m xs = none
  | [], _, _ => rfl
  | y :: ys, m, h => by
    unfold firstN
    rw [if_neg (by rw [h y List.mem_cons_self]; decide)]
    exact firstN_none fun x hx => h x (List.mem_cons_of_mem _ hx)
theorem firstN_is {α : Type} {p : α → Bool} : ∀ {xs : List α} {m k : Nat}, firstN p m xs = some k → m ≤ k ∧ ∃ x, xs[k - m]? = some x ∧ p x = true
  | [], _, _, h => by cases h
  | y :: ys, m, k, h => by
    unfold firstN at h
    split at h
    · rename_i hp
      cases h
      exact ⟨Nat.le_refl _, y, by rw [Nat.sub_self]; rfl, hp⟩
    · obtain ⟨a, x, b, c⟩ := firstN_is h
      refine ⟨by omega, x, ?_, c⟩
      obtain ⟨q, hq⟩ : ∃ q, k - m = q + 1 := ⟨k - m - 1, by omega⟩
      rw [hq]
      rw [show k - (m + 1) = q by omega] at b
      exact b
theorem firstN_all {α : Type} {p : α → Bool} : ∀ {xs : List α} {m : Nat}, firstN p m xs = none → ∀ x ∈ xs, p x = false
  | y :: ys, m, h, x, hx => by
    unfold firstN at h
    split at h
    · cases h
    · rename_i hp
      rcases List.mem_cons.mp hx with rfl | hx
      · simpa using hp
      · exact firstN_all h x hx
theorem rowG_some {n : Int} {d : D} {r : Row} (h : rowG n d = some r) : seqD d = some [.int r.1, optD r.2.1, .int r.2.2] ∧ VRow n r := by
  unfold rowG at h
  split at h
  · rename_i a b c hs
    split at h
    · rename_i hc
      simp only [Bool.and_eq_true, Bool.or_eq_true] at hc
      obtain ⟨⟨h1, h2⟩, h3⟩ := hc
      obtain ⟨p, rfl, p0, p1⟩ := whole_of h1
      obtain ⟨x, rfl, x0, x1⟩ := whole_of h3
      cases h
      by_cases hb : isNon b = true
      · have : b = .non := by cases b <;> first | rfl | cases hb
        subst this
        exact ⟨hs, ⟨p0, by show p < n; omega, fun u hu => (by rw [if_pos hb] at hu; cases hu), x0, x1⟩⟩
      · rcases h2 with h2 | h2
        · exact absurd h2 hb
        · obtain ⟨u, rfl, u0, u1⟩ := whole_of h2
          exact ⟨hs, ⟨p0, by show p < n; omega, fun v hv => (by rw [if_neg hb] at hv; cases hv; exact ⟨u0, show u < n by omega⟩), x0, x1⟩⟩
    · cases h
  · cases h
theorem rowG_row {n : Int} {r : Row} (h : VRow n r) {d : D} (hd : seqD d = some [.int r.1, optD r.2.1, .int r.2.2]) : rowG n d = some r := by
  obtain ⟨p, s, b⟩ := r
  have p0 := h.p0
  have p1 := h.p1
  have b0 := h.b0
  have b1 := h.b1
  simp only at p0 p1 b0 b1 hd
  unfold rowG
  rw [hd]
  cases s with
  | none =>
    have e : (wholeD 0 (n - 1) (.int p) && (isNon (optD none) || wholeD 0 (n - 1) (optD none)) && wholeD (-1000000000000) 1000000000000 (.int b)) = true := by
      rw [whole_in p0 (by omega), whole_in (by omega) b1]; rfl
    simp only [e, if_true]
    rfl
  | some u =>
    obtain ⟨u0, u1⟩ := h.s u rfl
    have e : (wholeD 0 (n - 1) (.int p) && (isNon (optD (some u)) || wholeD 0 (n - 1) (optD (some u))) && wholeD (-1000000000000) 1000000000000 (.int b)) = true := by
      show (wholeD 0 (n - 1) (.int p) && (false || wholeD 0 (n - 1) (.int u)) && wholeD (-1000000000000) 1000000000000 (.int b)) = true
      rw [whole_in p0 (by omega), whole_in u0 (by omega), whole_in (by omega) b1]; rfl
    simp only [e, if_true]
    rfl
theorem dat_is_demand (K : PySem.W.Frag) (g : Str → Addr) : ∀ ds S Q E, F_is_demand K g ds S Q E → rd_is_demand K g (cE E) (endB Q) (startD N_is_demand ds) S := fun ds S Q E h => by
  obtain ⟨n, d, rfl, hd, hq⟩ := h
  have e0 : startD N_is_demand [.int n, d] = [some (.int n), some d] := rfl
  rw [e0]
  unfold rd_is_demand
  refine x_seq fun R hR => ?_
  walk_at "dl"
  refine fa_row (hd.ty S) ?_
  rw [hd.sq S]
  simp only [tr_bl]
  have bad : rowD 3 3 (seqD d) = false → Q (.bl false) S → (if (!rowD 3 3 (seqD d)) = true then Q (.bl false) S else True) := fun _ z => by split <;> first | exact z | trivial
  have none3 : rowD 3 3 (seqD d) = false → rowG n d = none := fun h3 => by
    unfold rowG
    split
    · rename_i a b c hs
      rw [hs] at h3
      cases h3
    · rfl
  cases h3 : rowD 3 3 (seqD d) with
  | false =>
    simp only [Bool.not_false, if_true]
    rw [none3 h3] at hq
    exact hq
  | true =>
  simp only [Bool.not_true, if_ff]
  obtain ⟨a, b, c, hs⟩ : ∃ a b c, seqD d = some [a, b, c] := by
    cases hs : seqD d with
    | none => rw [hs] at h3; cases h3
    | some es =>
      rw [hs] at h3
      unfold rowD at h3
      simp only [Bool.and_eq_true, decide_eq_true_eq] at h3
      match es, h3 with
      | [a, b, c], _ => exact ⟨a, b, c, rfl⟩
      | [], h => simp at h
      | [_], h => simp at h
      | [_, _], h => simp at h
      | _ :: _ :: _ :: _ :: _, h => simp at h; omega
  have hq1 : asQ S d = some [a, b, c] := (hd.sq S).trans hs
  have ha := hd.els _ hs a (by simp) S
  have hb := hd.els _ hs b (by simp) S
  have hc := hd.els _ hs c (by simp) S
  have er : rowG n d = if (wholeD 0 (n - 1) a && (isNon b || wholeD 0 (n - 1) b) && wholeD (-1000000000000) 1000000000000 c) = true then some (asI a, (if isNon b = true then none else some (asI b)), asI c) else none := by
    unfold rowG; rw [hs]
  rw [x_ixQ hq1, at3_0]
  refine fa_whole ha ?_
  simp only [tr_bl]
  cases h1 : wholeD 0 (n - 1) a with
  | false =>
    simp only [Bool.not_false, if_true]
    rw [er, h1] at hq
    exact hq
  | true =>
  simp only [Bool.not_true, if_ff]
  refine hR _ _ ?_
  refine x_seq fun R hR => ?_
  have last : (isNon b || wholeD 0 (n - 1) b) = true → R [some (.int n), some d] S := fun hbb => hR _ _ (by
    walk_at "dl"
    rw [x_ixQ hq1, at3_2]
    refine ⟨cpow_1012, cpow_1012, ?_⟩
    rw [p1012]
    refine fa_whole hc ?_
    rw [er, h1, hbb] at hq
    cases h4 : wholeD (-1000000000000) 1000000000000 c with
    | false => rw [h4] at hq; exact hq
    | true => rw [h4] at hq; exact hq)
  walk_at "dl"
  rw [x_ixQ hq1, at3_1]
  simp only [x_notN]
  cases hn : isNon b with
  | true =>
    simp only [Bool.not_true, if_ff]
    exact last (by rw [hn]; rfl)
  | false =>
    simp only [Bool.not_false, if_true]
    rw [x_ixQ hq1, at3_1]
    refine fa_whole hb ?_
    simp only [tr_bl]
    cases h5 : wholeD 0 (n - 1) b with
    | false =>
      simp only [Bool.not_false, if_true]
      rw [er, h1, hn, h5] at hq
      exact hq
    | true =>
      simp only [Bool.not_true, if_ff]
      exact last (by rw [hn, h5]; rfl)
theorem rooted_mem {rs : List Row} {v : Int} : rooted rs v = true ↔ ∃ b, (v, none, b) ∈ rs := by
  unfold rooted
  rw [List.any_eq_true]
  constructor
  · rintro ⟨⟨p, s, b⟩, hm, h⟩
    rw [Bool.and_eq_true] at h
    obtain ⟨h1, h2⟩ := h
    have h1 := of_decide_eq_true h1
    simp only at h1 h2
    subst h1
    cases s with
    | none => exact ⟨b, hm⟩
    | some u => cases h2
  · rintro ⟨b, hm⟩
    exact ⟨_, hm, by simp⟩
/-- what a system is that is let by -/
theorem due_ok {c gd : D} (h : dueD c gd = none) : ∃ n es, c = .int n ∧ seqD gd = some es ∧ VSys n (rowsG c gd) ∧ listG gd = es ∧ es.length = (rowsG c gd).length ∧ ∀ (j : Nat) (d : D), es[j]? = some d → ∃ r, (rowsG c gd)[j]? = some r ∧ rowG n d = some r ∧ seqD d = some [.int r.1, optD r.2.1, .int r.2.2] := by
  unfold dueD at h
  split at h
  · cases h
  rename_i h1
  split at h
  · cases h
  rename_i h2
  split at h
  · cases h
  rename_i h3
  split at h
  · cases h
  rename_i h4
  have h1 : wholeD 1 60 c = true := by simpa using h1
  have h2 : rowD 0 400 (seqD gd) = true := by simpa using h2
  obtain ⟨n, rfl, n0, n1⟩ := whole_of h1
  cases hs : seqD gd with
  | none => rw [hs] at h2; cases h2
  | some es =>
    rw [hs] at h2
    have hl : listG gd = es := by unfold listG; rw [hs]; rfl
    have hlen : es.length ≤ 400 := by
      unfold rowD at h2
      simp only [Bool.and_eq_true, decide_eq_true_eq] at h2
      omega
    rw [hl] at h3
    have hall := firstN_all h3
    have hr : ∀ d ∈ es, ∃ r, rowG n d = some r := fun d hd => by
      have := hall d hd
      show ∃ r, rowG (asI (.int n)) d = some r
      cases hc : rowG (asI (.int n)) d with
      | none => rw [hc] at this; cases this
      | some r => exact ⟨r, rfl⟩
    have hrs : rowsG (.int n) gd = es.map fun d => (rowG n d).getD (0, none, 0) := by unfold rowsG; rw [hl]; rfl
    have hat : ∀ (j : Nat) (d : D), es[j]? = some d → ∃ r, (rowsG (.int n) gd)[j]? = some r ∧ rowG n d = some r ∧ seqD d = some [.int r.1, optD r.2.1, .int r.2.2] := fun j d hd => by
      obtain ⟨r, hr⟩ := hr d (List.mem_of_getElem? hd)
      refine ⟨r, ?_, hr, (rowG_some hr).1⟩
      rw [hrs, List.getElem?_map, hd]
      show some ((rowG n d).getD (0, none, 0)) = some r
      rw [hr]; rfl
    refine ⟨n, es, rfl, rfl, ⟨n0, n1, by rw [hrs, List.length_map]; exact hlen, fun r hr' => ?_, fun v v0 v1 => ?_⟩, hl, by rw [hrs, List.length_map], hat⟩
    · rw [hrs] at hr'
      obtain ⟨d, hd, rfl⟩ := List.mem_map.mp hr'
      obtain ⟨r, hr⟩ := hr d hd
      rw [hr]
      exact (rowG_some hr).2
    · have h5 := firstN_all h4 v.toNat (List.mem_range.mpr (by show v.toNat < n.toNat; omega))
      have h5 : rooted (rowsG (.int n) gd) ((v.toNat : Nat) : Int) = true := by simpa using h5
      rw [show ((v.toNat : Nat) : Int) = v by omega] at h5
      exact rooted_mem.mp h5
theorem DueP.mono {g : Str → Addr} {c gd : D} {S : Sto} {E : DX} {q q' : Int → List Row → Prop} (h : DueP g c gd S E q) (hq : ∀ n es, c = .int n → seqD gd = some es → VSys n (rowsG c gd) → q n (rowsG c gd) → q' n (rowsG c gd)) : DueP g c gd S E q' := by
  refine ⟨h.ct, h.gt, ?_⟩
  have hh := h.h
  split
  · rename_i w e
    rw [e] at hh
    exact hh
  · rename_i e
    rw [e] at hh
    obtain ⟨n, es, rfl, hs, hV, _⟩ := due_ok e
    exact hq n es rfl hs hV hh
theorem due_good {n : Int} {rs : List Row} {gd : D} {es : List D} (hV : VSys n rs) (hs : seqD gd = some es) (hl : es.length = rs.length) (hat : ∀ (j : Nat) (r : Row), rs[j]? = some r → ∃ d, es[j]? = some d ∧ seqD d = some [.int r.1, optD r.2.1, .int r.2.2]) : dueD (.int n) gd = none ∧ rowsG (.int n) gd = rs := by
  have hlg : listG gd = es := by unfold listG; rw [hs]; rfl
  have n0 := hV.n0
  have n1 := hV.n1
  have hlen := hV.len
  have hrow : ∀ (j : Nat) (d : D), es[j]? = some d → ∃ r, rs[j]? = some r ∧ rowG n d = some r := fun j d hd => by
    have hj : j < rs.length := by rw [← hl]; exact (List.getElem?_eq_some_iff.mp hd).1
    obtain ⟨d', hd', hsd⟩ := hat j rs[j] (List.getElem?_eq_getElem hj)
    rw [hd] at hd'
    cases hd'
    exact ⟨rs[j], List.getElem?_eq_getElem hj, rowG_row (hV.row _ (List.getElem_mem hj)) hsd⟩
  have hrs : rowsG (.int n) gd = rs := by
    unfold rowsG
    rw [hlg]
    refine List.ext_getElem? fun j => ?_
    rw [List.getElem?_map]
    cases hd : es[j]? with
    | none =>
      have : rs[j]? = none := List.getElem?_eq_none (by rw [← hl]; exact List.getElem?_eq_none_iff.mp hd)
      rw [this]; rfl
    | some d =>
      obtain ⟨r, h1, h2⟩ := hrow j d hd
      rw [h1]
      show some ((rowG n d).getD (0, none, 0)) = some r
      rw [h2]; rfl
  refine ⟨?_, hrs⟩
  unfold dueD
  rw [if_neg (by rw [whole_in n0 n1]; decide), if_neg (by
    rw [hs]
    have : rowD 0 400 (some es) = true := by unfold rowD; simp only [Bool.and_eq_true, decide_eq_true_eq]; omega
    rw [this]; decide), hlg, firstN_none (fun d hd => by
      obtain ⟨j, hj, rfl⟩ := List.getElem_of_mem hd
      obtain ⟨r, _, h2⟩ := hrow j es[j] (List.getElem?_eq_getElem hj)
      show (rowG n es[j]).isNone = false
      rw [h2]; rfl), hrs]
  show (match firstN (fun v : Nat => !rooted rs v) 0 (List.range n.toNat) with
    | some k => some (("root" : Str), (k : Int))
    | none => none) = none
  rw [firstN_none fun v hv => by
    have hv := List.mem_range.mp hv
    rw [rooted_mem.mpr (hV.root (v : Int) (by omega) (by omega))]; rfl]
theorem dat_check_demands (K : PySem.W.Frag) (g : Str → Addr) : ∀ ds S Q E, F_check_demands K g ds S Q E → rd_check_demands K g (cE E) (endB Q) (startD N_check_demands ds) S := fun ds S Q E h => by
  obtain ⟨c, gd, rfl, hP⟩ := h
  have hct := hP.ct
  have hgt := hP.gt
  have hh := hP.h
  have e0 : startD N_check_demands [c, gd] = [some c, some gd, none, none, none, none] := rfl
  rw [e0]
  unfold rd_check_demands
  refine x_seq fun R hR => ?_
  walk_at "dl"
  refine fa_whole (hct S) ?_
  simp only [tr_bl]
  cases hw : wholeD 1 60 c with
  | false =>
    simp only [Bool.not_false, if_true]
    have e : dueD c gd = some (("count" : Str), 0) := by unfold dueD; rw [if_pos hw]
    rw [e] at hh
    exact ⟨rfl, hh S (Fr.refl S)⟩
  | true =>
  simp only [Bool.not_true, if_ff]
  refine hR _ _ ?_
  obtain ⟨n, rfl, n0, n1⟩ := whole_of hw
  refine x_seq fun R hR => ?_
  walk_at "dl"
  refine fa_row (hgt.r.ty S) ?_
  rw [hgt.r.sq S]
  simp only [tr_bl]
  cases hw2 : rowD 0 400 (seqD gd) with
  | false =>
    simp only [Bool.not_false, if_true]
    have e : dueD (.int n) gd = some (("many" : Str), 0) := by unfold dueD; rw [if_neg (by rw [hw]; decide), if_pos hw2]
    rw [e] at hh
    exact ⟨rfl, hh S (Fr.refl S)⟩
  | true =>
  simp only [Bool.not_true, if_ff]
  refine hR _ _ ?_
  obtain ⟨es, hs⟩ : ∃ es, seqD gd = some es := by
    cases hs : seqD gd with
    | none => rw [hs] at hw2; cases hw2
    | some es => exact ⟨es, rfl⟩
  have hlen : es.length ≤ 400 := by
    rw [hs] at hw2
    unfold rowD at hw2
    simp only [Bool.and_eq_true, decide_eq_true_eq] at hw2
    omega
  have hlg : listG gd = es := by unfold listG; rw [hs]; rfl
  have hd2 : dueD (.int n) gd = (match firstN (fun d => (rowG n d).isNone) 0 es with
    | some k => some (("demand" : Str), (k : Int))
    | none => match firstN (fun v : Nat => !rooted (rowsG (.int n) gd) v) 0 (List.range n.toNat) with
      | some k => some ("root", (k : Int))
      | none => none) := by
    unfold dueD
    rw [if_neg (by rw [hw]; decide), if_neg (by rw [hw2]; decide), hlg]
    rfl
  refine x_seq fun R hR => ?_
  rw [x_for, x_iEnumV (d := gd) (fun _ => rfl) hs]
  refine ⟨fun k env S' => ∃ a b, env = [some (.int n), some gd, a, b, none, none] ∧ S = S' ∧ ∀ (j : Nat) d, j < k → es[j]? = some d → (rowG n d).isNone = false, ⟨_, _, rfl, rfl, fun j d hj => absurd hj (Nat.not_lt_zero _)⟩, fun _ _ _ _ => True.intro, ?_, ?_⟩
  · rintro k _ _ _ hi ⟨a, b, rfl, rfl, hk⟩
    obtain ⟨d, hd, rfl⟩ := enum_get hi
    simp only [x_gTup, x_gCons, x_gNil, x_gName, List.set_cons_zero, List.set_cons_succ]
    refine ⟨rfl, ?_⟩
    walk_at "dl"
    refine ⟨n, d, rfl, hgt.els _ hs d (List.mem_of_getElem? hd), ?_⟩
    simp only [tr_bl]
    cases hr : rowG n d with
    | none =>
      simp only [Option.isSome_none, Bool.not_false, if_true]
      rw [firstN_some (m := 0) hd (by rw [hr]; rfl) hk, Nat.zero_add] at hd2
      rw [hd2] at hh
      exact ⟨rfl, hh S (Fr.refl S)⟩
    | some r =>
      simp only [Option.isSome_some, Bool.not_true, if_ff]
      refine ⟨_, _, rfl, by first | rfl | trivial, fun j y hj hy => ?_⟩
      by_cases hjk : j = k
      · subst hjk
        rw [hd] at hy
        cases hy
        rw [hr]; rfl
      · exact hk j y (by omega) hy
  rintro _ _ ⟨a, b, rfl, rfl, hk⟩
  rw [enum_len] at hk
  have hall : ∀ x ∈ es, (rowG n x).isNone = false := fun x hx => by
    obtain ⟨j, hj, rfl⟩ := List.getElem_of_mem hx
    exact hk j _ hj (List.getElem?_eq_getElem hj)
  rw [firstN_none hall] at hd2
  have hrs : rowsG (.int n) gd = es.map fun d => (rowG n d).getD (0, none, 0) := by unfold rowsG; rw [hlg]; rfl
  generalize rowsG (.int n) gd = rs at hd2 hh hrs
  have hat : ∀ (j : Nat) (d : D), es[j]? = some d → ∃ r, rs[j]? = some r ∧ seqD d = some [.int r.1, optD r.2.1, .int r.2.2] := fun j d hd => by
    have := hall d (List.mem_of_getElem? hd)
    cases hr : rowG n d with
    | none => rw [hr] at this; cases this
    | some r =>
      refine ⟨r, ?_, (rowG_some hr).1⟩
      rw [hrs, List.getElem?_map, hd]
      show some ((rowG n d).getD (0, none, 0)) = some r
      rw [hr]; rfl
  have hrl : rs.length = es.length := by rw [hrs, List.length_map]
  clear hrs
  refine hR _ _ ?_
  refine x_seq fun R hR => ?_
  simp only [x_asg, x_lc]
  rw [x_iSeqV (d := gd) (fun _ => rfl) hs]
  refine ⟨fun i acc S' => (∃ ps : List Int, acc = intL ps ∧ ps.length ≤ i ∧ ∀ v, v ∈ ps ↔ ∃ c, (v, none, c) ∈ rs.take i) ∧ S = S', ⟨⟨[], rfl, by simp, by simp⟩, rfl⟩, fun _ _ _ _ _ _ _ => True.intro, ?_, ?_⟩
  · rintro i d _ _ Dd o hx ⟨⟨ps, rfl, hpl, hps⟩, rfl⟩ hD
    obtain ⟨⟨p, s, c⟩, hr, hsd⟩ := hat i d hx
    have hD2 := hgt.els _ hs d (List.mem_of_getElem? hx)
    have hi : i < es.length := (List.getElem?_eq_some_iff.mp hx).1
    have hq1 : asQ (updS S Dd o) d = some [.int p, optD s, .int c] := (hD2.sq _).trans hsd
    have ew : List.set (wipeD [some (D.int n), some gd, a, b, none, none] [3]) 3 (some d) = [some (.int n), some gd, a, some d, none, none] := rfl
    simp only [x_gName, ew]
    walk_at "dl"
    rw [x_ixQ hq1, at3_1]
    simp only [x_isN, isN_opt]
    cases s with
    | none =>
      simp only [Option.isNone_none, if_true]
      rw [x_ixQ hq1, at3_0]
      refine ⟨by rw [List.length_map, sizeLine_eq]; omega, updS_same, ⟨ps ++ [p], by simp only [intL, List.map_append, List.map_cons, List.map_nil], by rw [List.length_append, List.length_singleton]; omega, fun v => ?_⟩, (delS_upd hD).symm⟩
      rw [take_succ' hr, List.mem_append, List.mem_singleton, hps v]
      constructor
      · rintro (⟨c', h⟩ | rfl)
        · exact ⟨c', List.mem_append.mpr (.inl h)⟩
        · exact ⟨c, List.mem_append.mpr (.inr (List.mem_singleton.mpr rfl))⟩
      · rintro ⟨c', h⟩
        rcases List.mem_append.mp h with h | h
        · exact .inl ⟨c', h⟩
        · rw [List.mem_singleton] at h; cases h; exact .inr rfl
    | some u =>
      simp only [Option.isNone_some, if_ff]
      refine ⟨updS_same, ⟨ps, rfl, by omega, fun v => ?_⟩, (delS_upd hD).symm⟩
      rw [take_succ' hr, hps v]
      constructor
      · rintro ⟨c', h⟩
        exact ⟨c', List.mem_append.mpr (.inl h)⟩
      · rintro ⟨c', h⟩
        rcases List.mem_append.mp h with h | h
        · exact ⟨c', h⟩
        · rw [List.mem_singleton] at h; cases h
  rintro _ _ ⟨⟨ps, rfl, hpl, hps⟩, rfl⟩
  rw [← hrl, List.take_length] at hps
  simp only [x_gName, List.set_cons_zero, List.set_cons_succ]
  refine hR _ _ ?_
  refine x_seq fun R hR => ?_
  walk_at "dl"
  refine ⟨by omega, by omega, fun i env S' => ∃ x, env = [some (.int n), some gd, a, b, some (.lst (intL ps)), x] ∧ S = S' ∧ ∀ v : Nat, v < i → rooted rs v = true, ⟨_, rfl, rfl, fun v hv => absurd hv (Nat.not_lt_zero _)⟩, fun _ _ _ _ => True.intro, ?_, ?_⟩
  · rintro i _ _ _ hi ⟨x, rfl, rfl, hv⟩
    obtain ⟨hlt, rfl⟩ := rng_get hi
    simp only [x_gName, List.set_cons_zero, List.set_cons_succ, Int.zero_add]
    walk_at "dl"
    refine ⟨rfl, flat_ints ps, ?_⟩
    cases hro : rooted rs (i : Int) with
    | true =>
      have hin : (if true = true then !inD (.int (i : Int)) (intL ps) else inD (.int (i : Int)) (intL ps)) = false := by
        rw [if_pos rfl, in_ints, decide_eq_true ((hps _).mpr (rooted_mem.mp hro))]; rfl
      rw [hin]
      simp only [if_ff]
      refine ⟨_, rfl, by first | rfl | trivial, fun v hv' => ?_⟩
      by_cases hvi : v = i
      · subst hvi; exact hro
      · exact hv v (by omega)
    | false =>
      have hin : (if true = true then !inD (.int (i : Int)) (intL ps) else inD (.int (i : Int)) (intL ps)) = true := by
        rw [if_pos rfl, in_ints, decide_eq_false fun z => by
          have := rooted_mem.mpr ((hps _).mp z)
          rw [hro] at this; cases this]; rfl
      rw [hin]
      simp only [if_true]
      have hf : firstN (fun v : Nat => !rooted rs v) 0 (List.range n.toNat) = some (0 + i) := firstN_some (x := i) (by rw [List.getElem?_range (by omega)]) (by show (!rooted rs (i : Int)) = true; rw [hro]; rfl) fun j y hj hy => by
        rw [List.getElem?_range (by omega)] at hy
        cases hy
        rw [hv j hj]; rfl
      rw [hf, Nat.zero_add] at hd2
      rw [hd2] at hh
      exact ⟨rfl, hh S (Fr.refl S)⟩
  rintro _ _ ⟨x, rfl, rfl, hv⟩
  rw [rng_len] at hv
  have hd3 : dueD (.int n) gd = none := by
    rw [hd2]
    show (match firstN (fun v : Nat => !rooted rs v) 0 (List.range n.toNat) with
      | some k => some (("root" : Str), (k : Int))
      | none => none) = none
    rw [firstN_none fun v hv' => by rw [hv v (List.mem_range.mp hv')]; rfl]
  rw [hd3] at hh
  refine hR _ _ ?_
  simp only [x_ret, x_CB, x_cons, x_nil, x_lc]
  rw [x_iSeqV (d := gd) (fun _ => rfl) hs]
  refine ⟨fun i acc S' => acc = (rowsD rs).take i ∧ S = S', ⟨rfl, rfl⟩, fun _ _ _ _ _ _ _ => True.intro, ?_, ?_⟩
  · rintro i d _ _ Dd o hy ⟨rfl, rfl⟩ hD
    obtain ⟨r, hr, hsd⟩ := hat i d hy
    have hD2 := hgt.els _ hs d (List.mem_of_getElem? hy)
    have hq1 : asQ (updS S Dd o) d = some [.int r.1, optD r.2.1, .int r.2.2] := (hD2.sq _).trans hsd
    have ew : List.set (wipeD [some (D.int n), some gd, a, b, some (.lst (intL ps)), x] [3]) 3 (some d) = [some (.int n), some gd, a, some d, some (.lst (intL ps)), x] := rfl
    simp only [x_gName, x_yes, if_true, ew]
    walk_at "dl"
    rw [x_tupOf hq1]
    refine ⟨?_, updS_same, ?_, (delS_upd hD).symm⟩
    · rw [List.length_take, rows_len, sizeLine_eq]; omega
    · refine (take_succ' ?_).symm
      rw [List.getElem?_map, hr]; rfl
  rintro _ _ ⟨rfl, rfl⟩
  have : ((rowsD rs).take es.length) = rowsD rs := by rw [← hrl, ← rows_len, List.take_length]
  rw [this]
  exact hh
end DL
end

section
set_option Elab.async false
set_option linter.all false
set_option maxRecDepth 100000
set_option maxHeartbeats 400000
namespace DL
open PySem PySem.Spec PyProof.Rows L2
local macro_rules | `(tactic| walk_at "dl") => `(tactic| simp only [x_C, x_V0, x_V, x_op, x_I, x_I0, x_addI, x_addT, x_B, x_And, x_Or, x_Not, x_Tru, x_AndT, x_OrT, x_NotT, x_If, x_nil, x_cons, x_Tup, x_Lst, x_LstM, x_CB, x_Chain, x_UnI, x_int, x_abs, x_lenT, x_lenL, x_listOfT, x_listOfL, x_tupOfT, x_tupOfL, x_call, x_make, x_BM, x_NoPart, x_Part, x_Sl, x_gName, x_gNil, x_gCons, x_gTup, x_next, x_brk, x_cont, x_drop, x_ret, x_retG, x_ifS, x_asg, x_raise, x_isiT, List.set_cons_zero, List.set_cons_succ, List.append_nil, x_for, x_while, x_iSeq, as_lst, as_tup, x_iRng1, x_iRng2, x_iEnum, x_lc, x_lcM, x_yes, x_Rg1, x_Rg2, x_ixT, x_ixL, x_eqI, x_neI, tr_bl, tr_int, x_gSub])
theorem dat_Least__init (K : PySem.W.Frag) (g : Str → Addr) : ∀ ds S Q E, F_Least__init K g ds S Q E → rd_Least__init K g (cE E) (endB Q) (startD N_Least__init ds) S := fun ds S Q E h => by
  obtain ⟨x, nu, rho, rfl, hx, hq⟩ := h
  have e0 : startD N_Least__init [.raw x, nu, rho] = [some (.raw x), some nu, some rho] := rfl
  rw [e0]
  unfold rd_Least__init
  refine x_seq fun R hR => ?_
  rw [x_FldS]
  walk_at "dl"
  simp only [hx]
  refine ⟨trivial, by first | decide | simp, hR _ _ ?_⟩
  rw [x_FldS]
  walk_at "dl"
  simp only [updS_same, updS_upd]
  refine ⟨trivial, ?_, hq⟩
  first | exact Nat.lt_of_le_of_lt (Nat.le_refl _) (by decide : (1 : Nat) < 1000) | exact Nat.lt_of_le_of_lt (Nat.le_refl _) (by decide : (0 : Nat) < 1000)
theorem dat_DemandRing__init (K : PySem.W.Frag) (g : Str → Addr) : ∀ ds S Q E, F_DemandRing__init K g ds S Q E → rd_DemandRing__init K g (cE E) (endB Q) (startD N_DemandRing__init ds) S := fun ds S Q E h => by
  obtain ⟨x, is, rfl, hx, hq⟩ := h
  have e0 : startD N_DemandRing__init [.raw x, is] = [some (.raw x), some is] := rfl
  rw [e0]
  unfold rd_DemandRing__init
  rw [x_FldS]
  walk_at "dl"
  simp only [hx]
  refine ⟨trivial, ?_, hq⟩
  first | exact Nat.lt_of_le_of_lt (Nat.le_refl _) (by decide : (1 : Nat) < 1000) | exact Nat.lt_of_le_of_lt (Nat.le_refl _) (by decide : (0 : Nat) < 1000)
/-- while the greatest roots are sought -/
structure GInv (n : Nat) (rs done : List Row) (fs : List (Option Int)) : Prop where
  len : fs.length = n
  som : ∀ (v : Nat) (i : Int), fs[v]? = some (some i) → 0 ≤ i ∧ i < rs.length ∧ ∃ b, rs[i.toNat]? = some ((v : Int), none, b) ∧ ∀ c, ((v : Int), none, c) ∈ done → c ≤ b
  non : ∀ v : Nat, fs[v]? = some none → ∀ c, ((v : Int), (none : Option Int), c) ∉ done
theorem GInv.skip {n k : Nat} {rs : List Row} {fs : List (Option Int)} {r : Row} (h : GInv n rs (rs.take k) fs) (hr : rs[k]? = some r)
    (hn : r.2.1 = none → ∃ i b, fs[r.1.toNat]? = some (some i) ∧ rs[i.toNat]? = some (r.1, none, b) ∧ r.2.2 ≤ b) : GInv n rs (rs.take (k + 1)) fs := by
  refine ⟨h.len, fun v i hi => ?_, fun v hv c hc => ?_⟩
  · obtain ⟨a1, a2, b, a3, a4⟩ := h.som v i hi
    refine ⟨a1, a2, b, a3, fun c hc => ?_⟩
    rw [take_succ' hr, List.mem_append, List.mem_singleton] at hc
    rcases hc with hc | hc
    · exact a4 c hc
    · subst hc
      obtain ⟨i', b', e1, e2, e3⟩ := hn rfl
      simp only [Int.toNat_natCast] at e1
      rw [hi] at e1
      cases e1
      rw [a3] at e2
      cases e2
      exact e3
  · rw [take_succ' hr, List.mem_append, List.mem_singleton] at hc
    rcases hc with hc | hc
    · exact h.non v hv c hc
    · subst hc
      obtain ⟨i', b', e1, _, _⟩ := hn rfl
      simp only [Int.toNat_natCast] at e1
      rw [hv] at e1
      cases e1
theorem GInv.put {n k : Nat} {rs : List Row} {fs : List (Option Int)} {v : Nat} {c : Int} (h : GInv n rs (rs.take k) fs) (hr : rs[k]? = some ((v : Int), none, c)) (hv : v < n)
    (hb : ∀ i b, fs[v]? = some (some i) → rs[i.toNat]? = some ((v : Int), none, b) → b ≤ c) : GInv n rs (rs.take (k + 1)) (fs.set v (some (k : Int))) := by
  have hk : k < rs.length := (List.getElem?_eq_some_iff.mp hr).1
  have hvl : v < fs.length := by rw [h.len]; exact hv
  refine ⟨by rw [List.length_set, h.len], fun u i hi => ?_, fun u hu d hd => ?_⟩
  · by_cases huv : v = u
    · subst huv
      rw [List.getElem?_set_self hvl] at hi
      cases hi
      refine ⟨by omega, by omega, c, by rw [Int.toNat_natCast]; exact hr, fun d hd => ?_⟩
      rw [take_succ' hr, List.mem_append, List.mem_singleton] at hd
      rcases hd with hd | hd
      · cases e : fs[v]? with
        | none => rw [List.getElem?_eq_none_iff] at e; omega
        | some o =>
          cases o with
          | none => exact absurd hd (h.non v e d)
          | some i =>
            obtain ⟨_, _, b, a3, a4⟩ := h.som v i e
            exact Int.le_trans (a4 d hd) (hb i b e a3)
      · cases hd; exact Int.le_refl _
    · rw [List.getElem?_set_ne huv] at hi
      obtain ⟨a1, a2, b, a3, a4⟩ := h.som u i hi
      refine ⟨a1, a2, b, a3, fun d hd => ?_⟩
      rw [take_succ' hr, List.mem_append, List.mem_singleton] at hd
      rcases hd with hd | hd
      · exact a4 d hd
      · have : (u : Int) = v := by cases hd; rfl
        omega
  · by_cases huv : v = u
    · subst huv
      rw [List.getElem?_set_self hvl] at hu
      cases hu
    · rw [List.getElem?_set_ne huv] at hu
      rw [take_succ' hr, List.mem_append, List.mem_singleton] at hd
      rcases hd with hd | hd
      · exact h.non u hu d hd
      · have : (u : Int) = v := by cases hd; rfl
        omega
end DL
end

section
set_option Elab.async false
set_option linter.all false
set_option maxRecDepth 100000
set_option maxHeartbeats 400000
namespace DL
open PySem PySem.Spec PyProof.Rows L2
local macro_rules | `(tactic| walk_at "dl") => `(tactic| simp only [x_C, x_V0, x_V, x_op, x_I, x_I0, x_addI, x_addT, x_B, x_And, x_Or, x_Not, x_Tru, x_AndT, x_OrT, x_NotT, x_If, x_nil, x_cons, x_Tup, x_Lst, x_LstM, x_CB, x_Chain, x_UnI, x_int, x_abs, x_lenT, x_lenL, x_listOfT, x_listOfL, x_tupOfT, x_tupOfL, x_call, x_make, x_BM, x_NoPart, x_Part, x_Sl, x_gName, x_gNil, x_gCons, x_gTup, x_next, x_brk, x_cont, x_drop, x_ret, x_retG, x_ifS, x_asg, x_raise, x_isiT, List.set_cons_zero, List.set_cons_succ, List.append_nil, x_for, x_while, x_iSeq, as_lst, as_tup, x_iRng1, x_iRng2, x_iEnum, x_lc, x_lcM, x_yes, x_Rg1, x_Rg2, x_ixT, x_ixL, x_eqI, x_neI, tr_bl, tr_int, x_gSub])
theorem opt_get {fs : List (Option Int)} {v : Int} (h0 : 0 ≤ v) (h1 : v < fs.length) : ∃ o, fs[v.toNat]? = some o ∧ atI (fs.map optD) v = some (optD o) := by
  have h : v.toNat < fs.length := by omega
  exact ⟨fs[v.toNat], List.getElem?_eq_getElem h, by rw [atI_ok h0 (by rw [List.length_map]; exact h1), List.getElem?_map, List.getElem?_eq_getElem h]; rfl⟩
theorem rep_non (n : Nat) : (List.replicate n [D.non]).flatten = (List.replicate n (none : Option Int)).map optD := by
  induction n with
  | zero => rfl
  | succ n ih => rw [List.replicate_succ, List.flatten_cons, ih, List.replicate_succ, List.map_cons]; rfl
theorem all_some : ∀ (fs : List (Option Int)), (∀ v : Nat, v < fs.length → fs[v]? ≠ some none) → ∃ is : List Int, fs = is.map some
  | [], _ => ⟨[], rfl⟩
  | none :: fs, h => absurd rfl (h 0 (by simp))
  | some i :: fs, h => by
    obtain ⟨is, e⟩ := all_some fs fun v hv => by
      have := h (v + 1) (by simp; exact hv)
      simpa using this
    exact ⟨i :: is, by rw [e]; rfl⟩
theorem dat_greatest_roots (K : PySem.W.Frag) (g : Str → Addr) : ∀ ds S Q E, F_greatest_roots K g ds S Q E → rd_greatest_roots K g (cE E) (endB Q) (startD N_greatest_roots ds) S := fun ds S Q E h => by
  obtain ⟨n, rs, rfl, hV, hq⟩ := h
  have e0 : startD N_greatest_roots [.int n, .tup (rowsD rs)] = [some (.int n), some (.tup (rowsD rs)), none, none, none, none] := rfl
  rw [e0]
  have n0 := hV.n0
  have n1 := hV.n1
  obtain ⟨m, rfl⟩ : ∃ m : Nat, n = m := ⟨n.toNat, by omega⟩
  unfold rd_greatest_roots
  refine x_seq fun R hR => ?_
  walk_at "dl"
  simp only [rRepLM', asl_lst, Int.toNat_natCast]
  refine ⟨by rw [sizeLine_eq]; simp, by omega, by omega, by rw [sizeLine_eq]; simp; omega, fun a ha => hR _ _ ?_⟩
  rw [rep_non]
  refine x_seq fun R hR => ?_
  walk_at "dl"
  refine ⟨fun i env S' => ∃ (fs : List (Option Int)) (x y z : Option D), env = [some (.int (m : Int)), some (.tup (rowsD rs)), some (.raw a), x, y, z] ∧ updS S a (.lst (fs.map optD)) = S' ∧ GInv m rs (rs.take i) fs, ⟨List.replicate m none, none, none, none, rfl, rfl, ⟨List.length_replicate, fun v i hv => ?_, fun v _ c hc => by simp at hc⟩⟩, fun _ _ _ _ => True.intro, ?_, ?_⟩
  · have := List.mem_of_getElem? hv
    have := List.eq_of_mem_replicate this
    cases this
  · rintro k _ _ _ hi ⟨fs, x, y, z, rfl, rfl, hI⟩
    obtain ⟨_, hd, rfl⟩ := enum_get hi
    obtain ⟨⟨p, s, c⟩, hr, rfl⟩ := row_at hd
    have hVr := hV.row _ (List.mem_of_getElem? hr)
    have p0 := hVr.p0
    have p1 := hVr.p1
    simp only at p0 p1
    have hpl : p < fs.length := by rw [hI.len]; exact p1
    obtain ⟨o, ho, hat⟩ := opt_get p0 hpl
    simp only [x_gTup, x_gCons, x_gNil, x_gName, List.set_cons_zero, List.set_cons_succ]
    refine ⟨rfl, ?_⟩
    refine x_seq fun R2 hR2 => ?_
    have er : rowDt (p, s, c) = .tup [.int p, optD s, .int c] := rfl
    rw [er]
    walk_at "dl"
    simp only [at3_0]
    refine hR2 _ _ ?_
    walk_at "dl"
    simp only [at3_1, at3_2, x_isN, isN_opt, x_ixT]
    have put : ∀ (hb : ∀ i b, fs[p.toNat]? = some (some i) → rs[i.toNat]? = some (p, none, b) → b ≤ c), s = none →
        ∃ (fs2 : List (Option Int)) (x y z : Option D), [some (D.int (m : Int)), some (.tup (rowsD rs)), some (.raw a), some (.int (k : Nat)), some (.tup [.int p, optD s, .int c]), some (.int p)] = [some (.int (m : Int)), some (.tup (rowsD rs)), some (.raw a), x, y, z] ∧ updS S a (.lst (fs2.map optD)) = updS S a (.lst ((fs.map optD).set p.toNat (.int (k : Nat)))) ∧ GInv m rs (rs.take (k + 1)) fs2 := fun hb hs => by
      subst hs
      obtain ⟨v, rfl⟩ : ∃ v : Nat, p = v := ⟨p.toNat, by omega⟩
      refine ⟨fs.set v (some (k : Int)), _, _, _, rfl, ?_, hI.put hr (by omega) (by simpa using hb)⟩
      rw [List.map_set, Int.toNat_natCast]; rfl
    have skip : ∀ (hn : s = none → ∃ i b, fs[p.toNat]? = some (some i) ∧ rs[i.toNat]? = some (p, none, b) ∧ c ≤ b),
        ∃ (fs2 : List (Option Int)) (x y z : Option D), [some (D.int (m : Int)), some (.tup (rowsD rs)), some (.raw a), some (.int (k : Nat)), some (.tup [.int p, optD s, .int c]), some (.int p)] = [some (.int (m : Int)), some (.tup (rowsD rs)), some (.raw a), x, y, z] ∧ updS S a (.lst (fs2.map optD)) = updS S a (.lst (fs.map optD)) ∧ GInv m rs (rs.take (k + 1)) fs2 := fun hn => ⟨fs, _, _, _, rfl, rfl, hI.skip hr hn⟩
    have ix : ixN (fs.map optD).length p = some p.toNat := by unfold ixN; rw [if_pos p0, if_pos (by rw [List.length_map]; exact hpl)]
    cases s with
    | some u =>
      simp only [Option.isNone_some, if_ff]
      exact skip (fun z => by cases z)
    | none =>
      simp only [Option.isNone_none, if_true, x_ixQ as_upd, hat, x_isN, isN_opt]
      cases o with
      | none =>
        simp only [Option.isNone_none, if_true, own_upd, ix, updS_upd]
        exact put (fun i b e => by rw [ho] at e; cases e) rfl
      | some i =>
        obtain ⟨i0, i1, b, hb, hmax⟩ := hI.som p.toNat i ho
        have ri : atI (rowsD rs) i = some (rowDt (p, none, b)) := by
          rw [atI_ok i0 (by rw [rows_len]; exact i1), List.getElem?_map, hb, show ((p.toNat : Nat) : Int) = p by omega]; rfl
        have er2 : rowDt (p, none, b) = .tup [.int p, .non, .int b] := rfl
        simp only [Option.isNone_some, if_ff, optD, ri, er2, x_ixT, at3_2, x_I0, x_ixQ as_upd, hat]
        split
        · rename_i hlt
          have hlt := of_decide_eq_true hlt
          simp only [own_upd, ix, updS_upd]
          exact put (fun i' b' e1 e2 => by
            rw [ho] at e1; cases e1
            have e3 : ((p.toNat : Nat) : Int) = p := by omega
            rw [hb, e3] at e2; cases e2
            omega) rfl
        · rename_i hlt
          have hlt : ¬ b < c := fun z => hlt (decide_eq_true z)
          have e3 : ((p.toNat : Nat) : Int) = p := by omega
          exact skip (fun _ => ⟨i, b, ho, by rw [hb, e3], by omega⟩)
  · rintro _ _ ⟨fs, x, y, z, rfl, rfl, hI⟩
    rw [enum_len, rows_len, List.take_length] at hI
    have hne : ∀ v : Nat, v < fs.length → fs[v]? ≠ some none := fun v hv e => by
      obtain ⟨c, hc⟩ := hV.root (v : Int) (by omega) (by have := hI.len; omega)
      exact hI.non v e c hc
    obtain ⟨is, rfl⟩ := all_some fs hne
    have hil : is.length = m := by have := hI.len; rwa [List.length_map] at this
    refine hR _ _ ?_
    walk_at "dl"
    have em : (is.map some).map optD = intL is := by rw [List.map_map]; rfl
    rw [em]
    refine hq a is ha ⟨by omega, fun v v0 v1 => ?_⟩
    have hv : v.toNat < is.length := by omega
    have hg : (is.map some)[v.toNat]? = some (some (numAt is v)) := by
      rw [List.getElem?_map, List.getElem?_eq_getElem hv]
      unfold numAt
      rw [List.getD_eq_getElem?_getD, List.getElem?_eq_getElem hv]
      rfl
    obtain ⟨i0, i1, b, hb, hmax⟩ := hI.som v.toNat _ hg
    have ev : ((v.toNat : Nat) : Int) = v := by omega
    rw [ev] at hb hmax
    exact ⟨i0, i1, b, hb, hmax⟩
end DL
end

section
set_option Elab.async false
set_option linter.all false
set_option maxRecDepth 100000
set_option maxHeartbeats 400000
namespace DL
open PySem PySem.Spec PyProof.Rows L2
local macro_rules | `(tactic| walk_at "dl") => `(tactic| simp only [x_C, x_V0, x_V, x_op, x_I, x_I0, x_addI, x_addT, x_B, x_And, x_Or, x_Not, x_Tru, x_AndT, x_OrT, x_NotT, x_If, x_nil, x_cons, x_Tup, x_Lst, x_LstM, x_CB, x_Chain, x_UnI, x_int, x_abs, x_lenT, x_lenL, x_listOfT, x_listOfL, x_tupOfT, x_tupOfL, x_call, x_make, x_BM, x_NoPart, x_Part, x_Sl, x_gName, x_gNil, x_gCons, x_gTup, x_next, x_brk, x_cont, x_drop, x_ret, x_retG, x_ifS, x_asg, x_raise, x_isiT, List.set_cons_zero, List.set_cons_succ, List.append_nil, x_for, x_while, x_iSeq, as_lst, as_tup, x_iRng1, x_iRng2, x_iEnum, x_lc, x_lcM, x_yes, x_Rg1, x_Rg2, x_ixT, x_ixL, x_eqI, x_neI, tr_bl, tr_int, x_gSub])
theorem ring_step {n : Int} {rs : List Row} {rho : List Int} (hV : VSys n rs) (hl : (rho.length : Int) = n) (hr : ∀ u : Int, 0 ≤ u → u < n → 0 ≤ numAt rho u ∧ numAt rho u < rs.length) {v w : Int} (hne : ∀ k, itn (nxt (rhoR rs rho)) k v ≠ none) {k : Nat} (hw : itn (nxt (rhoR rs rho)) k v = some w) (w0 : 0 ≤ w) (w1 : w < n) :
    ∃ p u c, atI (intL rho) w = some (.int (numAt rho w)) ∧ atI (rowsD rs) (numAt rho w) = some (.tup [.int p, .int u, .int c]) ∧ itn (nxt (rhoR rs rho)) (k + 1) v = some u ∧ 0 ≤ u ∧ u < n := by
  obtain ⟨i0, i1⟩ := hr w w0 w1
  have hi : (numAt rho w).toNat < rs.length := by omega
  have hrow : rhoR rs rho w = rs[(numAt rho w).toNat] := by unfold rhoR; rw [List.getD_eq_getElem?_getD, List.getElem?_eq_getElem hi]; rfl
  have hmem : rs[(numAt rho w).toNat] ∈ rs := List.getElem_mem hi
  have hat : atI (rowsD rs) (numAt rho w) = some (rowDt rs[(numAt rho w).toNat]) := by
    rw [atI_ok i0 (by rw [rows_len]; exact i1), List.getElem?_map, List.getElem?_eq_getElem hi]; rfl
  have hn : itn (nxt (rhoR rs rho)) (k + 1) v = (rhoR rs rho w).2.1 := by
    show (itn (nxt (rhoR rs rho)) k v).bind _ = _
    rw [hw]; rfl
  rw [hrow] at hn
  have hk := hne (k + 1)
  rw [hn] at hk
  obtain ⟨r, hrr⟩ : ∃ r, rs[(numAt rho w).toNat] = r := ⟨_, rfl⟩
  rw [hrr] at hmem hat hn hk
  obtain ⟨p, s, c⟩ := r
  cases s with
  | none => exact absurd rfl hk
  | some u =>
    obtain ⟨u0, u1⟩ := (hV.row _ hmem).s u rfl
    exact ⟨p, u, c, num_at w0 (by omega), hat, hn, u0, u1⟩
theorem dat_ring_behind (K : PySem.W.Frag) (g : Str → Addr) : ∀ ds S Q E, F_ring_behind K g ds S Q E → rd_ring_behind K g (cE E) (endB Q) (startD N_ring_behind ds) S := fun ds S Q E h => by
  obtain ⟨n, rs, a, rho, v, rfl, hV, hA, hl, v0, v1, hr, hne, hq⟩ := h
  have e0 : startD N_ring_behind [.int n, .tup (rowsD rs), .raw a, .int v] = [some (.int n), some (.tup (rowsD rs)), some (.raw a), some (.int v), none, none, none, none] := rfl
  rw [e0]
  have n0 := hV.n0
  have n1 := hV.n1
  unfold rd_ring_behind
  refine x_seq fun R hR => ?_
  walk_at "dl"
  refine hR _ _ ?_
  refine x_seq fun R hR => ?_
  walk_at "dl"
  refine ⟨by omega, by omega, fun i env S' => ∃ (w : Int) (x : Option D), env = [some (.int n), some (.tup (rowsD rs)), some (.raw a), some (.int v), some (.int w), x, none, none] ∧ S = S' ∧ itn (nxt (rhoR rs rho)) i v = some w ∧ 0 ≤ w ∧ w < n, ⟨v, _, rfl, rfl, rfl, v0, v1⟩, fun _ _ _ _ => True.intro, ?_, ?_⟩
  · rintro i _ _ _ hi ⟨w, x, rfl, rfl, hw, w0, w1⟩
    obtain ⟨p, u, c, e1, e2, e3, u0, u1⟩ := ring_step hV hl hr hne hw w0 w1
    simp only [x_gName, List.set_cons_zero, List.set_cons_succ]
    walk_at "dl"
    simp only [x_ixQ (as_raw hA), e1, x_ixT, e2, at3_1]
    exact ⟨u, _, rfl, by first | rfl | trivial, e3, u0, u1⟩
  rintro _ _ ⟨w, x, rfl, rfl, hw, w0, w1⟩
  refine hR _ _ ?_
  refine x_seq fun R hR => ?_
  walk_at "dl"
  refine hR _ _ ?_
  refine x_seq fun R hR => ?_
  walk_at "dl"
  refine ⟨by rw [sizeLine_eq]; simp, fun b hb => hR _ _ ?_⟩
  have hab : a ≠ b := neS hA hb
  refine x_seq fun R hR => ?_
  rw [rng_len] at hw
  obtain ⟨m, rfl⟩ : ∃ m : Nat, n = m := ⟨n.toNat, by omega⟩
  rw [Int.toNat_natCast] at hw
  have hcl : ∀ x u : Int, 0 ≤ x → x < m → nxt (rhoR rs rho) x = some u → 0 ≤ u ∧ u < m := fun x u x0 x1 hu => by
    obtain ⟨i0, i1⟩ := hr x x0 x1
    have hi : (numAt rho x).toNat < rs.length := by omega
    have hrow : rhoR rs rho x = rs[(numAt rho x).toNat] := by unfold rhoR; rw [List.getD_eq_getElem?_getD, List.getElem?_eq_getElem hi]; rfl
    unfold nxt at hu
    rw [hrow] at hu
    exact (hV.row _ (List.getElem_mem hi)).s u hu
  have hne0 : ∀ k, itn (nxt (rhoR rs rho)) k w ≠ none := fun k z => by
    have := hne (m + k)
    rw [itn_add, hw] at this
    exact this z
  obtain ⟨ws, hws⟩ : ∃ ws : Nat → Int, ∀ i, itn (nxt (rhoR rs rho)) i w = some (ws i) := ⟨fun i => (itn (nxt (rhoR rs rho)) i w).getD 0, fun i => by
    cases hc : itn (nxt (rhoR rs rho)) i w with
    | none => exact absurd hc (hne0 i)
    | some u => show some u = some ((itn (nxt (rhoR rs rho)) i w).getD 0); rw [hc]; rfl⟩
  have hw00 : ws 0 = w := (Option.some.inj (hws 0)).symm
  have hin : ∀ i, 0 ≤ ws i ∧ ws i < m := fun i => itn_in (n := m) hcl w0 w1 i _ (hws i)
  have fin : ∀ (d : Nat) (y z : Option D) S', 1 ≤ d → d ≤ 60 → ws d = w → Fr S S' → S' b = some (.lst (intL ((List.range d).map fun i => numAt rho (ws i)))) → R [some (.int (m : Int)), some (.tup (rowsD rs)), some (.raw a), some (.int v), y, z, some (.int w), some (.raw b)] S' := fun d y z S' h1 h2 hd hF hB => hR _ _ (by
    simp only [x_retG, dTupRev, x_V, x_V0, asl_raw hB]
    refine ⟨_, S, GhR.weak hF, ?_⟩
    have e : ∀ is : List Int, (intL is).reverse = intL is.reverse := fun is => by simp only [intL, List.map_reverse]
    rw [e]
    exact hq ws d h1 h2 (fun i hi => ⟨by rw [hw00]; exact hws i, hin i⟩) (by rw [hd, hw00]))
  walk_at "dl"
  refine ⟨by omega, by omega, fun i env S' => ∃ (y : Option D), env = [some (.int (m : Int)), some (.tup (rowsD rs)), some (.raw a), some (.int v), some (.int (ws i)), y, some (.int w), some (.raw b)] ∧ Fr S S' ∧ S' b = some (.lst (intL ((List.range i).map fun i => numAt rho (ws i)))) ∧ ∀ j, 1 ≤ j → j ≤ i → ws j ≠ w,
    ⟨_, by rw [hw00], (Fr.refl S).upd hb, updS_same, fun j h1 h2 => by omega⟩, fun _ _ _ _ => True.intro, ?_, ?_⟩
  · rintro i _ _ S' hi ⟨y, rfl, hF, hB, hno⟩
    obtain ⟨hlt, rfl⟩ := rng_get hi
    obtain ⟨t0, t1⟩ := hin i
    obtain ⟨p, u, c, e1, e2, e3, u0, u1⟩ := ring_step hV hl hr hne0 (hws i) t0 t1
    have hu : ws (i + 1) = u := Option.some.inj ((hws (i + 1)).symm.trans e3)
    have hA' := hF a _ hA
    simp only [x_gName, List.set_cons_zero, List.set_cons_succ]
    refine x_seq fun R2 hR2 => ?_
    walk_at "dl"
    simp only [asl_raw hB, Option.isSome_some, true_and, x_ixQ (as_raw hA'), e1, x_append (own_raw hB)]
    refine ⟨by rw [List.length_map, List.length_map, List.length_range, sizeLine_eq]; omega, hR2 _ _ ?_⟩
    have eis : intL ((List.range i).map fun i => numAt rho (ws i)) ++ [D.int (numAt rho (ws i))] = intL ((List.range (i + 1)).map fun i => numAt rho (ws i)) := by
      rw [List.range_succ, List.map_append]
      simp only [intL, List.map_append, List.map_cons, List.map_nil]
    rw [eis]
    have hF2 : Fr S (updS S' b (.lst (intL ((List.range (i + 1)).map fun i => numAt rho (ws i))))) := hF.upd hb
    have hB2 : updS S' b (.lst (intL ((List.range (i + 1)).map fun i => numAt rho (ws i)))) b = some (.lst (intL ((List.range (i + 1)).map fun i => numAt rho (ws i)))) := updS_same
    generalize updS S' b (.lst (intL ((List.range (i + 1)).map fun i => numAt rho (ws i)))) = S2 at hF2 hB2
    have hA2 := hF2 a _ hA
    refine x_seq fun R3 hR3 => ?_
    walk_at "dl"
    simp only [x_ixQ (as_raw hA2), e1, x_ixT, e2, at3_1]
    refine hR3 _ _ ?_
    walk_at "dl"
    split
    · rename_i heq
      have heq : u = w := by simpa using heq
      exact fin (i + 1) _ _ S2 (by omega) (by omega) (hu.trans heq) hF2 hB2
    · rename_i heq
      have heq : ¬ u = w := by simpa using heq
      refine ⟨_, by rw [hu], hF2, hB2, fun j h1 h2 => ?_⟩
      by_cases hj : j = i + 1
      · subst hj; rw [hu]; exact heq
      · exact hno j h1 (by omega)
  · rintro _ S' ⟨y, rfl, hF, hB, hno⟩
    rw [rng_len, Int.toNat_natCast] at hno
    obtain ⟨d, d1, d2, hd⟩ := itn_back (n := m) hcl v0 v1 hne hw
    exact absurd (Option.some.inj ((hws d).symm.trans hd)) (hno d d1 d2)
end DL
end

section
set_option Elab.async false
set_option linter.all false
set_option maxRecDepth 100000
set_option maxHeartbeats 400000
namespace DL
open PySem PySem.Spec PyProof.Rows L2
local macro_rules | `(tactic| walk_at "dl") => `(tactic| simp only [x_C, x_V0, x_V, x_op, x_I, x_I0, x_addI, x_addT, x_B, x_And, x_Or, x_Not, x_Tru, x_AndT, x_OrT, x_NotT, x_If, x_nil, x_cons, x_Tup, x_Lst, x_LstM, x_CB, x_Chain, x_UnI, x_int, x_abs, x_lenT, x_lenL, x_listOfT, x_listOfL, x_tupOfT, x_tupOfL, x_call, x_make, x_BM, x_NoPart, x_Part, x_Sl, x_gName, x_gNil, x_gCons, x_gTup, x_next, x_brk, x_cont, x_drop, x_ret, x_retG, x_ifS, x_asg, x_raise, x_isiT, List.set_cons_zero, List.set_cons_succ, List.append_nil, x_for, x_while, x_iSeq, as_lst, as_tup, x_iRng1, x_iRng2, x_iEnum, x_lc, x_lcM, x_yes, x_Rg1, x_Rg2, x_ixT, x_ixL, x_eqI, x_neI, tr_bl, tr_int, x_gSub])
theorem fa_asked {K : PySem.W.Frag} {g : Str → Addr} {d : D} {nu : List Int} {r : Row} {S : Sto} {Q : DV} {E : DX} (h : asQ S d = some (intL nu)) (hs : ∀ u, r.2.1 = some u → 0 ≤ u ∧ u < nu.length) (q : Q (.int (askR (numAt nu) r)) S) : F_asked_number K g [d, rowDt r] S Q E := ⟨d, nu, r, rfl, h, hs, q⟩
theorem set_ints {xs : List Int} {i : Nat} {a : Int} : (intL xs).set i (.int a) = intL (xs.set i a) := by simp only [intL, List.map_set]
theorem ix_at {xs : List Int} {v : Int} (h0 : 0 ≤ v) (h1 : v < xs.length) : ixN (intL xs).length v = some v.toNat := by
  unfold ixN
  rw [if_pos h0, if_pos (by rw [List.length_map]; exact h1)]
theorem row_ix {rs : List Row} {i : Int} (h0 : 0 ≤ i) (h1 : i < rs.length) : atI (rowsD rs) i = some (rowDt (rowAt rs i)) ∧ rowAt rs i ∈ rs ∧ rs[i.toNat]? = some (rowAt rs i) := by
  have hi : i.toNat < rs.length := by omega
  have e : rowAt rs i = rs[i.toNat] := by unfold rowAt; rw [List.getD_eq_getElem?_getD, List.getElem?_eq_getElem hi]; rfl
  refine ⟨?_, ?_, ?_⟩
  · rw [atI_ok h0 (by rw [rows_len]; exact h1), List.getElem?_map, List.getElem?_eq_getElem hi, e]; rfl
  · rw [e]; exact List.getElem_mem hi
  · rw [e]; exact List.getElem?_eq_getElem hi
theorem isI_ty {S : Sto} {e : D} {a : Ty} (h : tyD S e = some a) : isI e = (subT a .int && !subT a .bool) := by
  cases e with
  | raw x =>
    have h : (match S x with
      | some (.lst _) => some Ty.list
      | some (.dk _) => some Ty.dict
      | _ => none) = some a := h
    split at h <;> cases h <;> rfl
  | ty n => cases h
  | ins C fs => cases h
  | _ => cases h; rfl
theorem nrow_tup {m : Int} {es : List D} : nrowD m (.tup es) = (decide ((es.length : Int) = m) && es.all isI) := rfl
theorem x_allB {S : Sto} {Q : DV} {bs : List Bool} : rAll' [.lst (bs.map D.bl)] S Q = Q (.bl (bs.all id)) S := by
  unfold rAll'
  simp only [asl_lst, Option.bind_some, blsOf_bls]
theorem take_one {α : Type} {xs : List α} {i : Nat} {x : α} (h : xs[i]? = some x) : xs.take (i + 1) = xs.take i ++ [x] := by
  rw [List.take_succ, h]; rfl
theorem get_lt {α : Type} {xs : List α} {i : Nat} {x : α} (h : xs[i]? = some x) : i < xs.length := by
  rcases Nat.lt_or_ge i xs.length with q | q
  · exact q
  · rw [List.getElem?_eq_none q] at h; cases h
theorem dat_is_number_row (K : PySem.W.Frag) (g : Str → Addr) : ∀ ds S Q E, F_is_number_row K g ds S Q E → rd_is_number_row K g (cE E) (endB Q) (startD N_is_number_row ds) S := fun ds S Q E h => by
  obtain ⟨d, m, rfl, hd, hq⟩ := h
  have e0 : startD N_is_number_row [d, .int m] = [some d, some (.int m), none] := rfl
  rw [e0]
  unfold rd_is_number_row
  refine x_seq fun R hR => ?_
  rcases hd with ⟨es, rfl⟩ | ⟨es, rfl, hlen, hes⟩
  · walk_at "dl"
    rw [x_isi (a := .list) rfl]
    refine ⟨by decide, ?_⟩
    simp only [show subT .list .tuple = false from rfl, tr_bl, Bool.not_false, if_true]
    exact hq
  · walk_at "dl"
    rw [x_isi (a := .tuple) rfl]
    refine ⟨by decide, ?_⟩
    simp only [show subT .tuple .tuple = true from rfl, tr_bl, Bool.not_true, if_ff, x_lenT, x_neI]
    split
    · rename_i hne
      have hne : ¬ (es.length : Int) = m := by simpa using hne
      have e : nrowD m (.tup es) = false := by
        rw [nrow_tup]
        rw [decide_eq_false hne]; rfl
      rw [e] at hq
      exact hq
    · rename_i hne
      have hne : (es.length : Int) = m := by simpa using hne
      refine hR _ _ ?_
      walk_at "dl"
      refine ⟨fun i acc S' => acc = ((es.take i).map isI).map D.bl ∧ S = S', ⟨rfl, rfl⟩, fun _ _ _ _ _ _ _ => True.intro, ?_, ?_⟩
      · rintro i x acc _ Dd o hi ⟨rfl, rfl⟩ hD
        have hx := hes x (List.mem_of_getElem? hi)
        obtain ⟨a, ha⟩ := Option.isSome_iff_exists.mp (hx.ty (updS S Dd o))
        have hil := get_lt hi
        have ew : List.set (wipeD [some (.tup es), some (.int m), none] [2]) 2 (some x) = [some (.tup es), some (.int m), some x] := rfl
        have fin : ∀ b, isI x = b → (((es.take i).map isI).map D.bl).length < sizeLine ∧ updS S Dd o Dd = some o ∧ ((es.take i).map isI).map D.bl ++ [D.bl b] = ((es.take (i + 1)).map isI).map D.bl ∧ S = delS (updS S Dd o) Dd := fun b hb => by
          refine ⟨by rw [List.length_map, List.length_map, List.length_take, sizeLine_eq]; omega, updS_same, ?_, (delS_upd hD).symm⟩
          rw [take_one hi, List.map_append, List.map_append]
          simp only [List.map_cons, List.map_nil, hb]
        have hI := isI_ty ha
        walk_at "dl"
        rw [ew]
        walk_at "dl"
        rw [x_isi ha]
        refine ⟨by decide, ?_⟩
        simp only [tr_bl, if_true]
        cases hb : subT a .int with
        | false =>
          simp only [if_ff]
          rw [hb] at hI
          exact fin false hI
        | true =>
          simp only [if_true]
          rw [x_isi ha]
          refine ⟨by decide, ?_⟩
          simp only [tr_bl]
          rw [hb, Bool.true_and] at hI
          exact fin _ hI
      · rintro acc _ ⟨rfl, rfl⟩
        rw [List.take_length, x_allB]
        have e : nrowD m (.tup es) = (es.map isI).all id := by
          rw [nrow_tup]
          rw [decide_eq_true hne, Bool.true_and, List.all_map]; rfl
        rw [e] at hq
        exact hq
theorem dat_law_row_of (K : PySem.W.Frag) (g : Str → Addr) : ∀ ds S Q E, F_law_row_of K g ds S Q E → rd_law_row_of K g (cE E) (endB Q) (startD N_law_row_of ds) S := fun ds S Q E h => by
  obtain ⟨d, m, rfl, hd, hq⟩ := h
  have e0 : startD N_law_row_of [d, .int m] = [some d, some (.int m), none] := rfl
  rw [e0]
  unfold rd_law_row_of
  refine x_seq fun R hR => ?_
  rcases hd with ⟨es, rfl⟩ | ⟨es, rfl, hlen, hes⟩
  · walk_at "dl"
    rw [x_isi (a := .list) rfl]
    refine ⟨by decide, ?_⟩
    simp only [show subT .list .tuple = false from rfl, tr_bl, Bool.not_false, if_true]
    exact hq
  · walk_at "dl"
    rw [x_isi (a := .tuple) rfl]
    refine ⟨by decide, ?_⟩
    simp only [show subT .tuple .tuple = true from rfl, tr_bl, Bool.not_true, if_ff, x_lenT, x_neI]
    split
    · rename_i hne
      have hne : ¬ (es.length : Int) = m := by simpa using hne
      have e : nrowD m (.tup es) = false := by
        rw [nrow_tup]
        rw [decide_eq_false hne]; rfl
      rw [e] at hq
      exact hq
    · rename_i hne
      have hne : (es.length : Int) = m := by simpa using hne
      refine hR _ _ ?_
      walk_at "dl"
      refine ⟨fun i acc S' => acc.isEmpty = (es.take i).all isI ∧ acc.length ≤ i ∧ S = S', ⟨rfl, Nat.le_refl _, rfl⟩, fun _ _ _ _ _ _ _ => True.intro, ?_, ?_⟩
      · rintro i x acc _ Dd o hi ⟨hacc, hal, rfl⟩ hD
        have hx := hes x (List.mem_of_getElem? hi)
        obtain ⟨a, ha⟩ := Option.isSome_iff_exists.mp (hx.ty (updS S Dd o))
        have hil := get_lt hi
        have ew : List.set (wipeD [some (.tup es), some (.int m), none] [2]) 2 (some x) = [some (.tup es), some (.int m), some x] := rfl
        have hI := isI_ty ha
        have etk : (es.take (i + 1)).all isI = ((es.take i).all isI && isI x) := by
          rw [take_one hi, List.all_append, List.all_cons, List.all_nil, Bool.and_true]
        have bad : isI x = false → acc.length < sizeLine ∧ updS S Dd o Dd = some o ∧ (acc ++ [D.int 1]).isEmpty = (es.take (i + 1)).all isI ∧ (acc ++ [D.int 1]).length ≤ i + 1 ∧ S = delS (updS S Dd o) Dd := fun hb => by
          refine ⟨by rw [sizeLine_eq]; omega, updS_same, ?_, by rw [List.length_append, List.length_singleton]; omega, (delS_upd hD).symm⟩
          rw [etk, hb, Bool.and_false]
          cases acc <;> rfl
        have good : isI x = true → updS S Dd o Dd = some o ∧ acc.isEmpty = (es.take (i + 1)).all isI ∧ acc.length ≤ i + 1 ∧ S = delS (updS S Dd o) Dd := fun hb => by
          refine ⟨updS_same, ?_, by omega, (delS_upd hD).symm⟩
          rw [etk, hb, Bool.and_true]
          exact hacc
        walk_at "dl"
        rw [ew]
        walk_at "dl"
        rw [x_isi ha]
        refine ⟨by decide, ?_⟩
        simp only [tr_bl]
        cases hb : subT a .int with
        | false =>
          simp only [Bool.not_false, if_true]
          rw [hb] at hI
          exact bad hI
        | true =>
          simp only [Bool.not_true, if_ff]
          rw [x_isi ha]
          refine ⟨by decide, ?_⟩
          simp only [tr_bl]
          rw [hb, Bool.true_and] at hI
          cases hb2 : subT a .bool with
          | true =>
            simp only [if_true]
            rw [hb2] at hI
            exact bad hI
          | false =>
            simp only [if_ff]
            rw [hb2] at hI
            exact good hI
      · rintro acc _ ⟨hacc, _, rfl⟩
        rw [List.take_length] at hacc
        have tr : truD S (.lst acc) = some (!acc.isEmpty) := rfl
        simp only [tr, Bool.not_not]
        have e : nrowD m (.tup es) = es.all isI := by
          rw [nrow_tup]
          rw [decide_eq_true hne, Bool.true_and]
        rw [e, ← hacc] at hq
        exact hq
end DL
end

section
set_option Elab.async false
set_option linter.all false
set_option maxRecDepth 100000
set_option maxHeartbeats 400000
namespace DL
open PySem PySem.Spec PyProof.Rows L2
/-- the field f of an object -/
def fldP (C : Addr) (f : Str) (x : D) (S : Sto) (Q : DV) : Prop := match insOf S x with
  | some (C', fs) => C' = C ∧ (match fs.lookup f with
    | some d => Q d S
    | none => False)
  | none => False
theorem x_fldN {C : Addr} {f : Str} {ta : DE} {env : DEnv} {S : Sto} {Q : DV} : dFld C f ta env S Q = ta env S fun x S1 => fldP C f x S1 Q := rfl
theorem fldP_ins {C : Addr} {f : Str} {fs : List (Str × D)} {d : D} {S : Sto} {Q : DV} (h : fs.lookup f = some d) : fldP C f (.ins C fs) S Q = Q d S := by
  have e : fldP C f (.ins C fs) S Q = (C = C ∧ (match fs.lookup f with
    | some d => Q d S
    | none => False)) := rfl
  rw [e, h]
  exact propext ⟨fun z => z.2, fun z => ⟨rfl, z⟩⟩
theorem x_nu {g : Str → Addr} {a b : D} {S : Sto} {Q : DV} : fldP (g "Least") "numbers" (.ins (g "Least") [("numbers", a), ("reasons", b)]) S Q = Q a S := fldP_ins (by rfl)
theorem x_rho {g : Str → Addr} {a b : D} {S : Sto} {Q : DV} : fldP (g "Least") "reasons" (.ins (g "Least") [("numbers", a), ("reasons", b)]) S Q = Q b S := fldP_ins (by rfl)
theorem x_ring {g : Str → Addr} {a : D} {S : Sto} {Q : DV} : fldP (g "DemandRing") "indexes" (.ins (g "DemandRing") [("indexes", a)]) S Q = Q a S := fldP_ins (by rfl)
theorem nrow_ints {m : Int} {d : D} (h : nrowD m d = true) : d = tupI (intsD d) ∧ ((intsD d).length : Int) = m := by
  cases d with
  | tup es =>
    rw [nrow_tup, Bool.and_eq_true] at h
    obtain ⟨h1, h2⟩ := h
    have h1 := of_decide_eq_true h1
    have : ∀ es : List D, es.all isI = true → es = intL (es.map asI) := fun es => by
      induction es with
      | nil => intro _; rfl
      | cons e es ih =>
        intro h
        rw [List.all_cons, Bool.and_eq_true] at h
        cases e with
        | int i => rw [List.map_cons, intL, List.map_cons, ← intL, ← ih h.2]; rfl
        | _ => cases h.1
    refine ⟨?_, by show ((es.map asI).length : Int) = m; rw [List.length_map]; exact h1⟩
    show D.tup es = D.tup (intL (es.map asI))
    rw [← this es h2]
  | _ => cases h
theorem ints_tup (xs : List Int) : intsD (tupI xs) = xs := by
  show (xs.map D.int).map asI = xs
  rw [List.map_map]
  exact List.map_id'' (fun _ => rfl) xs
theorem nrow_tupI {m : Int} {xs : List Int} (h : (xs.length : Int) = m) : nrowD m (tupI xs) = true := by
  rw [nrow_tup, Bool.and_eq_true]
  refine ⟨decide_eq_true (by rw [List.length_map]; exact h), ?_⟩
  rw [List.all_map]
  exact List.all_eq_true.mpr fun _ _ => rfl
open Classical in
/-- the words behind the first two -/
noncomputable def leastW2 (n : Int) (rs : List Row) (xs is : List Int) : D :=
  if ∃ v : Nat, (v : Int) < n ∧ ¬ (0 ≤ numAt is v ∧ numAt is v < rs.length ∧ (rhoR rs is v).1 = v) then .str "reason" else
  if ∃ r ∈ rs, numAt xs r.1 < askR (numAt xs) r then .str "demand" else
  if ∃ v : Nat, (v : Int) < n ∧ numAt xs v ≠ askR (numAt xs) (rhoR rs is v) then .str "met" else
  if ∃ v : Nat, (v : Int) < n ∧ itn (nxt (rhoR rs is)) n.toNat v ≠ none then .str "ring" else .non
theorem leastW_numbers {n : Int} {rs : List Row} {dn dr : D} (h : nrowD n dn = false) : leastW n rs dn dr = .str "numbers" := by
  unfold leastW; rw [if_pos h]
theorem leastW_reason {n : Int} {rs : List Row} {dn dr : D} (h : nrowD n dn = true) (h2 : nrowD n dr = false) : leastW n rs dn dr = .str "reason" := by
  unfold leastW; rw [if_neg (by rw [h]; decide), if_pos h2]
theorem leastW_more {n : Int} {rs : List Row} {xs is : List Int} (h : (xs.length : Int) = n) (h2 : (is.length : Int) = n) : leastW n rs (tupI xs) (tupI is) = leastW2 n rs xs is := by
  unfold leastW leastW2
  rw [if_neg (by rw [nrow_tupI h]; decide), if_neg (by rw [nrow_tupI h2]; decide), ints_tup, ints_tup]
theorem fa_nrow {K : PySem.W.Frag} {g : Str → Addr} {d : D} {m : Int} {S : Sto} {Q : DV} {E : DX} (h : Plain d) (q : Q (.bl (nrowD m d)) S) : F_is_number_row K g [d, .int m] S Q E := ⟨d, m, rfl, h, q⟩
theorem fa_rowof {K : PySem.W.Frag} {g : Str → Addr} {d : D} {m : Int} {S : Sto} {Q : DV} {E : DX} (h : Plain d) (q : Q (.bl (nrowD m d)) S) : F_law_row_of K g [d, .int m] S Q E := ⟨d, m, rfl, h, q⟩
theorem row_d (r : Row) : rowDt r = .tup [.int r.1, optD r.2.1, .int r.2.2] := rfl
theorem rho_at {rs : List Row} {is : List Int} {v : Int} : rhoR rs is v = rowAt rs (numAt is v) := rfl
theorem non_opt {o : Option Int} : isNon (optD o) = o.isNone := isN_opt
end DL
end

section
set_option Elab.async false
set_option linter.all false
set_option maxRecDepth 100000
set_option maxHeartbeats 400000
namespace DL
open PySem PySem.Spec PyProof.Rows L2
local macro_rules | `(tactic| walk_at "dl") => `(tactic| simp only [x_C, x_V0, x_V, x_op, x_I, x_I0, x_addI, x_addT, x_B, x_And, x_Or, x_Not, x_Tru, x_AndT, x_OrT, x_NotT, x_If, x_nil, x_cons, x_Tup, x_Lst, x_LstM, x_CB, x_Chain, x_UnI, x_int, x_abs, x_lenT, x_lenL, x_listOfT, x_listOfL, x_tupOfT, x_tupOfL, x_call, x_make, x_BM, x_NoPart, x_Part, x_Sl, x_gName, x_gNil, x_gCons, x_gTup, x_next, x_brk, x_cont, x_drop, x_ret, x_retG, x_ifS, x_asg, x_raise, x_isiT, List.set_cons_zero, List.set_cons_succ, List.append_nil, x_for, x_while, x_iSeq, as_lst, as_tup, x_iRng1, x_iRng2, x_iEnum, x_lc, x_lcM, x_yes, x_Rg1, x_Rg2, x_ixT, x_ixL, x_eqI, x_neI, tr_bl, tr_int, x_gSub, x_fldN, x_nu, x_rho, x_ring])
theorem dat_least_fault (K : PySem.W.Frag) (g : Str → Addr) : ∀ ds S Q E, F_least_fault K g ds S Q E → rd_least_fault K g (cE E) (endB Q) (startD N_least_fault ds) S := fun ds S Q E h => by
  obtain ⟨c, gd, dn, dr, rfl, hn, hr, hP⟩ := h
  have e0 : startD N_least_fault [c, gd, leastD g dn dr] = [some c, some gd, some (leastD g dn dr), none, none, none, none, none, none] := rfl
  rw [e0]
  unfold rd_least_fault
  refine x_seq fun R hR => ?_
  walk_at "dl"
  refine ⟨c, gd, rfl, hP.mono fun n es e hs hV hq => ?_⟩
  subst e
  generalize rowsG (.int n) gd = rs at hV hq ⊢
  have n0 := hV.n0
  have n1 := hV.n1
  refine hR _ _ ?_
  refine x_seq fun R hR => ?_
  walk_at "dl"
  refine fa_nrow hn ?_
  simp only [tr_bl]
  cases hb : nrowD n dn with
  | false =>
    simp only [Bool.not_false, if_true]
    rw [leastW_numbers hb] at hq
    exact hq
  | true =>
  simp only [Bool.not_true, if_ff]
  refine hR _ _ ?_
  refine x_seq fun R hR => ?_
  walk_at "dl"
  refine fa_nrow hr ?_
  simp only [tr_bl]
  cases hb2 : nrowD n dr with
  | false =>
    simp only [Bool.not_false, if_true]
    rw [leastW_reason hb hb2] at hq
    exact hq
  | true =>
  simp only [Bool.not_true, if_ff]
  refine hR _ _ ?_
  obtain ⟨e1, l1⟩ := nrow_ints hb
  obtain ⟨e2, l2⟩ := nrow_ints hb2
  generalize intsD dn = xs at e1 l1
  generalize intsD dr = is at e2 l2
  subst e1 e2
  rw [leastW_more l1 l2] at hq
  unfold leastW2 at hq
  obtain ⟨m, rfl⟩ : ∃ m : Nat, n = m := ⟨n.toNat, by omega⟩
  -- the reasons
  refine x_seq fun R hR => ?_
  walk_at "dl"
  refine ⟨fun k env S' => ∃ (x4 x5 : Option D), env = [some (.int (m : Int)), some gd, some (leastD g (tupI xs) (tupI is)), some (.tup (rowsD rs)), x4, x5, none, none, none] ∧ S = S' ∧ ∀ v : Nat, v < k → 0 ≤ numAt is v ∧ numAt is v < rs.length ∧ (rhoR rs is v).1 = v, ⟨_, _, rfl, rfl, fun v hv => absurd hv (Nat.not_lt_zero _)⟩, fun _ _ _ _ => True.intro, ?_, ?_⟩
  · rintro k _ _ _ hi ⟨x4, x5, rfl, rfl, hok⟩
    obtain ⟨_, hd, rfl⟩ := enum_get hi
    obtain ⟨r, hr', rfl⟩ := getElem_map hd
    have hkl := get_lt hr'
    have er : numAt is (k : Int) = r := by unfold numAt; rw [Int.toNat_natCast, List.getD_eq_getElem?_getD, hr']; rfl
    simp only [x_gTup, x_gCons, x_gNil, x_gName, List.set_cons_zero, List.set_cons_succ]
    refine ⟨rfl, ?_⟩
    have bad : ¬ (0 ≤ r ∧ r < rs.length ∧ (rowAt rs r).1 = k) → Q (.str "reason") S := fun z => by
      rw [if_pos ⟨k, by omega, by rw [rho_at, er]; exact z⟩] at hq
      exact hq
    walk_at "dl"
    by_cases r0 : 0 ≤ r
    · rw [decide_eq_true r0]
      simp only [if_true, x_I0, rows_len]
      by_cases r1 : r < rs.length
      · obtain ⟨ea, _, _⟩ := row_ix (rs := rs) r0 r1
        rw [decide_eq_true r1]
        simp only [Bool.not_true, if_ff, ea, row_d, x_ixT, at3_0, x_neI]
        split
        · rename_i hne
          exact bad fun z => by
            have hne : ¬ (rowAt rs r).1 = k := by simpa using hne
            exact hne z.2.2
        · rename_i hne
          have hne : (rowAt rs r).1 = k := by simpa using hne
          refine ⟨_, _, rfl, by first | rfl | trivial, fun v hv => ?_⟩
          by_cases hvk : v = k
          · subst hvk
            rw [rho_at, er]
            exact ⟨r0, r1, hne⟩
          · exact hok v (by omega)
      · rw [decide_eq_false r1]
        simp only [Bool.not_false, if_true]
        exact bad fun z => r1 z.2.1
    · rw [decide_eq_false r0]
      simp only [if_ff, Bool.not_false, if_true]
      exact bad fun z => r0 z.1
  rintro _ _ ⟨x4, x5, rfl, rfl, hok⟩
  rw [enum_len] at hok
  have hlen : (intL is).length = m := by rw [List.length_map]; omega
  rw [hlen] at hok
  rw [if_neg (by rintro ⟨v, hv, z⟩; exact z (hok v (by omega)))] at hq
  refine hR _ _ ?_
  -- the demands
  refine x_seq fun R hR => ?_
  walk_at "dl"
  refine ⟨fun k env S' => ∃ (x6 : Option D), env = [some (.int (m : Int)), some gd, some (leastD g (tupI xs) (tupI is)), some (.tup (rowsD rs)), x4, x5, x6, none, none] ∧ S = S' ∧ ∀ r ∈ rs.take k, ¬ numAt xs r.1 < askR (numAt xs) r, ⟨_, rfl, rfl, fun r hv => by simp at hv⟩, fun _ _ _ _ => True.intro, ?_, ?_⟩
  · rintro k _ _ _ hi ⟨x6, rfl, rfl, hdk⟩
    obtain ⟨r, hr', rfl⟩ := row_at hi
    have hmem := List.mem_of_getElem? hr'
    have hv := hV.row r hmem
    have p0 := hv.p0
    have p1 := hv.p1
    simp only [x_gName, List.set_cons_zero, List.set_cons_succ]
    walk_at "dl"
    simp only [row_d, x_ixT, at3_0]
    rw [num_at p0 (by omega)]
    simp only []
    rw [← row_d]
    refine fa_asked rfl (fun u hu => by have := hv.s u hu; omega) ?_
    simp only [x_I0]
    split
    · rename_i hlt
      have hlt := of_decide_eq_true hlt
      rw [if_pos ⟨r, hmem, hlt⟩] at hq
      exact hq
    · rename_i hlt
      have hlt : ¬ numAt xs r.1 < askR (numAt xs) r := fun z => hlt (decide_eq_true z)
      refine ⟨_, rfl, by first | rfl | trivial, fun q hq' => ?_⟩
      rw [take_one hr'] at hq'
      rcases List.mem_append.mp hq' with z | z
      · exact hdk q z
      · rw [List.mem_singleton] at z; subst z; exact hlt
  rintro _ _ ⟨x6, rfl, rfl, hdk⟩
  rw [rows_len, List.take_length] at hdk
  rw [if_neg (by rintro ⟨r, hr', z⟩; exact hdk r hr' z)] at hq
  refine hR _ _ ?_
  -- the reasons meet
  have hrow : ∀ v : Nat, v < m → atI (intL is) v = some (.int (numAt is v)) ∧ atI (rowsD rs) (numAt is v) = some (rowDt (rhoR rs is v)) ∧ rhoR rs is v ∈ rs := fun v hv => by
    obtain ⟨a, b, c⟩ := hok v hv
    obtain ⟨ea, em, _⟩ := row_ix (rs := rs) a b
    exact ⟨num_at (by omega) (by omega), ea, em⟩
  refine x_seq fun R hR => ?_
  walk_at "dl"
  refine ⟨fun k env S' => ∃ (x4 x5 : Option D), env = [some (.int (m : Int)), some gd, some (leastD g (tupI xs) (tupI is)), some (.tup (rowsD rs)), x4, x5, x6, none, none] ∧ S = S' ∧ ∀ v : Nat, v < k → numAt xs v = askR (numAt xs) (rhoR rs is v), ⟨_, _, rfl, rfl, fun v hv => absurd hv (Nat.not_lt_zero _)⟩, fun _ _ _ _ => True.intro, ?_, ?_⟩
  · rintro k _ _ _ hi ⟨x4, x5, rfl, rfl, hmk⟩
    obtain ⟨_, hd, rfl⟩ := enum_get hi
    obtain ⟨r, hr', rfl⟩ := getElem_map hd
    have hkl := get_lt hr'
    have er : numAt is (k : Int) = r := by unfold numAt; rw [Int.toNat_natCast, List.getD_eq_getElem?_getD, hr']; rfl
    obtain ⟨z1, z2, z3⟩ := hrow k (by omega)
    rw [er] at z2
    simp only [x_gTup, x_gCons, x_gNil, x_gName, List.set_cons_zero, List.set_cons_succ]
    refine ⟨rfl, ?_⟩
    walk_at "dl"
    rw [num_at (show (0 : Int) ≤ k by omega) (by omega)]
    simp only [z2]
    refine fa_asked rfl (fun u hu => by have := (hV.row _ z3).s u hu; omega) ?_
    simp only [x_neI]
    split
    · rename_i hne
      have hne : ¬ numAt xs k = askR (numAt xs) (rhoR rs is k) := by simpa using hne
      rw [if_pos ⟨k, by omega, hne⟩] at hq
      exact hq
    · rename_i hne
      have hne : numAt xs k = askR (numAt xs) (rhoR rs is k) := by simpa using hne
      refine ⟨_, _, rfl, by first | rfl | trivial, fun v hv => ?_⟩
      by_cases hvk : v = k
      · subst hvk; exact hne
      · exact hmk v (by omega)
  rintro _ _ ⟨x4, x5, rfl, rfl, hmk⟩
  rw [enum_len, hlen] at hmk
  rw [if_neg (by rintro ⟨v, hv, z⟩; exact z (hmk v (by omega)))] at hq
  refine hR _ _ ?_
  -- the walks by the reasons
  have hcl : ∀ v u : Int, 0 ≤ v → v < m → nxt (rhoR rs is) v = some u → 0 ≤ u ∧ u < m := fun v u v0 v1 hu => by
    obtain ⟨w, rfl⟩ : ∃ w : Nat, v = w := ⟨v.toNat, by omega⟩
    exact (hV.row _ (hrow w (by omega)).2.2).s u hu
  refine x_seq fun R hR => ?_
  walk_at "dl"
  refine ⟨by omega, by omega, fun k env S' => ∃ (x4 x7 x8 : Option D), env = [some (.int (m : Int)), some gd, some (leastD g (tupI xs) (tupI is)), some (.tup (rowsD rs)), x4, x5, x6, x7, x8] ∧ S = S' ∧ ∀ v : Nat, v < k → itn (nxt (rhoR rs is)) m v = none, ⟨_, _, _, rfl, rfl, fun v hv => absurd hv (Nat.not_lt_zero _)⟩, fun _ _ _ _ => True.intro, ?_, ?_⟩
  · rintro k _ _ _ hi ⟨x4, x7, x8, rfl, rfl, hik⟩
    obtain ⟨hkm, rfl⟩ := rng_get hi
    simp only [x_gName, List.set_cons_zero, List.set_cons_succ]
    refine x_seq fun R2 hR2 => ?_
    walk_at "dl"
    refine hR2 _ _ ?_
    refine x_seq fun R3 hR3 => ?_
    walk_at "dl"
    refine ⟨by omega, by omega, fun j env S' => ∃ (x8 : Option D), env = [some (.int (m : Int)), some gd, some (leastD g (tupI xs) (tupI is)), some (.tup (rowsD rs)), some (.int (0 + (k : Nat))), x5, x6, some (optD (itn (nxt (rhoR rs is)) j (k : Int))), x8] ∧ S = S', ⟨_, by rw [Int.zero_add]; rfl, rfl⟩, fun _ _ _ _ => True.intro, ?_, ?_⟩
    · rintro j _ _ _ hi ⟨x8, rfl, rfl⟩
      simp only [x_gName, List.set_cons_zero, List.set_cons_succ]
      walk_at "dl"
      simp only [x_notN, isN_opt]
      have step : itn (nxt (rhoR rs is)) (j + 1) (k : Int) = (itn (nxt (rhoR rs is)) j (k : Int)).bind (nxt (rhoR rs is)) := rfl
      cases hw : itn (nxt (rhoR rs is)) j (k : Int) with
      | none =>
        simp only [Option.isNone_none, Bool.not_true, if_ff]
        rw [step, hw]
        exact ⟨_, rfl, by first | rfl | trivial⟩
      | some w =>
        simp only [Option.isNone_some, Bool.not_false, if_true]
        obtain ⟨w0, w1⟩ := itn_in (n := m) hcl (by omega) (by omega) j w hw
        obtain ⟨w, rfl⟩ : ∃ u : Nat, w = u := ⟨w.toNat, by omega⟩
        obtain ⟨z1, z2, z3⟩ := hrow w (by omega)
        simp only [optD, x_ixT, z1, z2, row_d, at3_1]
        rw [step, hw]
        exact ⟨_, rfl, by first | rfl | trivial⟩
    · rintro _ _ ⟨x8, rfl, rfl⟩
      rw [rng_len] at *
      refine hR3 _ _ ?_
      walk_at "dl"
      simp only [x_notN, isN_opt, Int.toNat_natCast]
      cases hw : itn (nxt (rhoR rs is)) m (k : Int) with
      | none =>
        simp only [Option.isNone_none, Bool.not_true, if_ff]
        refine ⟨_, _, _, rfl, by first | rfl | trivial, fun v hv => ?_⟩
        by_cases hvk : v = k
        · subst hvk; exact hw
        · exact hik v (by omega)
      | some w =>
        simp only [Option.isNone_some, Bool.not_false, if_true]
        rw [if_pos ⟨k, by omega, by rw [Int.toNat_natCast, hw]; simp⟩] at hq
        exact hq
  · rintro _ _ ⟨x4, x7, x8, rfl, rfl, hik⟩
    rw [rng_len, Int.toNat_natCast] at hik
    rw [if_neg (by rintro ⟨v, hv, z⟩; rw [Int.toNat_natCast] at z; exact z (hik v (by omega)))] at hq
    refine hR _ _ ?_
    walk_at "dl"
    exact hq
end DL
end

section
set_option Elab.async false
set_option linter.all false
set_option maxRecDepth 100000
set_option maxHeartbeats 400000
namespace DL
open PySem PySem.Spec PyProof.Rows L2
local macro_rules | `(tactic| walk_at "dl") => `(tactic| simp only [x_C, x_V0, x_V, x_op, x_I, x_I0, x_addI, x_addT, x_B, x_And, x_Or, x_Not, x_Tru, x_AndT, x_OrT, x_NotT, x_If, x_nil, x_cons, x_Tup, x_Lst, x_LstM, x_CB, x_Chain, x_UnI, x_int, x_abs, x_lenT, x_lenL, x_listOfT, x_listOfL, x_tupOfT, x_tupOfL, x_call, x_make, x_BM, x_NoPart, x_Part, x_Sl, x_gName, x_gNil, x_gCons, x_gTup, x_next, x_brk, x_cont, x_drop, x_ret, x_retG, x_ifS, x_asg, x_raise, x_isiT, List.set_cons_zero, List.set_cons_succ, List.append_nil, x_for, x_while, x_iSeq, as_lst, as_tup, x_iRng1, x_iRng2, x_iEnum, x_lc, x_lcM, x_yes, x_Rg1, x_Rg2, x_ixT, x_ixL, x_eqI, x_neI, tr_bl, tr_int, x_gSub, x_fldN, x_nu, x_rho, x_ring])
def pvI (n k : Nat) : Nat := if k = 0 then n - 1 else k - 1
theorem pvI_lt {n k : Nat} (h : k < n) : pvI n k < n := by unfold pvI; split <;> omega
theorem at_prev {is : List Int} {k : Nat} (h : k < is.length) : atI (intL is) ((k : Int) - 1) = some (.int (numAt is (pvI is.length k : Nat))) := by
  unfold pvI
  split
  · rename_i z
    subst z
    unfold atI ixN
    have hl : (intL is).length = is.length := List.length_map _
    rw [if_neg (by decide), if_pos (by rw [hl]; omega), hl]
    have e : ((0 : Nat) - 1 + (is.length : Int)).toNat = is.length - 1 := by omega
    have e2 : (((0 : Nat) : Int) - 1 + (is.length : Int)).toNat = is.length - 1 := by omega
    rw [e2]
    show (intL is)[is.length - 1]? = _
    rw [List.getElem?_map, List.getElem?_eq_getElem (by omega)]
    unfold numAt
    rw [Int.toNat_natCast, List.getD_eq_getElem?_getD, List.getElem?_eq_getElem (by omega)]
    rfl
  · rw [show (k : Int) - 1 = ((k - 1 : Nat) : Int) by omega]
    exact num_at (by omega) (by omega)
theorem x_sumI {S : Sto} {Q : DV} {is : List Int} : rSum' [.lst (intL is)] S Q = Q (.int is.sum) S := by
  unfold rSum'
  simp only [asl_lst, Option.bind_some, intL, intsOf_ints]
open Classical in
noncomputable def ringW2 (rs : List Row) (is : List Int) : D :=
  if ∃ i ∈ is, ¬ (0 ≤ i ∧ i < rs.length ∧ (rowAt rs i).2.1 ≠ none) then .str "index" else
  if ∃ k : Nat, k < is.length ∧ (rowAt rs (numAt is k)).2.1 ≠ some (rowAt rs (numAt is (pvI is.length k : Nat))).1 then .str "closed" else
  if (is.map fun i => (rowAt rs i).2.2).sum ≤ 0 then .str "sum" else .non
theorem ringW_index {rs : List Row} {d : D} (h : nrowD (intsD d).length d = false ∨ intsD d = []) : ringW rs d = .str "index" := by
  unfold ringW; rw [if_pos h]
theorem ringW_more {rs : List Row} {is : List Int} (h : is ≠ []) : ringW rs (tupI is) = ringW2 rs is := by
  unfold ringW ringW2
  rw [ints_tup, if_neg (by rintro (z | z); exact absurd z (by rw [nrow_tupI rfl]; decide); exact h z)]
  have e : ∀ k : Nat, k < is.length → (if k = 0 then (is.length : Int) - 1 else (k : Int) - 1) = (pvI is.length k : Nat) := fun k hk => by
    unfold pvI; split <;> omega
  have e2 : (∃ k : Nat, k < is.length ∧ (rowAt rs (numAt is k)).2.1 ≠ some (rowAt rs (numAt is (if k = 0 then (is.length : Int) - 1 else (k : Int) - 1))).1) = (∃ k : Nat, k < is.length ∧ (rowAt rs (numAt is k)).2.1 ≠ some (rowAt rs (numAt is (pvI is.length k : Nat))).1) :=
    propext ⟨fun ⟨k, hk, z⟩ => ⟨k, hk, by rw [← e k hk]; exact z⟩, fun ⟨k, hk, z⟩ => ⟨k, hk, by rw [e k hk]; exact z⟩⟩
  simp only [e2]
theorem x_eqNil {es : List D} {S : Sto} {Q : DV} (h : ∀ e ∈ es, PlainI e) (q : Q (.bl es.isEmpty) S) : rEq' (.tup es) (.tup []) S Q := by
  have e1 : shp 60 (.tup es) = true := by
    show shps 59 es = true
    refine shps_all.mpr fun d hd => ?_
    exact (h d hd).sh
  refine ⟨e1, rfl, ?_⟩
  have e : eqD (frz S (.tup es)) (frz S (.tup [])) = es.isEmpty := by
    show eqDs es [] = _
    cases es <;> rfl
  rw [e]
  exact q
end DL
end

section
set_option Elab.async false
set_option linter.all false
set_option maxRecDepth 100000
set_option maxHeartbeats 400000
namespace DL
open PySem PySem.Spec PyProof.Rows L2
local macro_rules | `(tactic| walk_at "dl") => `(tactic| simp only [x_C, x_V0, x_V, x_op, x_I, x_I0, x_addI, x_addT, x_B, x_And, x_Or, x_Not, x_Tru, x_AndT, x_OrT, x_NotT, x_If, x_nil, x_cons, x_Tup, x_Lst, x_LstM, x_CB, x_Chain, x_UnI, x_int, x_abs, x_lenT, x_lenL, x_listOfT, x_listOfL, x_tupOfT, x_tupOfL, x_call, x_make, x_BM, x_NoPart, x_Part, x_Sl, x_gName, x_gNil, x_gCons, x_gTup, x_next, x_brk, x_cont, x_drop, x_ret, x_retG, x_ifS, x_asg, x_raise, x_isiT, List.set_cons_zero, List.set_cons_succ, List.append_nil, x_for, x_while, x_iSeq, as_lst, as_tup, x_iRng1, x_iRng2, x_iEnum, x_lc, x_lcM, x_yes, x_Rg1, x_Rg2, x_ixT, x_ixL, x_eqI, x_neI, tr_bl, tr_int, x_gSub, x_fldN, x_nu, x_rho, x_ring])
theorem mem_num {is : List Int} {k : Nat} (h : k < is.length) : numAt is (k : Int) ∈ is := by
  have e : numAt is (k : Int) = is[k] := by unfold numAt; rw [Int.toNat_natCast, List.getD_eq_getElem?_getD, List.getElem?_eq_getElem h]; rfl
  rw [e]; exact List.getElem_mem h
theorem num_get {is : List Int} {k : Nat} {r : Int} (h : is[k]? = some r) : numAt is (k : Int) = r := by
  unfold numAt; rw [Int.toNat_natCast, List.getD_eq_getElem?_getD, h]; rfl
theorem dat_ring_fault (K : PySem.W.Frag) (g : Str → Addr) : ∀ ds S Q E, F_ring_fault K g ds S Q E → rd_ring_fault K g (cE E) (endB Q) (startD N_ring_fault ds) S := fun ds S Q E h => by
  obtain ⟨c, gd, d, rfl, hd, hP⟩ := h
  have e0 : startD N_ring_fault [c, gd, ringD g d] = [some c, some gd, some (ringD g d), none, none, none, none] := rfl
  rw [e0]
  unfold rd_ring_fault
  refine x_seq fun R hR => ?_
  walk_at "dl"
  refine ⟨c, gd, rfl, hP.mono fun n es e hs hV hq => ?_⟩
  subst e
  generalize rowsG (.int n) gd = rs at hV hq ⊢
  refine hR _ _ ?_
  refine x_seq fun R hR => ?_
  walk_at "dl"
  refine hR _ _ ?_
  refine x_seq fun R hR => ?_
  rcases hd with ⟨es, rfl⟩ | ⟨es, rfl, hlen, hes⟩
  · walk_at "dl"
    rw [x_isi (a := .list) rfl]
    refine ⟨by decide, ?_⟩
    simp only [show subT .list .tuple = false from rfl, tr_bl, Bool.not_false, if_true]
    rw [ringW_index (.inl rfl)] at hq
    exact hq
  walk_at "dl"
  rw [x_isi (a := .tuple) rfl]
  refine ⟨by decide, ?_⟩
  simp only [show subT .tuple .tuple = true from rfl, tr_bl, Bool.not_true, if_ff]
  refine ⟨by rw [sizeLine_eq]; simp, x_eqNil hes ?_⟩
  cases hem : es.isEmpty with
  | true =>
    simp only [if_true]
    have : es = [] := List.isEmpty_iff.mp hem
    subst this
    rw [ringW_index (.inr rfl)] at hq
    exact hq
  | false =>
  simp only [if_ff, x_lenT]
  refine fa_nrow (.inr ⟨es, rfl, hlen, hes⟩) ?_
  have hil : (intsD (.tup es)).length = es.length := List.length_map _
  simp only [tr_bl]
  cases hb : nrowD (es.length : Int) (.tup es) with
  | false =>
    simp only [Bool.not_false, if_true]
    rw [ringW_index (.inl (by rw [hil]; exact hb))] at hq
    exact hq
  | true =>
  simp only [Bool.not_true, if_ff]
  refine hR _ _ ?_
  obtain ⟨e1, l1⟩ := nrow_ints hb
  have hne : intsD (.tup es) ≠ [] := by
    intro z
    rw [z] at hil
    cases es with
    | nil => cases hem
    | cons _ _ => cases hil
  rw [e1] at hq ⊢
  generalize intsD (.tup es) = is at hil hne hq ⊢
  clear e1 l1 hb
  rw [ringW_more hne] at hq
  unfold ringW2 at hq
  -- the indexes
  refine x_seq fun R hR => ?_
  walk_at "dl"
  refine ⟨fun k env S' => ∃ (x5 : Option D), env = [some (.int n), some gd, some (ringD g (tupI is)), some (.tup (rowsD rs)), some (tupI is), x5, none] ∧ S = S' ∧ ∀ i ∈ is.take k, 0 ≤ i ∧ i < rs.length ∧ (rowAt rs i).2.1 ≠ none, ⟨_, rfl, rfl, fun i hi => by simp at hi⟩, fun _ _ _ _ => True.intro, ?_, ?_⟩
  · rintro k _ _ _ hi ⟨x5, rfl, rfl, hok⟩
    obtain ⟨r, hr', rfl⟩ := getElem_map hi
    have hmem := List.mem_of_getElem? hr'
    simp only [x_gName, List.set_cons_zero, List.set_cons_succ]
    have bad : ¬ (0 ≤ r ∧ r < rs.length ∧ (rowAt rs r).2.1 ≠ none) → Q (.str "index") S := fun z => by
      rw [if_pos ⟨r, hmem, z⟩] at hq
      exact hq
    walk_at "dl"
    by_cases r0 : 0 ≤ r
    · rw [decide_eq_true r0]
      simp only [if_true, x_I0, rows_len]
      by_cases r1 : r < rs.length
      · obtain ⟨ea, _, _⟩ := row_ix (rs := rs) r0 r1
        rw [decide_eq_true r1]
        simp only [Bool.not_true, if_ff, ea, row_d, x_ixT, at3_1, x_isN, isN_opt]
        cases hs : (rowAt rs r).2.1 with
        | none =>
          simp only [Option.isNone_none, if_true]
          exact bad fun z => z.2.2 hs
        | some s =>
          simp only [Option.isNone_some, if_ff]
          refine ⟨_, rfl, by first | rfl | trivial, fun i hi => ?_⟩
          rw [take_one hr'] at hi
          rcases List.mem_append.mp hi with z | z
          · exact hok i z
          · rw [List.mem_singleton] at z; subst z; exact ⟨r0, r1, by rw [hs]; simp⟩
      · rw [decide_eq_false r1]
        simp only [Bool.not_false, if_true]
        exact bad fun z => r1 z.2.1
    · rw [decide_eq_false r0]
      simp only [if_ff, Bool.not_false, if_true]
      exact bad fun z => r0 z.1
  rintro _ _ ⟨x5, rfl, rfl, hok⟩
  have hlen' : (intL is).length = is.length := List.length_map _
  rw [hlen', List.take_length] at hok
  rw [if_neg (by rintro ⟨i, hi, z⟩; exact z (hok i hi))] at hq
  refine hR _ _ ?_
  have hrow : ∀ i ∈ is, atI (rowsD rs) i = some (rowDt (rowAt rs i)) ∧ ∃ s, (rowAt rs i).2.1 = some s := fun i hi => by
    obtain ⟨a, b, c⟩ := hok i hi
    refine ⟨(row_ix a b).1, ?_⟩
    cases hs : (rowAt rs i).2.1 with
    | none => exact absurd hs c
    | some s => exact ⟨s, rfl⟩
  -- closed
  refine x_seq fun R hR => ?_
  walk_at "dl"
  refine ⟨fun k env S' => ∃ (x5 x6 : Option D), env = [some (.int n), some gd, some (ringD g (tupI is)), some (.tup (rowsD rs)), some (tupI is), x5, x6] ∧ S = S' ∧ ∀ v : Nat, v < k → (rowAt rs (numAt is v)).2.1 = some (rowAt rs (numAt is (pvI is.length v : Nat))).1, ⟨_, _, rfl, rfl, fun v hv => absurd hv (Nat.not_lt_zero _)⟩, fun _ _ _ _ => True.intro, ?_, ?_⟩
  · rintro k _ _ _ hi ⟨x5, x6, rfl, rfl, hcl⟩
    obtain ⟨_, hd, rfl⟩ := enum_get hi
    obtain ⟨r, hr', rfl⟩ := getElem_map hd
    have hkl := get_lt hr'
    have er := num_get hr'
    obtain ⟨z1, s, hs⟩ := hrow r (List.mem_of_getElem? hr')
    obtain ⟨z2, _⟩ := hrow _ (mem_num (pvI_lt hkl))
    simp only [x_gTup, x_gCons, x_gNil, x_gName, List.set_cons_zero, List.set_cons_succ]
    refine ⟨rfl, ?_⟩
    walk_at "dl"
    simp only [z1, at_prev hkl, x_ixT, z2, row_d, at3_0, at3_1, hs, optD, x_neI]
    split
    · rename_i hne'
      have hne' : ¬ s = (rowAt rs (numAt is (pvI is.length k : Nat))).1 := by simpa using hne'
      rw [if_pos ⟨k, hkl, by rw [er, hs]; simpa using hne'⟩] at hq
      exact hq
    · rename_i hne'
      have hne' : s = (rowAt rs (numAt is (pvI is.length k : Nat))).1 := by simpa using hne'
      refine ⟨_, _, rfl, by first | rfl | trivial, fun v hv => ?_⟩
      by_cases hvk : v = k
      · subst hvk; rw [er, hs, hne']
      · exact hcl v (by omega)
  rintro _ _ ⟨x5, x6, rfl, rfl, hcl⟩
  rw [enum_len, hlen'] at hcl
  rw [if_neg (by rintro ⟨v, hv, z⟩; exact z (hcl v hv))] at hq
  refine hR _ _ ?_
  -- the sum
  refine x_seq fun R hR => ?_
  walk_at "dl"
  refine ⟨fun k acc S' => acc = intL ((is.take k).map fun i => (rowAt rs i).2.2) ∧ S = S', ⟨rfl, rfl⟩, fun _ _ _ _ _ _ _ => True.intro, ?_, ?_⟩
  · rintro k x acc _ Dd o hi ⟨rfl, rfl⟩ hD
    obtain ⟨r, hr', rfl⟩ := getElem_map hi
    have hkl := get_lt hr'
    obtain ⟨z1, _⟩ := hrow r (List.mem_of_getElem? hr')
    have ew : List.set (wipeD [some (.int n), some gd, some (ringD g (tupI is)), some (.tup (rowsD rs)), some (tupI is), x5, x6] [5]) 5 (some (.int r)) = [some (.int n), some gd, some (ringD g (tupI is)), some (.tup (rowsD rs)), some (tupI is), some (.int r), x6] := rfl
    walk_at "dl"
    rw [ew]
    walk_at "dl"
    simp only [z1, row_d, x_ixT, at3_2, if_true]
    refine ⟨by rw [List.length_map, List.length_map, List.length_take, sizeLine_eq]; omega, updS_same, ?_, (delS_upd hD).symm⟩
    rw [take_one hr', List.map_append]
    simp only [intL, List.map_append]
    rfl
  rintro acc _ ⟨rfl, rfl⟩
  rw [hlen', List.take_length]
  simp only [x_sumI, x_I0]
  by_cases hs : (is.map fun i => (rowAt rs i).2.2).sum ≤ 0
  · rw [if_pos hs] at hq
    rw [decide_eq_true hs]
    simp only [if_true]
    exact hq
  · rw [if_neg hs] at hq
    rw [decide_eq_false hs]
    simp only [if_ff]
    refine hR _ _ ?_
    walk_at "dl"
    exact hq
theorem dat_law_ring_word (K : PySem.W.Frag) (g : Str → Addr) : ∀ ds S Q E, F_law_ring_word K g ds S Q E → rd_law_ring_word K g (cE E) (endB Q) (startD N_law_ring_word ds) S := fun ds S Q E h => by
  obtain ⟨n, rs, d, rfl, hV, hd, hq⟩ := h
  have e0 : startD N_law_ring_word [.lst (rowsD rs), d] = [some (.lst (rowsD rs)), some d, none, none] := rfl
  rw [e0]
  unfold rd_law_ring_word
  refine x_seq fun R hR => ?_
  rcases hd with ⟨es, rfl⟩ | ⟨es, rfl, hlen, hes⟩
  · walk_at "dl"
    rw [x_isi (a := .list) rfl]
    refine ⟨by decide, ?_⟩
    simp only [show subT .list .tuple = false from rfl, tr_bl, Bool.not_false, if_true]
    rw [ringW_index (.inl rfl)] at hq
    exact hq
  walk_at "dl"
  rw [x_isi (a := .tuple) rfl]
  refine ⟨by decide, ?_⟩
  simp only [show subT .tuple .tuple = true from rfl, tr_bl, Bool.not_true, if_ff]
  refine ⟨by rw [sizeLine_eq]; simp, x_eqNil hes ?_⟩
  cases hem : es.isEmpty with
  | true =>
    simp only [if_true]
    have : es = [] := List.isEmpty_iff.mp hem
    subst this
    rw [ringW_index (.inr rfl)] at hq
    exact hq
  | false =>
  simp only [if_ff, x_lenT]
  refine fa_rowof (.inr ⟨es, rfl, hlen, hes⟩) ?_
  have hil : (intsD (.tup es)).length = es.length := List.length_map _
  simp only [tr_bl]
  cases hb : nrowD (es.length : Int) (.tup es) with
  | false =>
    simp only [Bool.not_false, if_true]
    rw [ringW_index (.inl (by rw [hil]; exact hb))] at hq
    exact hq
  | true =>
  simp only [Bool.not_true, if_ff]
  refine hR _ _ ?_
  obtain ⟨e1, l1⟩ := nrow_ints hb
  have hne : intsD (.tup es) ≠ [] := by
    intro z
    rw [z] at hil
    cases es with
    | nil => cases hem
    | cons _ _ => cases hil
  rw [e1] at hq ⊢
  generalize intsD (.tup es) = is at hil hne hq ⊢
  clear e1 l1 hb
  rw [ringW_more hne] at hq
  unfold ringW2 at hq
  -- the indexes
  refine x_seq fun R hR => ?_
  walk_at "dl"
  refine ⟨fun k env S' => ∃ (x5 : Option D), env = [some (.lst (rowsD rs)), some (tupI is), x5, none] ∧ S = S' ∧ ∀ i ∈ is.take k, 0 ≤ i ∧ i < rs.length ∧ (rowAt rs i).2.1 ≠ none, ⟨_, rfl, rfl, fun i hi => by simp at hi⟩, fun _ _ _ _ => True.intro, ?_, ?_⟩
  · rintro k _ _ _ hi ⟨x5, rfl, rfl, hok⟩
    obtain ⟨r, hr', rfl⟩ := getElem_map hi
    have hmem := List.mem_of_getElem? hr'
    simp only [x_gName, List.set_cons_zero, List.set_cons_succ]
    have bad : ¬ (0 ≤ r ∧ r < rs.length ∧ (rowAt rs r).2.1 ≠ none) → Q (.str "index") S := fun z => by
      rw [if_pos ⟨r, hmem, z⟩] at hq
      exact hq
    walk_at "dl"
    by_cases r0 : 0 ≤ r
    · rw [decide_eq_true r0]
      simp only [if_true, x_I0, rows_len]
      by_cases r1 : r < rs.length
      · obtain ⟨ea, _, _⟩ := row_ix (rs := rs) r0 r1
        rw [decide_eq_true r1]
        simp only [Bool.not_true, if_ff, x_ixL, ea, row_d, x_ixT, at3_1, x_isN, isN_opt]
        cases hs : (rowAt rs r).2.1 with
        | none =>
          simp only [Option.isNone_none, if_true]
          exact bad fun z => z.2.2 hs
        | some s =>
          simp only [Option.isNone_some, if_ff]
          refine ⟨_, rfl, by first | rfl | trivial, fun i hi => ?_⟩
          rw [take_one hr'] at hi
          rcases List.mem_append.mp hi with z | z
          · exact hok i z
          · rw [List.mem_singleton] at z; subst z; exact ⟨r0, r1, by rw [hs]; simp⟩
      · rw [decide_eq_false r1]
        simp only [Bool.not_false, if_true]
        exact bad fun z => r1 z.2.1
    · rw [decide_eq_false r0]
      simp only [if_ff, Bool.not_false, if_true]
      exact bad fun z => r0 z.1
  rintro _ _ ⟨x5, rfl, rfl, hok⟩
  have hlen' : (intL is).length = is.length := List.length_map _
  rw [hlen', List.take_length] at hok
  rw [if_neg (by rintro ⟨i, hi, z⟩; exact z (hok i hi))] at hq
  refine hR _ _ ?_
  have hrow : ∀ i ∈ is, atI (rowsD rs) i = some (rowDt (rowAt rs i)) ∧ ∃ s, (rowAt rs i).2.1 = some s := fun i hi => by
    obtain ⟨a, b, c⟩ := hok i hi
    refine ⟨(row_ix a b).1, ?_⟩
    cases hs : (rowAt rs i).2.1 with
    | none => exact absurd hs c
    | some s => exact ⟨s, rfl⟩
  -- closed
  refine x_seq fun R hR => ?_
  walk_at "dl"
  rw [hlen']
  have hi200 : is.length ≤ 200 := by rw [hil]; exact hlen
  refine ⟨by omega, by omega, fun k env S' => ∃ (x6 : Option D), env = [some (.lst (rowsD rs)), some (tupI is), x5, x6] ∧ S = S' ∧ ∀ v : Nat, v < is.length → pvI is.length v < k → (rowAt rs (numAt is v)).2.1 = some (rowAt rs (numAt is (pvI is.length v : Nat))).1, ⟨_, rfl, rfl, fun v _ hv => absurd hv (Nat.not_lt_zero _)⟩, fun _ _ _ _ => True.intro, ?_, ?_⟩
  · rintro k _ _ _ hi ⟨x6, rfl, rfl, hcl⟩
    obtain ⟨hkm, rfl⟩ := rng_get hi
    have hkl : k < is.length := by omega
    -- the next one
    obtain ⟨q, hq1, hq2, hq3⟩ : ∃ q : Nat, (if (k : Int) + 1 < is.length then (k : Int) + 1 else 0) = (q : Int) ∧ q < is.length ∧ pvI is.length q = k := by
      by_cases z : k + 1 < is.length
      · exact ⟨k + 1, by rw [if_pos (by omega)]; omega, z, by unfold pvI; rw [if_neg (by omega)]; omega⟩
      · exact ⟨0, by rw [if_neg (by omega)]; rfl, by omega, by unfold pvI; rw [if_pos rfl]; omega⟩
    obtain ⟨z1, _⟩ := hrow _ (mem_num hkl)
    obtain ⟨z2, s, hs⟩ := hrow _ (mem_num hq2)
    simp only [x_gName, List.set_cons_zero, List.set_cons_succ, Int.zero_add]
    walk_at "dl"
    rw [hlen']
    have a1 : atI (intL is) (k : Int) = some (.int (numAt is k)) := num_at (by omega) (by omega)
    have a2 : atI (intL is) (q : Int) = some (.int (numAt is q)) := num_at (by omega) (by omega)
    simp only [a1, x_ixL, z1, row_d, x_ixT, at3_0]
    have fin : (!((rowAt rs (numAt is k)).1 == s)) = true ∨ (rowAt rs (numAt is k)).1 = s := by
      by_cases z : (rowAt rs (numAt is k)).1 = s
      · exact .inr z
      · exact .inl (by simpa using z)
    have go : if (!((rowAt rs (numAt is k)).1 == s)) = true then Q (.str "closed") S else ∃ (x6 : Option D), [some (.lst (rowsD rs)), some (tupI is), x5, some (.int (k : Int))] = [some (.lst (rowsD rs)), some (tupI is), x5, x6] ∧ S = S ∧ ∀ v : Nat, v < is.length → pvI is.length v < k + 1 → (rowAt rs (numAt is v)).2.1 = some (rowAt rs (numAt is (pvI is.length v : Nat))).1 := by
      rcases fin with z | z
      · simp only [z, if_true]
        have z : ¬ (rowAt rs (numAt is k)).1 = s := by simpa using z
        rw [if_pos ⟨q, hq2, by rw [hs, hq3]; exact fun y => z (Option.some.inj y).symm⟩] at hq
        exact hq
      · have z' : (!((rowAt rs (numAt is k)).1 == s)) = false := by simpa using z
        simp only [z', if_ff]
        refine ⟨_, rfl, by first | rfl | trivial, fun v hv hvk => ?_⟩
        by_cases hvk' : pvI is.length v = k
        · have : v = q := by
            unfold pvI at hvk' hq3
            split at hvk' <;> split at hq3 <;> omega
          subst this
          rw [hs, hq3, z]
        · exact hcl v hv (by omega)
    by_cases z : (k : Int) + 1 < is.length
    · rw [if_pos z] at hq1
      rw [decide_eq_true z]
      simp only [if_true, hq1, a2, x_ixL, x_ixT, z2, row_d, at3_1, hs, optD, x_neI]
      first | exact go | (simp only [eq_self_iff_true] at go ⊢; exact go)
    · rw [if_neg z] at hq1
      rw [decide_eq_false z]
      simp only [if_ff, hq1, a2, x_ixL, x_ixT, z2, row_d, at3_1, hs, optD, x_neI]
      first | exact go | (simp only [eq_self_iff_true] at go ⊢; exact go)
  rintro _ _ ⟨x6, rfl, rfl, hcl⟩
  rw [rng_len, Int.toNat_natCast] at hcl
  rw [if_neg (by rintro ⟨v, hv, z⟩; exact z (hcl v hv (pvI_lt hv)))] at hq
  refine hR _ _ ?_
  -- the sum
  refine x_seq fun R hR => ?_
  walk_at "dl"
  refine ⟨fun k acc S' => acc = intL ((is.take k).map fun i => (rowAt rs i).2.2) ∧ S = S', ⟨rfl, rfl⟩, fun _ _ _ _ _ _ _ => True.intro, ?_, ?_⟩
  · rintro k x acc _ Dd o hi ⟨rfl, rfl⟩ hD
    obtain ⟨r, hr', rfl⟩ := getElem_map hi
    have hkl := get_lt hr'
    obtain ⟨z1, _⟩ := hrow r (List.mem_of_getElem? hr')
    have ew : List.set (wipeD [some (.lst (rowsD rs)), some (tupI is), x5, x6] [2]) 2 (some (.int r)) = [some (.lst (rowsD rs)), some (tupI is), some (.int r), x6] := rfl
    walk_at "dl"
    rw [ew]
    walk_at "dl"
    simp only [z1, row_d, x_ixT, at3_2, if_true]
    refine ⟨by rw [List.length_map, List.length_map, List.length_take, sizeLine_eq]; omega, updS_same, ?_, (delS_upd hD).symm⟩
    rw [take_one hr', List.map_append]
    simp only [intL, List.map_append]
    rfl
  rintro acc _ ⟨rfl, rfl⟩
  rw [hlen', List.take_length]
  simp only [x_sumI, x_I0]
  by_cases hs : (is.map fun i => (rowAt rs i).2.2).sum ≤ 0
  · rw [if_pos hs] at hq
    rw [decide_eq_true hs]
    simp only [if_true]
    exact hq
  · rw [if_neg hs] at hq
    rw [decide_eq_false hs]
    simp only [if_ff]
    refine hR _ _ ?_
    walk_at "dl"
    exact hq
end DL
end

section
set_option Elab.async false
set_option linter.all false
set_option maxRecDepth 100000
set_option maxHeartbeats 400000
namespace DL
open PySem PySem.Spec PyProof.Rows L2
local macro_rules | `(tactic| walk_at "dl") => `(tactic| simp only [x_C, x_V0, x_V, x_op, x_I, x_I0, x_addI, x_addT, x_B, x_And, x_Or, x_Not, x_Tru, x_AndT, x_OrT, x_NotT, x_If, x_nil, x_cons, x_Tup, x_Lst, x_LstM, x_CB, x_Chain, x_UnI, x_int, x_abs, x_lenT, x_lenL, x_listOfT, x_listOfL, x_tupOfT, x_tupOfL, x_call, x_make, x_BM, x_NoPart, x_Part, x_Sl, x_gName, x_gNil, x_gCons, x_gTup, x_next, x_brk, x_cont, x_drop, x_ret, x_retG, x_ifS, x_asg, x_raise, x_isiT, List.set_cons_zero, List.set_cons_succ, List.append_nil, x_for, x_while, x_iSeq, as_lst, as_tup, x_iRng1, x_iRng2, x_iEnum, x_lc, x_lcM, x_yes, x_Rg1, x_Rg2, x_ixT, x_ixL, x_eqI, x_neI, tr_bl, tr_int, x_gSub, x_fldN, x_nu, x_rho, x_ring])
theorem x_gh {t : DS} {E : DEnds} {env : DEnv} {S : Sto} : dGh t E env S = ∃ env2 S2, Gh env S env2 S2 ∧ t E env2 S2 := rfl
theorem x_insert {S : Sto} {a : Addr} {ds : List D} {i : Int} {y : D} {Q : DV} (h : ownL S (.raw a) = some (a, ds)) : rInsert' (.raw a) [.int i, y] S Q = (ds.length < sizeLine ∧ 0 ≤ i ∧ i < 2 ^ 63 ∧ Q .non (updS S a (.lst (ds.take i.toNat ++ [y] ++ ds.drop i.toNat)))) := by unfold rInsert'; simp only [h]
theorem cm_2 : CM 2 (1000000000000) := by unfold CM; omega
theorem mem_ins {α : Type} {xs : List α} {i : Nat} {x y : α} : y ∈ xs.take i ++ [x] ++ xs.drop i ↔ y ∈ xs ∨ y = x := by
  constructor
  · intro h
    rcases List.mem_append.mp h with h | h
    · rcases List.mem_append.mp h with h | h
      · exact .inl (List.mem_of_mem_take h)
      · exact .inr (List.mem_singleton.mp h)
    · exact .inl (List.mem_of_mem_drop h)
  · rintro (h | rfl)
    · rw [← List.take_append_drop i xs] at h
      rcases List.mem_append.mp h with h | h
      · exact List.mem_append.mpr (.inl (List.mem_append.mpr (.inl h)))
      · exact List.mem_append.mpr (.inr h)
    · exact List.mem_append.mpr (.inl (List.mem_append.mpr (.inr (List.mem_singleton.mpr rfl))))
theorem rows_app {rs : List Row} {r : Row} : rowsD rs ++ [rowDt r] = rowsD (rs ++ [r]) := by simp only [rowsD, List.map_append, List.map_cons, List.map_nil]
theorem rows_ins {rs : List Row} {r : Row} {i : Nat} : (rowsD rs).take i ++ [rowDt r] ++ (rowsD rs).drop i = rowsD (rs.take i ++ [r] ++ rs.drop i) := by simp only [rowsD, List.map_append, List.map_cons, List.map_nil, List.map_take, List.map_drop]
theorem len_ins {α : Type} {xs : List α} {i : Nat} {x : α} : (xs.take i ++ [x] ++ xs.drop i).length = xs.length + 1 := by
  rw [List.length_append, List.length_append, List.length_take, List.length_drop, List.length_singleton]
  omega
theorem dat_law_system (K : PySem.W.Frag) (g : Str → Addr) : ∀ ds S Q E, F_law_system K g ds S Q E → rd_law_system K g (cE E) (endB Q) (startD N_law_system ds) S := fun ds S Q E h => by
  obtain ⟨h, rfl, hh, hq⟩ := h
  have e0 : startD N_law_system [.raw h] = [some (.raw h), none, none, none, none, none, none, none, none, none] := rfl
  rw [e0]
  unfold rd_law_system
  refine x_seq fun R hR => ?_
  walk_at "dl"
  refine fa_take hh (by decide) (by decide) fun c c0 c1 => ?_
  simp only [x_addI]
  refine hR _ _ ?_
  refine x_seq fun R hR => ?_
  walk_at "dl"
  refine fa_take hh (by decide) (by decide) fun m m0 m1 => hR _ _ ?_
  refine x_seq fun R hR => ?_
  have go : ∀ c m : Int, 1 ≤ c → c ≤ 60 → 0 ≤ m → c + m ≤ 400 → R [some (.raw h), some (.int c), some (.int m), none, none, none, none, none, none, none] S := fun c m c0 c1 m0 cm => hR _ _ (by
    refine x_seq fun R hR => ?_
    have go2 : ∀ lo w : Int, -1000000000000 ≤ lo → 0 < w → w < 18446744073709551616 → lo + w ≤ 1000000000001 → R [some (.raw h), some (.int c), some (.int m), some (.int lo), some (.int w), none, none, none, none, none] S := fun lo w lo0 w0 w1 low => hR _ _ (by
      refine x_seq fun R hR => ?_
      walk_at "dl"
      refine ⟨by omega, by omega, fun i acc S' => ∃ rs : List Row, acc = rowsD rs ∧ S = S' ∧ rs.length = i ∧ (∀ r ∈ rs, VRow c r) ∧ ∀ v : Nat, v < i → ∃ b, ((v : Int), (none : Option Int), b) ∈ rs, ⟨[], rfl, rfl, rfl, fun r hr => by simp at hr, fun v hv => absurd hv (Nat.not_lt_zero _)⟩, fun _ _ _ _ _ _ _ => True.intro, ?_, ?_⟩
      · rintro i _ _ _ Dd o hi ⟨rs, rfl, rfl, hl, hrow, hroot⟩ hD
        obtain ⟨hic, rfl⟩ := rng_get hi
        have hh2 : Hand (updS S Dd o) h := (updS_ne (neS hh hD)).trans hh
        have ew : List.set (wipeD [some (.raw h), some (.int c), some (.int m), some (.int lo), some (.int w), none, none, none, none, none] [9]) 9 (some (.int (0 + (i : Nat)))) = [some (.raw h), some (.int c), some (.int m), some (.int lo), some (.int w), none, none, none, none, some (.int (0 + (i : Nat)))] := rfl
        walk_at "dl"
        rw [ew]
        walk_at "dl"
        simp only [if_true]
        refine fa_take hh2 w0 w1 fun q q0 q1 => ?_
        simp only [x_addI, Int.zero_add]
        refine ⟨by rw [sizeLine_eq]; simp, by rw [List.length_map, sizeLine_eq]; omega, updS_same, rs ++ [((i : Int), none, lo + q)], rows_app (r := ((i : Int), none, lo + q)), (delS_upd hD).symm, by rw [List.length_append, hl]; rfl, fun r hr => ?_, fun v hv => ?_⟩
        · rcases List.mem_append.mp hr with hr | hr
          · exact hrow r hr
          · rw [List.mem_singleton] at hr
            subst hr
            exact ⟨by show (0 : Int) ≤ i; omega, by show (i : Int) < c; omega, fun u hu => (by cases hu), by show _ ≤ lo + q; omega, by show lo + q ≤ _; omega⟩
        · by_cases hvi : v = i
          · subst hvi
            exact ⟨_, List.mem_append.mpr (.inr (List.mem_singleton.mpr rfl))⟩
          · obtain ⟨b, hb⟩ := hroot v (by omega)
            exact ⟨b, List.mem_append.mpr (.inl hb)⟩
      · rintro _ _ a ⟨rs, rfl, rfl, hl, hrow, hroot⟩ ha
        rw [rng_len] at hl hroot
        refine hR _ _ ?_
        have hha : h ≠ a := neS hh ha
        refine x_seq fun R hR => ?_
        walk_at "dl"
        refine ⟨by omega, by omega, fun i env S' => ∃ (x6 x7 x8 : Option D) (rs : List Row), env = [some (.raw h), some (.int c), some (.int m), some (.int lo), some (.int w), some (.raw a), x6, x7, x8, none] ∧ updS S a (.lst (rowsD rs)) = S' ∧ rs.length = c.toNat + i ∧ (∀ r ∈ rs, VRow c r) ∧ ∀ v : Nat, v < c.toNat → ∃ b, ((v : Int), (none : Option Int), b) ∈ rs, ⟨_, _, _, rs, rfl, rfl, hl, hrow, hroot⟩, fun _ _ _ _ => True.intro, ?_, ?_⟩
        · rintro i _ _ _ hi ⟨x6, x7, x8, rs, rfl, rfl, hl, hrow, hroot⟩
          obtain ⟨him, rfl⟩ := rng_get hi
          have hh2 : Hand (updS S a (.lst (rowsD rs))) h := (updS_ne hha).trans hh
          simp only [x_gName, List.set_cons_zero, List.set_cons_succ]
          refine x_seq fun R2 hR2 => ?_
          walk_at "dl"
          refine fa_take hh2 (by omega) (by omega) fun st st0 st1 => hR2 _ _ ?_
          refine x_seq fun R3 hR3 => ?_
          walk_at "dl"
          refine fa_take hh2 (by omega) (by omega) fun p p0 p1 => ?_
          try simp only [x_eqI]
          have last : ∀ s : Option Int, (∀ u, s = some u → 0 ≤ u ∧ u < c) → F_law_take K g [.raw h, .int w] (updS S a (.lst (rowsD rs))) (fun x S1 => rAdd' (.int lo) x S1 fun x S1 => [D.int p, optD s, x].length ≤ sizeLine ∧ R3 [some (.raw h), some (.int c), some (.int m), some (.int lo), some (.int w), some (.raw a), some (.int (0 + (i : Nat))), some (.int st), some (.tup [.int p, optD s, x]), none] S1) (fun C fs S' => E C fs S') := fun s hs =>
            fa_take hh2 w0 w1 fun q q0 q1 => by
              simp only [x_addI]
              refine ⟨by rw [sizeLine_eq]; simp, hR3 _ _ ?_⟩
              walk_at "dl"
              have hlr : (rowsD rs).length = rs.length := List.length_map _
              simp only [asl_upd, Option.isSome_some, true_and, x_len as_upd, x_addI, hlr]
              refine fa_take hh2 (by omega) (by omega) fun t t0 t1 => ?_
              simp only [x_insert own_upd, updS_upd]
              refine ⟨by rw [hlr, sizeLine_eq]; omega, t0, by omega, _, _, _, rs.take t.toNat ++ [(p, s, lo + q)] ++ rs.drop t.toNat, rfl, ?_, by rw [len_ins, hl]; omega, fun r hr => ?_, fun v hv => ?_⟩
              · exact congrArg (fun z => updS S a (.lst z)) rows_ins.symm
              · rcases mem_ins.mp hr with hr | rfl
                · exact hrow r hr
                · exact ⟨p0, p1, hs, by show _ ≤ lo + q; omega, by show lo + q ≤ _; omega⟩
              · obtain ⟨b, hb⟩ := hroot v hv
                exact ⟨b, mem_ins.mpr (.inl hb)⟩
          split
          · exact last none fun u hu => by cases hu
          · rename_i hne
            have hne : ¬ st = c := by simpa using hne
            exact last (some st) fun u hu => by cases hu; omega
        · rintro _ _ ⟨x6, x7, x8, rs, rfl, rfl, hl, hrow, hroot⟩
          rw [rng_len] at hl
          refine hR _ _ ?_
          rw [x_gh]
          refine ⟨_, _, Gh.freeze (i := 5) rfl updS_same, ?_⟩
          rw [delS_upd ha]
          walk_at "dl"
          refine ⟨by rw [sizeLine_eq]; simp, hq c rs ⟨c0, c1, by omega, hrow, fun v v0 v1 => ?_⟩⟩
          obtain ⟨b, hb⟩ := hroot v.toNat (by omega)
          rw [show ((v.toNat : Nat) : Int) = v by omega] at hb
          exact ⟨b, hb⟩)
    walk_at "dl"
    rw [p1012]
    refine ⟨by rw [sizeLine_eq]; simp, by rw [sizeLine_eq]; simp, by rw [sizeLine_eq]; simp, cpow_1012, cpow_1012, cm_2, by rw [sizeLine_eq]; simp, by rw [sizeLine_eq]; simp, by rw [sizeLine_eq]; simp, ?_⟩
    refine fa_take hh (by decide) (by decide) fun q q0 q1 => ?_
    have hc : q = 0 ∨ q = 1 ∨ q = 2 ∨ q = 3 ∨ q = 4 := by omega
    rcases hc with rfl | rfl | rfl | rfl | rfl
    · exact ⟨rfl, go2 (-6) 10 (by decide) (by decide) (by decide) (by decide)⟩
    · exact ⟨rfl, go2 (-3) 7 (by decide) (by decide) (by decide) (by decide)⟩
    · exact ⟨rfl, go2 (-6) 7 (by decide) (by decide) (by decide) (by decide)⟩
    · exact ⟨rfl, go2 (0 - 1000000000000) (2 * 1000000000000 + 1) (by decide) (by decide) (by decide) (by decide)⟩
    · exact ⟨rfl, go2 0 1 (by decide) (by decide) (by decide) (by decide)⟩)
  walk_at "dl"
  refine fa_take hh (by decide) (by decide) fun q q0 q1 => ?_
  simp only [x_eqI]
  split
  · refine x_seq fun R2 hR2 => ?_
    walk_at "dl"
    refine fa_take hh (by decide) (by decide) fun c' c0' c1' => ?_
    simp only [x_addI]
    refine hR2 _ _ ?_
    walk_at "dl"
    exact fa_take hh (by decide) (by decide) fun m' m0' m1' => go _ _ (by omega) (by omega) (by omega) (by omega)
  · exact go _ _ (by omega) (by omega) (by omega) (by omega)
end DL
end

section
set_option Elab.async false
set_option linter.all false
set_option autoImplicit false
set_option maxRecDepth 100000
set_option maxHeartbeats 400000
/-! BH: passes of raising, in lists, and what comes of them. -/
namespace DL
open PySem PySem.Spec PyProof.Rows L2
theorem itn_congr {f h : Int → Option Int} {n : Int} (hr : ∀ v u : Int, 0 ≤ v → v < n → f v = some u → 0 ≤ u ∧ u < n) (e : ∀ v, 0 ≤ v → v < n → f v = h v) {v : Int} (v0 : 0 ≤ v) (v1 : v < n) : ∀ k, itn f k v = itn h k v ∧ ∀ u, itn f k v = some u → 0 ≤ u ∧ u < n
  | 0 => ⟨rfl, fun u hu => by cases hu; exact ⟨v0, v1⟩⟩
  | k + 1 => by
    obtain ⟨h1, h2⟩ := itn_congr hr e v0 v1 k
    show (itn f k v).bind f = (itn h k v).bind h ∧ ∀ u, (itn f k v).bind f = some u → _
    rw [← h1]
    cases hc : itn f k v with
    | none => exact ⟨rfl, fun u hu => by cases hu⟩
    | some w =>
      obtain ⟨w0, w1⟩ := h2 w hc
      exact ⟨e w w0 w1, fun u hu => hr w u w0 w1 hu⟩
theorem num_set {xs : List Int} {p v a : Int} (p0 : 0 ≤ p) (p1 : p < xs.length) (v0 : 0 ≤ v) : numAt (xs.set p.toNat a) v = if v = p then a else numAt xs v := by
  unfold numAt
  rw [List.getD_eq_getElem?_getD, List.getD_eq_getElem?_getD, List.getElem?_set]
  by_cases h : v = p
  · subst h
    rw [if_pos rfl, if_pos rfl, if_pos (by omega)]
    rfl
  · rw [if_neg (by omega), if_neg h]
theorem askR_congr {f h : Int → Int} {r : Row} (e : ∀ u, r.2.1 = some u → f u = h u) : askR f r = askR h r := by
  obtain ⟨p, s, b⟩ := r
  cases s with
  | none => rfl
  | some u => show f u + b = h u + b; rw [e u rfl]
structure LsI (n : Int) (rs done : List Row) (t : Nat) (nu rho : List Int) : Prop where
  ln : (nu.length : Int) = n
  lr : (rho.length : Int) = n
  ri : ∀ v : Int, 0 ≤ v → v < n → 0 ≤ numAt rho v ∧ numAt rho v < rs.length
  ex : ∃ (nf : Int → Int) (rf : Int → Row) (tau : Int → Nat) (T : Nat), (∀ v : Int, 0 ≤ v → v < n → numAt nu v = nf v ∧ rhoR rs rho v = rf v) ∧ PInv rs done n.toNat t nf rf ∧ TInv n.toNat nf rf tau T
theorem LsI.start {n : Int} {rs : List Row} {rho : List Int} (hV : VSys n rs) (hG : GRoots n rs rho) : LsI n rs [] 0 (rho.map fun i => (rowAt rs i).2.2) rho := by
  have hn := hV.n0
  have hrow : ∀ v : Int, 0 ≤ v → v < n → ∃ b, rhoR rs rho v = (v, none, b) ∧ (v, none, b) ∈ rs ∧ numAt (rho.map fun i => (rowAt rs i).2.2) v = b ∧ ∀ c, (v, none, c) ∈ rs → c ≤ b := fun v v0 v1 => by
    obtain ⟨i0, i1, b, hb, hmax⟩ := hG.at_ v v0 v1
    have e : rhoR rs rho v = (v, none, b) := by unfold rhoR; rw [List.getD_eq_getElem?_getD, hb]; rfl
    refine ⟨b, e, List.mem_of_getElem? hb, ?_, hmax⟩
    have hv : v.toNat < rho.length := by have := hG.len; omega
    have e2 : numAt rho v = rho[v.toNat] := by unfold numAt; rw [List.getD_eq_getElem?_getD, List.getElem?_eq_getElem hv]; rfl
    have e3 : numAt (rho.map fun i => (rowAt rs i).2.2) v = (rowAt rs rho[v.toNat]).2.2 := by unfold numAt; rw [List.getD_eq_getElem?_getD, List.getElem?_map, List.getElem?_eq_getElem hv]; rfl
    rw [e3, ← e2]
    show (rhoR rs rho v).2.2 = b
    rw [e]
  refine ⟨by rw [List.length_map]; exact hG.len, hG.len, fun v v0 v1 => ⟨(hG.at_ v v0 v1).1, (hG.at_ v v0 v1).2.1⟩, numAt (rho.map fun i => (rowAt rs i).2.2), rhoR rs rho, fun _ => 0, 0, fun _ _ _ => ⟨rfl, rfl⟩, ⟨⟨fun v v0 v1 => ?_, fun v v0 v1 => ?_⟩, fun v x hx => ?_, fun _ _ _ _ h => absurd h (by simp)⟩, ⟨fun _ => Nat.le_refl _, fun v v0 v1 u hu => ?_⟩⟩
  · obtain ⟨b, e, m, _, _⟩ := hrow v v0 (by omega)
    rw [e]; exact ⟨m, rfl⟩
  · obtain ⟨b, e, m, e2, _⟩ := hrow v v0 (by omega)
    rw [e, e2]; exact Int.le_refl _
  · cases hx with
    | root m =>
      have h := hV.row _ m
      obtain ⟨b, e, m', e2, hmax⟩ := hrow v h.p0 h.p1
      rw [e2]; exact hmax x m
  · obtain ⟨b, e, _⟩ := hrow v v0 (by omega)
    rw [e] at hu
    cases hu
theorem LsI.ask {n : Int} {rs done : List Row} {t : Nat} {nu rho : List Int} (hV : VSys n rs) {nf : Int → Int} (e : ∀ v : Int, 0 ≤ v → v < n → numAt nu v = nf v) {r : Row} (hr : r ∈ rs) : askR (numAt nu) r = askR nf r :=
  askR_congr fun u hu => by
    obtain ⟨u0, u1⟩ := (hV.row r hr).s u hu
    exact e u u0 u1
theorem LsI.skip {n : Int} {rs done : List Row} {t : Nat} {nu rho : List Int} (hV : VSys n rs) (I : LsI n rs done t nu rho) {p b : Int} {s : Option Int} (hr : (p, s, b) ∈ rs) (h : ¬ numAt nu p < askR (numAt nu) (p, s, b)) : LsI n rs (done ++ [(p, s, b)]) t nu rho := by
  obtain ⟨nf, rf, tau, T, e, J, JT⟩ := I.ex
  refine ⟨I.ln, I.lr, I.ri, nf, rf, tau, T, e, J.skip ?_, JT⟩
  have hv := hV.row _ hr
  rw [LsI.ask (done := done) (t := t) (rho := rho) hV (fun v v0 v1 => (e v v0 v1).1) hr, (e p hv.p0 hv.p1).1] at h
  omega
theorem LsI.raise {n : Int} {rs done : List Row} {t k : Nat} {nu rho : List Int} (hV : VSys n rs) (I : LsI n rs done t nu rho) {p b : Int} {s : Option Int} (hk : rs[k]? = some (p, s, b)) (h : numAt nu p < askR (numAt nu) (p, s, b)) :
    LsI n rs (done ++ [(p, s, b)]) t (nu.set p.toNat (askR (numAt nu) (p, s, b))) (rho.set p.toNat (k : Int)) ∧
    ((t : Int) = n - 1 → ∀ j, itn (nxt (rhoR rs (rho.set p.toNat (k : Int)))) j p ≠ none) := by
  obtain ⟨nf, rf, tau, T, e, J, JT⟩ := I.ex
  have hr : (p, s, b) ∈ rs := List.mem_of_getElem? hk
  have hv := hV.row _ hr
  have p0 := hv.p0
  have p1 := hv.p1
  simp only at p0 p1
  have hn := hV.n0
  have hln := I.ln
  have hlr := I.lr
  have hkl : k < rs.length := by
    rcases Nat.lt_or_ge k rs.length with q | q
    · exact q
    · rw [List.getElem?_eq_none q] at hk; cases hk
  have ea := LsI.ask (done := done) (t := t) (rho := rho) hV (fun v v0 v1 => (e v v0 v1).1) hr
  have h' : nf p < askR nf (p, s, b) := by rw [← ea, ← (e p p0 p1).1]; exact h
  have e2 : ∀ v : Int, 0 ≤ v → v < n → numAt (nu.set p.toNat (askR (numAt nu) (p, s, b))) v = updF nf p (askR nf (p, s, b)) v ∧ rhoR rs (rho.set p.toNat (k : Int)) v = updR rf p (p, s, b) v := fun v v0 v1 => by
    constructor
    · rw [num_set p0 (by omega) v0, ea, (e v v0 v1).1]; rfl
    · unfold rhoR updR
      rw [num_set p0 (by omega) v0]
      by_cases q : v = p
      · rw [if_pos q, if_pos q, Int.toNat_natCast, List.getD_eq_getElem?_getD, hk]; rfl
      · rw [if_neg q, if_neg q]
        exact (e v v0 v1).2
  refine ⟨⟨by rw [List.length_set]; exact hln, by rw [List.length_set]; exact hlr, fun v v0 v1 => ?_, _, _, _, _, e2, J.raise hr h', JT.raise J.r h'⟩, fun ht j => ?_⟩
  · rw [num_set p0 (by omega) v0]
    split
    · omega
    · exact I.ri v v0 v1
  · have hs : ∀ r ∈ rs, ∀ u, r.2.1 = some u → 0 ≤ u ∧ u < (n.toNat : Int) := fun r hr u hu => by
      have := (hV.row r hr).s u hu
      omega
    have hlast := J.last (p := p) (b := b) (s := s) hs (by omega) p0 (by omega) hr h' j
    have hJ := J.raise hr h'
    have hrr : ∀ v u : Int, 0 ≤ v → v < n → nxt (updR rf p (p, s, b)) v = some u → 0 ≤ u ∧ u < n := fun v u v0 v1 hu => (hV.row _ (hJ.r.row v v0 (by omega)).1).s u hu
    rw [(itn_congr hrr (fun v v0 v1 => show (updR rf p (p, s, b) v).2.1 = (rhoR rs (rho.set p.toNat (k : Int)) v).2.1 by rw [(e2 v v0 v1).2]) p0 p1 j).1] at hlast
    exact hlast
theorem LsI.next {n : Int} {rs : List Row} {t : Nat} {nu rho : List Int} (I : LsI n rs rs t nu rho) : LsI n rs [] (t + 1) nu rho := by
  obtain ⟨nf, rf, tau, T, e, J, JT⟩ := I.ex
  exact ⟨I.ln, I.lr, I.ri, nf, rf, tau, T, e, J.next, JT⟩
theorem wt_sum {rf : Int → Row} {ws : Nat → Int} : ∀ d : Nat, (∀ i, i ≤ d → itn (nxt rf) i (ws 0) = some (ws i)) → wt rf (ws 0) d = ((List.range d).map fun i => (rf (ws i)).2.2).sum
  | 0, _ => rfl
  | d + 1, h => by
    rw [List.range_succ, List.map_append, List.sum_append, ← wt_sum d fun i hi => h i (by omega)]
    show wt rf (ws 0) d + _ = _
    rw [h d (by omega)]
    show _ = wt rf (ws 0) d + ((rf (ws d)).2.2 + 0)
    rw [Int.add_zero]
/-- the ring behind the reasons is judged right -/
theorem LsI.ringW {n : Int} {rs done : List Row} {t : Nat} {nu rho : List Int} (hV : VSys n rs) (I : LsI n rs done t nu rho) {ws : Nat → Int} {d : Nat} (d1 : 1 ≤ d) (hws : ∀ i, i ≤ d → itn (nxt (rhoR rs rho)) i (ws 0) = some (ws i) ∧ 0 ≤ ws i ∧ ws i < n) (hd : ws d = ws 0) :
    DL.ringW rs (tupI ((List.range d).map fun i => numAt rho (ws i)).reverse) = .non := by
  obtain ⟨nf, rf, tau, T, e, J, JT⟩ := I.ex
  have hn := hV.n0
  have hlen : ((List.range d).map fun i => numAt rho (ws i)).reverse.length = d := by rw [List.length_reverse, List.length_map, List.length_range]
  have hget : ∀ k : Nat, k < d → numAt (((List.range d).map fun i => numAt rho (ws i)).reverse) (k : Int) = numAt rho (ws (d - 1 - k)) := fun k hk => by
    have h1 : (((List.range d).map fun i => numAt rho (ws i)).reverse)[k]? = some (numAt rho (ws (d - 1 - k))) := by
      rw [List.getElem?_reverse (by rw [List.length_map, List.length_range]; exact hk), List.length_map, List.length_range, List.getElem?_map, List.getElem?_range (by omega)]
      rfl
    exact num_get h1
  have hrow : ∀ v : Int, 0 ≤ v → v < n → rhoR rs rho v ∈ rs ∧ (rhoR rs rho v).1 = v := fun v v0 v1 => by
    rw [(e v v0 v1).2]; exact J.r.row v v0 (by omega)
  have hnx : ∀ i, i < d → (rhoR rs rho (ws i)).2.1 = some (ws (i + 1)) := fun i hi => by
    have h1 := (hws (i + 1) (by omega)).1
    have h2 := (hws i (by omega)).1
    have h3 : itn (nxt (rhoR rs rho)) (i + 1) (ws 0) = (itn (nxt (rhoR rs rho)) i (ws 0)).bind (nxt (rhoR rs rho)) := rfl
    rw [h2, h1] at h3
    exact h3.symm
  have hne : ((List.range d).map fun i => numAt rho (ws i)).reverse ≠ [] := fun z => by rw [z] at hlen; simp at hlen; omega
  rw [ringW_more hne]
  unfold ringW2
  rw [if_neg, if_neg, if_neg]
  · -- the sum
    have hcl : ∀ v u : Int, 0 ≤ v → v < (n.toNat : Nat) → nxt rf v = some u → 0 ≤ u ∧ u < (n.toNat : Nat) := fun v u v0 v1 hu => by
      have := (hV.row _ (J.r.row v v0 (by omega)).1).s u hu
      omega
    have hcl' : ∀ v u : Int, 0 ≤ v → v < n → nxt rf v = some u → 0 ≤ u ∧ u < n := fun v u v0 v1 hu => (hV.row _ (J.r.row v v0 (by omega)).1).s u hu
    have w0 := (hws 0 (by omega)).2
    have hrf : ∀ i, i ≤ d → itn (nxt rf) i (ws 0) = some (ws i) := fun i hi => by
      rw [(itn_congr hcl' (fun v v0 v1 => show (rf v).2.1 = (rhoR rs rho v).2.1 by rw [(e v v0 v1).2]) w0.1 w0.2 i).1]
      exact (hws i hi).1
    have hpos := JT.ring J.r hcl w0.1 (by omega) d1 (by rw [hrf d (Nat.le_refl _), hd])
    rw [wt_sum d hrf] at hpos
    have es : (((List.range d).map fun i => numAt rho (ws i)).reverse.map fun i => (rowAt rs i).2.2).sum = ((List.range d).map fun i => (rf (ws i)).2.2).sum := by
      rw [List.map_reverse, List.sum_reverse, List.map_map]
      congr 1
      refine List.map_congr_left fun i hi => ?_
      have hi := List.mem_range.mp hi
      have := (hws i (by omega)).2
      show (rhoR rs rho (ws i)).2.2 = _
      rw [(e _ this.1 this.2).2]
    rw [es]
    omega
  · rintro ⟨k, hk, z⟩
    rw [hlen] at hk
    refine z ?_
    rw [hlen, hget k hk, hget _ (pvI_lt hk)]
    show (rhoR rs rho (ws (d - 1 - k))).2.1 = some (rhoR rs rho (ws (d - 1 - pvI d k))).1
    rw [hnx _ (by omega)]
    unfold pvI
    split
    · rename_i k0
      subst k0
      rw [show d - 1 - (d - 1) = 0 by omega, show d - 1 - 0 + 1 = d by omega, hd, (hrow _ (hws 0 (by omega)).2.1 (hws 0 (by omega)).2.2).2]
    · rw [show d - 1 - (k - 1) = d - k by omega, show d - 1 - k + 1 = d - k by omega, (hrow _ (hws (d - k) (by omega)).2.1 (hws (d - k) (by omega)).2.2).2]
  · rintro ⟨i, hi, z⟩
    obtain ⟨j, hj, rfl⟩ := List.mem_map.mp (List.mem_reverse.mp hi)
    have hj := List.mem_range.mp hj
    obtain ⟨a, b⟩ := (hws j (by omega)).2
    obtain ⟨i0, i1⟩ := I.ri _ a b
    refine z ⟨i0, i1, ?_⟩
    show (rhoR rs rho (ws j)).2.1 ≠ none
    rw [hnx j hj]; simp
/-- where all demands are met, the numbers and reasons are judged right -/
theorem LsI.leastW {n : Int} {rs done : List Row} {t : Nat} {nu rho : List Int} (hV : VSys n rs) (I : LsI n rs done t nu rho) (hm : ∀ r ∈ rs, askR (numAt nu) r ≤ numAt nu r.1) : DL.leastW n rs (tupI nu) (tupI rho) = .non := by
  obtain ⟨nf, rf, tau, T, e, J, JT⟩ := I.ex
  have hn := hV.n0
  obtain ⟨m, rfl⟩ : ∃ m : Nat, n = m := ⟨n.toNat, by omega⟩
  rw [Int.toNat_natCast] at J JT
  have hrow : ∀ v : Int, 0 ≤ v → v < m → rhoR rs rho v ∈ rs ∧ (rhoR rs rho v).1 = v := fun v v0 v1 => by
    rw [(e v v0 v1).2]; exact J.r.row v v0 (by omega)
  have ask : ∀ r ∈ rs, askR (numAt nu) r = askR nf r := fun r hr => askR_congr fun u hu => by
    obtain ⟨u0, u1⟩ := (hV.row r hr).s u hu
    exact (e u u0 u1).1
  have heq : ∀ v : Int, 0 ≤ v → v < m → nf v = askR nf (rf v) := fun v v0 v1 => by
    have h1 := J.r.le v v0 (by omega)
    obtain ⟨h2, h3⟩ := hrow v v0 v1
    have h4 := hm _ h2
    rw [ask _ h2, h3, (e v v0 v1).2, (e v v0 v1).1] at h4
    omega
  have hcl : ∀ v u : Int, 0 ≤ v → v < (m : Int) → nxt rf v = some u → 0 ≤ u ∧ u < (m : Int) := fun v u v0 v1 hu => (hV.row _ (J.r.row v v0 (by omega)).1).s u hu
  rw [leastW_more I.ln I.lr]
  unfold leastW2
  rw [if_neg, if_neg, if_neg, if_neg]
  · rintro ⟨v, hv, z⟩
    refine z ?_
    rw [Int.toNat_natCast, ← (itn_congr (h := nxt (rhoR rs rho)) hcl (fun v v0 v1 => show (rf v).2.1 = (rhoR rs rho v).2.1 by rw [(e v v0 v1).2]) (by omega) hv m).1]
    exact JT.ends J.r hcl heq (by omega) hv
  · rintro ⟨v, hv, z⟩
    refine z ?_
    have h2 := (hrow v (by omega) hv).1
    rw [ask _ h2, (e v (by omega) hv).1, (e v (by omega) hv).2]
    exact heq v (by omega) hv
  · rintro ⟨r, hr, z⟩
    have := hm r hr
    omega
  · rintro ⟨v, hv, z⟩
    refine z ?_
    obtain ⟨a, b⟩ := I.ri v (by omega) hv
    exact ⟨a, b, (hrow v (by omega) hv).2⟩
theorem up_take {rs : List Row} {k : Nat} {r : Row} {nu : List Int} (h : rs[k]? = some r) : upRows (rs.take (k + 1)) nu = upStep (upRows (rs.take k) nu) r := by
  rw [take_one h]
  unfold upRows
  rw [List.foldl_append]
  rfl
theorem step_len {nu : List Int} {r : Row} : (upStep nu r).length = nu.length := by
  unfold upStep
  split
  · rw [List.length_set]
  · rfl
theorem up_len {l : List Row} : ∀ {nu : List Int}, (upRows l nu).length = nu.length := by
  induction l with
  | nil => intro nu; rfl
  | cons r l ih =>
    intro nu
    show (upRows l (upStep nu r)).length = _
    rw [ih]
    unfold upStep
    split
    · rw [List.length_set]
    · rfl
theorem step_ge {nu : List Int} {r : Row} {n : Int} (hl : (nu.length : Int) = n) (hr : VRow n r) {v : Int} (v0 : 0 ≤ v) : numAt nu v ≤ numAt (upStep nu r) v := by
  unfold upStep
  split
  · rename_i h
    have p0 := hr.p0
    have p1 := hr.p1
    rw [num_set p0 (by omega) v0]
    split
    · rename_i e; subst e; omega
    · exact Int.le_refl _
  · exact Int.le_refl _
theorem rows_ge {n : Int} {l : List Row} : ∀ {nu : List Int}, (nu.length : Int) = n → (∀ r ∈ l, VRow n r) → ∀ {v : Int}, 0 ≤ v → numAt nu v ≤ numAt (upRows l nu) v := by
  induction l with
  | nil => intro nu _ _ v _; exact Int.le_refl _
  | cons r l ih =>
    intro nu hl hr v v0
    have h1 := step_ge hl (hr r List.mem_cons_self) v0
    have hl2 : ((upStep nu r).length : Int) = n := by rw [step_len]; exact hl
    exact Int.le_trans h1 (ih hl2 (fun x hx => hr x (List.mem_cons_of_mem _ hx)) v0)
/-- a pass that leaves all as it is: all demands are met -/
theorem up_fix {n : Int} {l : List Row} : ∀ {nu : List Int}, (nu.length : Int) = n → (∀ r ∈ l, VRow n r) → upRows l nu = nu → ∀ r ∈ l, askR (numAt nu) r ≤ numAt nu r.1 := by
  induction l with
  | nil => intro nu _ _ _ r hr; simp at hr
  | cons r l ih =>
    intro nu hl hr h
    have hrr := hr r List.mem_cons_self
    have h : upRows l (upStep nu r) = nu := h
    have hno : ¬ numAt nu r.1 < askR (numAt nu) r := fun z => by
      have hl2 : ((upStep nu r).length : Int) = n := by rw [step_len]; exact hl
      have h1 := rows_ge hl2 (fun x hx => hr x (List.mem_cons_of_mem _ hx)) hrr.p0
      rw [h] at h1
      have p1 := hrr.p1
      have h2 : numAt (upStep nu r) r.1 = askR (numAt nu) r := by
        unfold upStep
        rw [if_pos z, num_set hrr.p0 (by omega) hrr.p0, if_pos rfl]
      omega
    have hs : upStep nu r = nu := by unfold upStep; rw [if_neg hno]
    rw [hs] at h
    intro x hx
    rcases List.mem_cons.mp hx with rfl | hx
    · omega
    · exact ih hl (fun x hx => hr x (List.mem_cons_of_mem _ hx)) h x hx
theorem start_of {n : Int} {rs : List Row} {rho : List Int} (hG : GRoots n rs rho) : IsStart n rs (rho.map fun i => (rowAt rs i).2.2) := by
  refine ⟨by rw [List.length_map]; exact hG.len, fun v v0 v1 => ?_⟩
  obtain ⟨i0, i1, b, hb, hmax⟩ := hG.at_ v v0 v1
  have e : rhoR rs rho v = (v, none, b) := by unfold rhoR; rw [List.getD_eq_getElem?_getD, hb]; rfl
  have hv : v.toNat < rho.length := by have := hG.len; omega
  have e2 : numAt rho v = rho[v.toNat] := by unfold numAt; rw [List.getD_eq_getElem?_getD, List.getElem?_eq_getElem hv]; rfl
  have e3 : numAt (rho.map fun i => (rowAt rs i).2.2) v = (rowAt rs rho[v.toNat]).2.2 := by unfold numAt; rw [List.getD_eq_getElem?_getD, List.getElem?_map, List.getElem?_eq_getElem hv]; rfl
  have e4 : numAt (rho.map fun i => (rowAt rs i).2.2) v = b := by
    rw [e3, ← e2]
    show (rhoR rs rho v).2.2 = b
    rw [e]
  rw [e4]
  exact ⟨List.mem_of_getElem? hb, hmax⟩
end DL
end

section
set_option Elab.async false
set_option linter.all false
set_option maxRecDepth 100000
set_option maxHeartbeats 400000
namespace DL
open PySem PySem.Spec PyProof.Rows L2
local macro_rules | `(tactic| walk_at "dl") => `(tactic| simp only [x_C, x_V0, x_V, x_op, x_I, x_I0, x_addI, x_addT, x_B, x_And, x_Or, x_Not, x_Tru, x_AndT, x_OrT, x_NotT, x_If, x_nil, x_cons, x_Tup, x_Lst, x_LstM, x_CB, x_Chain, x_UnI, x_int, x_abs, x_lenT, x_lenL, x_listOfT, x_listOfL, x_tupOfT, x_tupOfL, x_call, x_make, x_BM, x_NoPart, x_Part, x_Sl, x_gName, x_gNil, x_gCons, x_gTup, x_next, x_brk, x_cont, x_drop, x_ret, x_retG, x_ifS, x_asg, x_raise, x_isiT, List.set_cons_zero, List.set_cons_succ, List.append_nil, x_for, x_while, x_iSeq, as_lst, as_tup, x_iRng1, x_iRng2, x_iEnum, x_lc, x_lcM, x_yes, x_Rg1, x_Rg2, x_ixT, x_ixL, x_eqI, x_neI, tr_bl, tr_int, x_gSub])
theorem dat_least_numbers (K : PySem.W.Frag) (g : Str → Addr) : ∀ ds S Q E, F_least_numbers K g ds S Q E → rd_least_numbers K g (cE E) (endB Q) (startD N_least_numbers ds) S := fun ds S Q E h => by
  obtain ⟨c, gd, rfl, hP⟩ := h
  have e0 : startD N_least_numbers [c, gd] = [some c, some gd, none, none, none, none, none, none, none, none, none] := rfl
  rw [e0]
  unfold rd_least_numbers
  refine x_seq fun R hR => ?_
  walk_at "dl"
  refine ⟨c, gd, rfl, hP.mono fun n es e hs hV hqq => ?_⟩
  subst e
  generalize rowsG (.int n) gd = rs at hV hqq ⊢
  obtain ⟨hq, hq2⟩ := hqq
  have n0 := hV.n0
  have n1 := hV.n1
  refine hR _ _ ?_
  refine x_seq fun R hR => ?_
  walk_at "dl"
  refine ⟨n, rs, rfl, hV, fun a rho ha hG => ?_⟩
  refine hR _ _ ?_
  have hA : updS S a (.lst (intL rho)) a = some (.lst (intL rho)) := updS_same
  have hF : Fr S (updS S a (.lst (intL rho))) := (Fr.refl S).upd ha
  generalize updS S a (.lst (intL rho)) = S1 at hA hF
  have hil := hG.len
  have hix : ∀ i ∈ rho, 0 ≤ i ∧ i < rs.length := fun i hi => by
    obtain ⟨k, hk, rfl⟩ := List.getElem_of_mem hi
    have := hG.at_ (k : Int) (by omega) (by omega)
    have e : numAt rho (k : Int) = rho[k] := by unfold numAt; rw [Int.toNat_natCast, List.getD_eq_getElem?_getD, List.getElem?_eq_getElem hk]; rfl
    rw [e] at this
    exact ⟨this.1, this.2.1⟩
  refine x_seq fun R hR => ?_
  walk_at "dl"
  simp only [hA]
  refine ⟨fun i acc S' => acc = intL ((rho.take i).map fun j => (rowAt rs j).2.2) ∧ S1 = S', ⟨rfl, rfl⟩, ?_, ?_, ?_⟩
  · rintro i acc _ Dd o ⟨_, rfl⟩ hD
    exact (updS_ne (neS hA hD)).trans hA
  · rintro i x acc _ Dd o hi ⟨rfl, rfl⟩ hD
    obtain ⟨j, hj, rfl⟩ := getElem_map hi
    obtain ⟨j0, j1⟩ := hix j (List.mem_of_getElem? hj)
    obtain ⟨e1, _, _⟩ := row_ix (rs := rs) j0 j1
    have ew : List.set (wipeD [some (.int n), some gd, some (.tup (rowsD rs)), some (.raw a), none, none, none, none, none, none, none] [4]) 4 (some (.int j)) = [some (.int n), some gd, some (.tup (rowsD rs)), some (.raw a), some (.int j), none, none, none, none, none, none] := rfl
    have er : rowDt (rowAt rs j) = .tup [.int (rowAt rs j).1, optD (rowAt rs j).2.1, .int (rowAt rs j).2.2] := rfl
    walk_at "dl"
    rw [ew]
    walk_at "dl"
    simp only [e1, er, x_ixT, at3_2, if_true]
    have hlt : i < rho.length := by
      rcases Nat.lt_or_ge i rho.length with q | q
      · exact q
      · rw [List.getElem?_eq_none q] at hj; cases hj
    refine ⟨by rw [List.length_map, List.length_map, List.length_take, sizeLine_eq]; omega, updS_same, ?_, (delS_upd hD).symm⟩
    rw [List.take_succ, hj]
    simp only [intL, List.map_append]
    rfl
  · rintro acc _ b ⟨rfl, rfl⟩ hb
    have et : (intL rho).length = rho.length := List.length_map _
    rw [et, List.take_length]
    have hL := LsI.start hV hG
    have hS0 := start_of hG
    generalize (rho.map fun j => (rowAt rs j).2.2) = nu0 at hL hS0
    have hab : a ≠ b := neS hA hb
    have hbS : S b = none := hF.none hb
    have hA2 : updS S1 b (.lst (intL nu0)) a = some (.lst (intL rho)) := (updS_ne hab).trans hA
    have hB2 : updS S1 b (.lst (intL nu0)) b = some (.lst (intL nu0)) := updS_same
    have hF2 : Fr S (updS S1 b (.lst (intL nu0))) := hF.upd hbS
    generalize updS S1 b (.lst (intL nu0)) = S2 at hA2 hB2 hF2
    refine hR _ _ ?_
    refine x_seq fun R hR => ?_
    have fin : ∀ (x4 x6 x7 x8 x9 x10 : Option D) (nu rho : List Int) (t : Nat) S', (t : Int) < n → nu = upIter rs t nu0 → upRows rs nu = nu → LsI n rs rs t nu rho → Fr S S' → S' a = some (.lst (intL rho)) → S' b = some (.lst (intL nu)) →
        R [some (.int n), some gd, some (.tup (rowsD rs)), some (.raw a), x4, some (.raw b), x6, x7, x8, x9, x10] S' := fun x4 x6 x7 x8 x9 x10 nu rho t S' ht hnu hfx hL hF hA hB => hR _ _ (by
      walk_at "dl"
      simp only [x_tupOf (as_raw hA), x_tupOf (as_raw hB)]
      intro x hx
      refine ⟨x, _, _, rfl, updS_same, rfl, _, updS_same, ?_⟩
      rw [updS_upd, delS_upd hx]
      exact ⟨_, S, GhR.weak hF, hq nu0 t nu rho hS0 ht hnu hfx (hL.leastW hV (up_fix hL.ln hV.row hfx)) hL.ln hL.lr⟩)
    walk_at "dl"
    refine ⟨by omega, by omega, fun t env S' => ∃ (x4 x6 x7 x8 x9 x10 : Option D) (nu rho : List Int), env = [some (.int n), some gd, some (.tup (rowsD rs)), some (.raw a), x4, some (.raw b), x6, x7, x8, x9, x10] ∧ LsI n rs [] t nu rho ∧ nu = upIter rs t nu0 ∧ (t : Int) < n ∧ Fr S S' ∧ S' a = some (.lst (intL rho)) ∧ S' b = some (.lst (intL nu)),
      ⟨_, _, _, _, _, _, nu0, rho, rfl, hL, rfl, by omega, hF2, hA2, hB2⟩, fun _ _ _ _ => True.intro, ?_, ?_⟩
    · rintro t _ _ S' hi ⟨x4, x6, x7, x8, x9, x10, nuS, rho, rfl, hL, hnS, htn, hF, hA, hB⟩
      obtain ⟨ht, rfl⟩ := rng_get hi
      simp only [x_gName, List.set_cons_zero, List.set_cons_succ]
      refine x_seq fun R2 hR2 => ?_
      walk_at "dl"
      refine hR2 _ _ ?_
      refine x_seq fun R3 hR3 => ?_
      walk_at "dl"
      refine ⟨fun k env S' => ∃ (x4 x8 x9 x10 : Option D) (ch : Bool) (nu rho : List Int), env = [some (.int n), some gd, some (.tup (rowsD rs)), some (.raw a), x4, some (.raw b), some (.int (0 + (t : Nat))), some (.bl ch), x8, x9, x10] ∧ LsI n rs (rs.take k) t nu rho ∧ nu = upRows (rs.take k) nuS ∧ (ch = false → nu = nuS) ∧ ((t : Int) = n - 1 → ch = false) ∧ Fr S S' ∧ S' a = some (.lst (intL rho)) ∧ S' b = some (.lst (intL nu)),
        ⟨_, _, _, _, false, nuS, rho, rfl, hL, rfl, fun _ => rfl, fun _ => rfl, hF, hA, hB⟩, fun _ _ _ _ => True.intro, ?_, ?_⟩
      · rintro k _ _ S' hi ⟨x4, x8, x9, x10, ch, nu, rho, rfl, hL, hnk, hch, hcl, hF, hA, hB⟩
        obtain ⟨_, hd, rfl⟩ := enum_get hi
        obtain ⟨⟨p, s, c⟩, hr, rfl⟩ := row_at hd
        have hmem := List.mem_of_getElem? hr
        have hVr := hV.row _ hmem
        have p0 := hVr.p0
        have p1 := hVr.p1
        simp only at p0 p1
        have hln := hL.ln
        have hlr := hL.lr
        simp only [x_gTup, x_gCons, x_gNil, x_gName, List.set_cons_zero, List.set_cons_succ]
        refine ⟨rfl, ?_⟩
        have er : rowDt (p, s, c) = .tup [.int p, optD s, .int c] := rfl
        refine x_seq fun R4 hR4 => ?_
        rw [er]
        walk_at "dl"
        simp only [at3_0]
        refine hR4 _ _ ?_
        refine x_seq fun R4 hR4 => ?_
        rw [← er]
        walk_at "dl"
        refine fa_asked (as_raw hB) (fun u hu => by have := hVr.s u hu; omega) ?_
        refine hR4 _ _ ?_
        have etk : rs.take (k + 1) = rs.take k ++ [(p, s, c)] := by rw [List.take_succ, hr]; rfl
        have eup : upRows (rs.take (k + 1)) nuS = upStep nu (p, s, c) := by rw [up_take hr, ← hnk]
        walk_at "dl"
        rw [x_ixQ (as_raw hB)]
        rw [num_at p0 (by omega)]
        simp only [x_I0]
        split
        · rename_i hlt
          have hlt := of_decide_eq_true hlt
          obtain ⟨hL2, hlast⟩ := hL.raise hV hr hlt
          refine x_seq fun R5 hR5 => ?_
          walk_at "dl"
          simp only [own_raw hB, ix_at p0 (show p < nu.length by omega), set_ints]
          have hA3 : updS S' b (.lst (intL (nu.set p.toNat (askR (numAt nu) (p, s, c))))) a = some (.lst (intL rho)) := (updS_ne hab).trans hA
          have hB3 : updS S' b (.lst (intL (nu.set p.toNat (askR (numAt nu) (p, s, c))))) b = some (.lst (intL (nu.set p.toNat (askR (numAt nu) (p, s, c))))) := updS_same
          have hF3 : Fr S (updS S' b (.lst (intL (nu.set p.toNat (askR (numAt nu) (p, s, c)))))) := hF.upd hbS
          refine hR5 _ _ ?_
          generalize updS S' b (.lst (intL (nu.set p.toNat (askR (numAt nu) (p, s, c))))) = S3 at hA3 hB3 hF3
          refine x_seq fun R5 hR5 => ?_
          walk_at "dl"
          simp only [own_raw hA3, ix_at p0 (show p < rho.length by omega), set_ints]
          have hA4 : updS S3 a (.lst (intL (rho.set p.toNat (k : Int)))) a = some (.lst (intL (rho.set p.toNat (k : Int)))) := updS_same
          have hB4 : updS S3 a (.lst (intL (rho.set p.toNat (k : Int)))) b = some (.lst (intL (nu.set p.toNat (askR (numAt nu) (p, s, c))))) := (updS_ne (Ne.symm hab)).trans hB3
          have hF4 : Fr S (updS S3 a (.lst (intL (rho.set p.toNat (k : Int))))) := hF3.upd ha
          refine hR5 _ _ ?_
          generalize updS S3 a (.lst (intL (rho.set p.toNat (k : Int)))) = S4 at hA4 hB4 hF4
          refine x_seq fun R5 hR5 => ?_
          walk_at "dl"
          refine hR5 _ _ ?_
          walk_at "dl"
          split
          · rename_i heq
            have heq : 0 + (t : Int) = n - 1 := by simpa using heq
            refine ⟨n, rs, a, _, p, rfl, hV, hA4, hL2.lr, p0, p1, hL2.ri, hlast (by omega), fun ws d d1 d60 hws hd => ?_⟩
            intro x hx
            refine ⟨x, _, rfl, updS_same, rfl, _, updS_same, ?_⟩
            rw [updS_upd, delS_upd hx]
            refine ⟨_, S, GhR.weak hF4, hq2 _ (hL2.ringW hV d1 hws hd) (fun z => ?_) (by rw [List.length_reverse, List.length_map, List.length_range]; exact d60)⟩
            have := congrArg List.length z
            rw [List.length_reverse, List.length_map, List.length_range] at this
            simp at this
            omega
          · rename_i heq
            have heq : ¬ 0 + (t : Int) = n - 1 := by simpa using heq
            refine ⟨_, _, _, _, true, _, _, rfl, ?_, ?_, (fun z => by cases z), (fun z => by omega), hF4, hA4, hB4⟩
            · rw [etk]
              exact hL2
            · rw [eup]
              unfold upStep
              rw [if_pos hlt]
        · rename_i hlt
          have hlt : ¬ numAt nu p < askR (numAt nu) (p, s, c) := fun z => hlt (decide_eq_true z)
          refine ⟨_, _, _, _, ch, nu, rho, rfl, ?_, ?_, hch, hcl, hF, hA, hB⟩
          · rw [etk]
            exact hL.skip hV hmem hlt
          · rw [eup]
            unfold upStep
            rw [if_neg hlt]
      · rintro _ S' ⟨x4, x8, x9, x10, ch, nu, rho, rfl, hL, hnk, hch, hcl, hF, hA, hB⟩
        rw [enum_len, rows_len, List.take_length] at hL hnk
        refine hR3 _ _ ?_
        walk_at "dl"
        cases ch with
        | false =>
          simp only [Bool.not_false, if_true]
          have e := hch rfl
          exact fin _ _ _ _ _ _ nu rho t S' (by omega) (by rw [e]; exact hnS) (by rw [e] at hnk ⊢; exact hnk.symm) hL hF hA hB
        | true =>
          simp only [Bool.not_true, if_ff]
          have ht2 : ¬ (t : Int) = n - 1 := fun z => by cases hcl z
          exact ⟨_, _, _, _, _, _, nu, rho, rfl, hL.next, by rw [hnk, hnS]; rfl, by omega, hF, hA, hB⟩
    · rintro _ S' ⟨x4, x6, x7, x8, x9, x10, nu, rho, rfl, hL, hnS, hlt, hF, hA, hB⟩
      rw [rng_len] at hlt
      omega
end DL
end

section
set_option Elab.async false
set_option linter.all false
set_option maxRecDepth 100000
set_option maxHeartbeats 400000
namespace DL
open PySem PySem.Spec PyProof.Rows L2
local macro_rules | `(tactic| walk_at "dl") => `(tactic| simp only [x_C, x_V0, x_V, x_op, x_I, x_I0, x_addI, x_addT, x_B, x_And, x_Or, x_Not, x_Tru, x_AndT, x_OrT, x_NotT, x_If, x_nil, x_cons, x_Tup, x_Lst, x_LstM, x_CB, x_Chain, x_UnI, x_int, x_abs, x_lenT, x_lenL, x_listOfT, x_listOfL, x_tupOfT, x_tupOfL, x_call, x_make, x_BM, x_NoPart, x_Part, x_Sl, x_gName, x_gNil, x_gCons, x_gTup, x_next, x_brk, x_cont, x_drop, x_ret, x_retG, x_ifS, x_asg, x_raise, x_isiT, List.set_cons_zero, List.set_cons_succ, List.append_nil, x_for, x_while, x_iSeq, as_lst, as_tup, x_iRng1, x_iRng2, x_iEnum, x_lc, x_lcM, x_yes, x_Rg1, x_Rg2, x_ixT, x_ixL, x_eqI, x_neI, tr_bl, tr_int, x_gSub, x_fldN, x_nu, x_rho, x_ring, x_iRev])
theorem dat_law_claimed (K : PySem.W.Frag) (g : Str → Addr) : ∀ ds S Q E, F_law_claimed K g ds S Q E → rd_law_claimed K g (cE E) (endB Q) (startD N_law_claimed ds) S := fun ds S Q E h => by
  obtain ⟨nu, ⟨p, s, b⟩, rfl, hs, hq⟩ := h
  have e0 : startD N_law_claimed [tupI nu, rowDt (p, s, b)] = [some (tupI nu), some (.tup [.int p, optD s, .int b])] := rfl
  rw [e0]
  unfold rd_law_claimed
  walk_at "dl"
  simp only [at3_1, x_isN]
  cases s with
  | none =>
    simp only [optD, show isNon .non = true from rfl, if_tt, x_ixT, at3_2]
    exact hq
  | some u =>
    obtain ⟨u0, u1⟩ := hs u rfl
    simp only [optD, show isNon (.int u) = false from rfl, if_ff, x_ixT, at3_1, at3_2]
    rw [num_at u0 u1]
    exact hq
theorem fa_claimed {K : PySem.W.Frag} {g : Str → Addr} {nu : List Int} {r : Row} {S : Sto} {Q : DV} {E : DX} (hs : ∀ u, r.2.1 = some u → 0 ≤ u ∧ u < nu.length) (q : Q (.int (askR (numAt nu) r)) S) : F_law_claimed K g [tupI nu, rowDt r] S Q E := ⟨nu, r, rfl, hs, q⟩
theorem dat_law_lists (K : PySem.W.Frag) (g : Str → Addr) : ∀ ds S Q E, F_law_lists K g ds S Q E → rd_law_lists K g (cE E) (endB Q) (startD N_law_lists ds) S := fun ds S Q E h => by
  obtain ⟨h, d, es, rfl, hd, hh, q1, q2⟩ := h
  have e0 : startD N_law_lists [.raw h, d] = [some (.raw h), some d] := rfl
  rw [e0]
  unfold rd_law_lists
  walk_at "dl"
  refine fa_take hh (by decide) (by decide) fun r h0 h1 => ?_
  simp only [tr_int]
  split
  · rcases hd with rfl | rfl <;> exact q2
  · rcases hd with rfl | rfl <;> exact q1
end DL
end

section
set_option Elab.async false
set_option linter.all false
set_option maxRecDepth 100000
set_option maxHeartbeats 400000
namespace DL
open PySem PySem.Spec PyProof.Rows L2
local macro_rules | `(tactic| walk_at "dl") => `(tactic| simp only [x_C, x_V0, x_V, x_op, x_I, x_I0, x_addI, x_addT, x_B, x_And, x_Or, x_Not, x_Tru, x_AndT, x_OrT, x_NotT, x_If, x_nil, x_cons, x_Tup, x_Lst, x_LstM, x_CB, x_Chain, x_UnI, x_int, x_abs, x_lenT, x_lenL, x_listOfT, x_listOfL, x_tupOfT, x_tupOfL, x_call, x_make, x_BM, x_NoPart, x_Part, x_Sl, x_gName, x_gNil, x_gCons, x_gTup, x_next, x_brk, x_cont, x_drop, x_ret, x_retG, x_ifS, x_asg, x_raise, x_isiT, List.set_cons_zero, List.set_cons_succ, List.append_nil, x_for, x_while, x_iSeq, as_lst, as_tup, x_iRng1, x_iRng2, x_iEnum, x_lc, x_lcM, x_yes, x_Rg1, x_Rg2, x_ixT, x_ixL, x_eqI, x_neI, tr_bl, tr_int, x_gSub, x_fldN, x_nu, x_rho, x_ring])
theorem dat_law_least_word (K : PySem.W.Frag) (g : Str → Addr) : ∀ ds S Q E, F_law_least_word K g ds S Q E → rd_law_least_word K g (cE E) (endB Q) (startD N_law_least_word ds) S := fun ds S Q E h => by
  obtain ⟨n, rs, dn, dr, rfl, hV, hn, hr, hq⟩ := h
  have e0 : startD N_law_least_word [.int n, .lst (rowsD rs), dn, dr] = [some (.int n), some (.lst (rowsD rs)), some dn, some dr, none, none, none, none] := rfl
  rw [e0]
  have n0 := hV.n0
  have n1 := hV.n1
  unfold rd_law_least_word
  refine x_seq fun R hR => ?_
  walk_at "dl"
  refine fa_rowof hn ?_
  simp only [tr_bl]
  cases hb : nrowD n dn with
  | false =>
    simp only [Bool.not_false, if_true]
    rw [leastW_numbers hb] at hq
    exact hq
  | true =>
  simp only [Bool.not_true, if_ff]
  refine hR _ _ ?_
  refine x_seq fun R hR => ?_
  walk_at "dl"
  refine fa_rowof hr ?_
  simp only [tr_bl]
  cases hb2 : nrowD n dr with
  | false =>
    simp only [Bool.not_false, if_true]
    rw [leastW_reason hb hb2] at hq
    exact hq
  | true =>
  simp only [Bool.not_true, if_ff]
  refine hR _ _ ?_
  obtain ⟨e1, l1⟩ := nrow_ints hb
  obtain ⟨e2, l2⟩ := nrow_ints hb2
  generalize intsD dn = xs at e1 l1
  generalize intsD dr = is at e2 l2
  subst e1 e2
  rw [leastW_more l1 l2] at hq
  unfold leastW2 at hq
  obtain ⟨m, rfl⟩ : ∃ m : Nat, n = m := ⟨n.toNat, by omega⟩
  -- the reasons
  refine x_seq fun R hR => ?_
  walk_at "dl"
  refine ⟨by omega, by omega, fun k env S' => ∃ (x4 : Option D), env = [some (.int (m : Int)), some (.lst (rowsD rs)), some (tupI xs), some (tupI is), x4, none, none, none] ∧ S = S' ∧ ∀ v : Nat, v < k → 0 ≤ numAt is v ∧ numAt is v < rs.length ∧ (rhoR rs is v).1 = v, ⟨_, rfl, rfl, fun v hv => absurd hv (Nat.not_lt_zero _)⟩, fun _ _ _ _ => True.intro, ?_, ?_⟩
  · rintro k _ _ _ hi ⟨x4, rfl, rfl, hok⟩
    obtain ⟨hkm, rfl⟩ := rng_get hi
    obtain ⟨r, er⟩ : ∃ r, numAt is (k : Int) = r := ⟨_, rfl⟩
    have hat : atI (intL is) (k : Int) = some (.int r) := by rw [num_at (by omega) (by omega), er]
    simp only [x_gName, List.set_cons_zero, List.set_cons_succ, Int.zero_add]
    have bad : ¬ (0 ≤ r ∧ r < rs.length ∧ (rowAt rs r).1 = k) → Q (.str "reason") S := fun z => by
      rw [if_pos ⟨k, by omega, by rw [rho_at, er]; exact z⟩] at hq
      exact hq
    walk_at "dl"
    simp only [hat, x_I0]
    by_cases r0 : 0 ≤ r
    · rw [decide_eq_true r0]
      simp only [if_true, x_I0, rows_len]
      by_cases r1 : r < rs.length
      · obtain ⟨ea, _, _⟩ := row_ix (rs := rs) r0 r1
        rw [decide_eq_true r1]
        simp only [Bool.not_true, if_ff, x_ixL, ea, row_d, x_ixT, at3_0, x_neI]
        split
        · rename_i hne
          exact bad fun z => by
            have hne : ¬ (rowAt rs r).1 = k := by simpa using hne
            exact hne z.2.2
        · rename_i hne
          have hne : (rowAt rs r).1 = k := by simpa using hne
          refine ⟨_, rfl, by first | rfl | trivial, fun v hv => ?_⟩
          by_cases hvk : v = k
          · subst hvk
            rw [rho_at, er]
            exact ⟨r0, r1, hne⟩
          · exact hok v (by omega)
      · rw [decide_eq_false r1]
        simp only [Bool.not_false, if_true]
        exact bad fun z => r1 z.2.1
    · rw [decide_eq_false r0]
      simp only [if_ff, Bool.not_false, if_true]
      exact bad fun z => r0 z.1
  rintro _ _ ⟨x4, rfl, rfl, hok⟩
  rw [rng_len, Int.toNat_natCast] at hok
  rw [if_neg (by rintro ⟨v, hv, z⟩; exact z (hok v (by omega)))] at hq
  refine hR _ _ ?_
  -- the demands
  refine x_seq fun R hR => ?_
  walk_at "dl"
  refine ⟨fun k acc S' => S = S' ∧ acc.length ≤ k ∧ (acc = [] ↔ ∀ r ∈ rs.take k, ¬ numAt xs r.1 < askR (numAt xs) r), ⟨rfl, Nat.le_refl _, by simp⟩, fun _ _ _ _ _ _ _ => True.intro, ?_, ?_⟩
  · rintro k _ acc _ Dd o hi ⟨rfl, hal, hacc⟩ hD
    obtain ⟨r, hr', rfl⟩ := row_at hi
    have hmem := List.mem_of_getElem? hr'
    have hkl := get_lt hr'
    have hlen := hV.len
    have hv := hV.row r hmem
    have p0 := hv.p0
    have p1 := hv.p1
    have ew : List.set (wipeD [some (.int (m : Int)), some (.lst (rowsD rs)), some (tupI xs), some (tupI is), x4, none, none, none] [7]) 7 (some (rowDt r)) = [some (.int (m : Int)), some (.lst (rowsD rs)), some (tupI xs), some (tupI is), x4, none, none, some (rowDt r)] := rfl
    walk_at "dl"
    rw [ew]
    walk_at "dl"
    simp only [row_d, x_ixT, at3_0]
    rw [num_at p0 (by omega)]
    simp only []
    rw [← row_d]
    refine fa_claimed (fun u hu => by have := hv.s u hu; omega) ?_
    simp only [x_I0]
    have etk : (∀ q ∈ rs.take (k + 1), ¬ numAt xs q.1 < askR (numAt xs) q) ↔ ((∀ q ∈ rs.take k, ¬ numAt xs q.1 < askR (numAt xs) q) ∧ ¬ numAt xs r.1 < askR (numAt xs) r) := by
      rw [take_one hr']
      constructor
      · exact fun z => ⟨fun q hq' => z q (List.mem_append.mpr (.inl hq')), z r (List.mem_append.mpr (.inr (List.mem_singleton.mpr rfl)))⟩
      · rintro ⟨z1, z2⟩ q hq'
        rcases List.mem_append.mp hq' with z | z
        · exact z1 q z
        · rw [List.mem_singleton] at z; subst z; exact z2
    by_cases hlt : numAt xs r.1 < askR (numAt xs) r
    · rw [decide_eq_true hlt]
      simp only [if_true]
      refine ⟨by rw [sizeLine_eq]; omega, updS_same, (delS_upd hD).symm, by rw [List.length_append, List.length_singleton]; omega, ?_⟩
      rw [etk]
      constructor
      · intro z; simp at z
      · rintro ⟨_, z⟩; exact absurd hlt z
    · rw [decide_eq_false hlt]
      simp only [if_ff]
      refine ⟨updS_same, (delS_upd hD).symm, by omega, ?_⟩
      rw [etk, hacc]
      exact ⟨fun z => ⟨z, hlt⟩, fun z => z.1⟩
  rintro acc _ ⟨rfl, _, hacc⟩
  rw [rows_len, List.take_length] at hacc
  have tr : truD S (.lst acc) = some (!acc.isEmpty) := rfl
  simp only [tr]
  cases acc with
  | cons a acc =>
    have hem : (!(a :: acc).isEmpty) = true := rfl
    simp only [hem, if_true]
    have hex : ∃ r ∈ rs, numAt xs r.1 < askR (numAt xs) r := Classical.byContradiction fun z => by
      have := hacc.mpr fun r hr' q => z ⟨r, hr', q⟩
      cases this
    rw [if_pos hex] at hq
    exact hq
  | nil =>
  have hem : (!([] : List D).isEmpty) = false := rfl
  simp only [hem, if_ff]
  have hdk := hacc.mp rfl
  rw [if_neg (by rintro ⟨r, hr', z⟩; exact hdk r hr' z)] at hq
  refine hR _ _ ?_
  -- the reasons meet
  have hrow : ∀ v : Nat, v < m → atI (intL is) v = some (.int (numAt is v)) ∧ atI (rowsD rs) (numAt is v) = some (rowDt (rhoR rs is v)) ∧ rhoR rs is v ∈ rs := fun v hv => by
    obtain ⟨a, b, c⟩ := hok v hv
    obtain ⟨ea, em, _⟩ := row_ix (rs := rs) a b
    exact ⟨num_at (by omega) (by omega), ea, em⟩
  refine x_seq fun R hR => ?_
  walk_at "dl"
  refine ⟨by omega, by omega, fun k env S' => ∃ (x4 : Option D), env = [some (.int (m : Int)), some (.lst (rowsD rs)), some (tupI xs), some (tupI is), x4, none, none, none] ∧ S = S' ∧ ∀ v : Nat, v < k → numAt xs v = askR (numAt xs) (rhoR rs is v), ⟨_, rfl, rfl, fun v hv => absurd hv (Nat.not_lt_zero _)⟩, fun _ _ _ _ => True.intro, ?_, ?_⟩
  · rintro k _ _ _ hi ⟨x4, rfl, rfl, hmk⟩
    obtain ⟨hkm, rfl⟩ := rng_get hi
    obtain ⟨z1, z2, z3⟩ := hrow k (by omega)
    simp only [x_gName, List.set_cons_zero, List.set_cons_succ, Int.zero_add]
    walk_at "dl"
    rw [num_at (show (0 : Int) ≤ k by omega) (by omega)]
    simp only [z1, x_ixL, z2]
    refine fa_claimed (fun u hu => by have := (hV.row _ z3).s u hu; omega) ?_
    simp only [x_neI]
    split
    · rename_i hne
      have hne : ¬ numAt xs k = askR (numAt xs) (rhoR rs is k) := by simpa using hne
      rw [if_pos ⟨k, by omega, hne⟩] at hq
      exact hq
    · rename_i hne
      have hne : numAt xs k = askR (numAt xs) (rhoR rs is k) := by simpa using hne
      refine ⟨_, rfl, by first | rfl | trivial, fun v hv => ?_⟩
      by_cases hvk : v = k
      · subst hvk; exact hne
      · exact hmk v (by omega)
  rintro _ _ ⟨x4, rfl, rfl, hmk⟩
  rw [rng_len, Int.toNat_natCast] at hmk
  rw [if_neg (by rintro ⟨v, hv, z⟩; exact z (hmk v (by omega)))] at hq
  refine hR _ _ ?_
  -- the walks by the reasons
  have hcl : ∀ v u : Int, 0 ≤ v → v < m → nxt (rhoR rs is) v = some u → 0 ≤ u ∧ u < m := fun v u v0 v1 hu => by
    obtain ⟨w, rfl⟩ : ∃ w : Nat, v = w := ⟨v.toNat, by omega⟩
    exact (hV.row _ (hrow w (by omega)).2.2).s u hu
  refine x_seq fun R hR => ?_
  walk_at "dl"
  refine ⟨by omega, by omega, fun k env S' => ∃ (x4 x5 x6 : Option D), env = [some (.int (m : Int)), some (.lst (rowsD rs)), some (tupI xs), some (tupI is), x4, x5, x6, none] ∧ S = S' ∧ ∀ v : Nat, v < k → itn (nxt (rhoR rs is)) m v = none, ⟨_, _, _, rfl, rfl, fun v hv => absurd hv (Nat.not_lt_zero _)⟩, fun _ _ _ _ => True.intro, ?_, ?_⟩
  · rintro k _ _ _ hi ⟨x4, x5, x6, rfl, rfl, hik⟩
    obtain ⟨hkm, rfl⟩ := rng_get hi
    simp only [x_gName, List.set_cons_zero, List.set_cons_succ]
    refine x_seq fun R2 hR2 => ?_
    walk_at "dl"
    refine hR2 _ _ ?_
    refine x_seq fun R3 hR3 => ?_
    walk_at "dl"
    refine ⟨by omega, by omega, fun j env S' => ∃ (w : Nat) (x6 : Option D), env = [some (.int (m : Int)), some (.lst (rowsD rs)), some (tupI xs), some (tupI is), some (.int (0 + (k : Nat))), some (.int (w : Int)), x6, none] ∧ S = S' ∧ w < m ∧ ∃ i, i ≤ j ∧ itn (nxt (rhoR rs is)) i (k : Int) = some (w : Int) ∧ (i < j → nxt (rhoR rs is) w = none), ⟨k, _, by rw [Int.zero_add], rfl, by omega, 0, Nat.le_refl _, rfl, fun z => absurd z (Nat.lt_irrefl _)⟩, fun _ _ _ _ => True.intro, ?_, ?_⟩
    · rintro j _ _ _ hi ⟨w, x6, rfl, rfl, hwm, i, hij, hiw, hst⟩
      simp only [x_gName, List.set_cons_zero, List.set_cons_succ]
      obtain ⟨z1, z2, z3⟩ := hrow w hwm
      walk_at "dl"
      simp only [z1, x_ixL, z2, row_d, x_ixT, at3_1, x_isN, isN_opt]
      have step : itn (nxt (rhoR rs is)) (i + 1) (k : Int) = (itn (nxt (rhoR rs is)) i (k : Int)).bind (nxt (rhoR rs is)) := rfl
      cases hw : (rhoR rs is w).2.1 with
      | none =>
        simp only [Option.isNone_none, if_true]
        exact ⟨w, _, rfl, by first | rfl | trivial, hwm, i, by omega, hiw, fun _ => hw⟩
      | some u =>
        simp only [Option.isNone_some, if_ff]
        obtain ⟨u0, u1⟩ := hcl w u (by omega) (by omega) hw
        obtain ⟨u, rfl⟩ : ∃ y : Nat, u = y := ⟨u.toNat, by omega⟩
        have hij2 : i = j := by
          rcases Nat.lt_or_ge i j with z | z
          · have := hst z
            unfold nxt at this
            rw [hw] at this; cases this
          · omega
        subst hij2
        refine ⟨u, _, rfl, by first | rfl | trivial, by omega, i + 1, Nat.le_refl _, ?_, fun z => absurd z (Nat.lt_irrefl _)⟩
        rw [step, hiw]
        exact hw
    · rintro _ _ ⟨w, x6, rfl, rfl, hwm, i, hij, hiw, hst⟩
      rw [rng_len, Int.toNat_natCast] at hij hst
      refine hR3 _ _ ?_
      obtain ⟨z1, z2, z3⟩ := hrow w hwm
      walk_at "dl"
      simp only [z1, x_ixL, z2, row_d, x_ixT, at3_1, x_notN, isN_opt]
      have step : itn (nxt (rhoR rs is)) (i + 1) (k : Int) = (itn (nxt (rhoR rs is)) i (k : Int)).bind (nxt (rhoR rs is)) := rfl
      cases hw : (rhoR rs is w).2.1 with
      | none =>
        simp only [Option.isNone_none, Bool.not_true, if_ff]
        have hend : itn (nxt (rhoR rs is)) m (k : Int) = none := Classical.byContradiction fun z => by
          refine itn_ever (n := m) hcl (by omega) (by omega) z (i + 1) ?_
          rw [step, hiw]
          exact hw
        refine ⟨_, _, _, rfl, by first | rfl | trivial, fun v hv => ?_⟩
        by_cases hvk : v = k
        · subst hvk; exact hend
        · exact hik v (by omega)
      | some u =>
        simp only [Option.isNone_some, Bool.not_false, if_true]
        have him : i = m := by
          rcases Nat.lt_or_ge i m with z | z
          · have := hst z
            unfold nxt at this
            rw [hw] at this; cases this
          · omega
        subst him
        rw [if_pos ⟨k, by omega, by rw [Int.toNat_natCast, hiw]; simp⟩] at hq
        exact hq
  · rintro _ _ ⟨x4, x5, x6, rfl, rfl, hik⟩
    rw [rng_len, Int.toNat_natCast] at hik
    rw [if_neg (by rintro ⟨v, hv, z⟩; rw [Int.toNat_natCast] at z; exact z (hik v (by omega)))] at hq
    refine hR _ _ ?_
    walk_at "dl"
    exact hq
end DL
end

section
set_option Elab.async false
set_option linter.all false
set_option maxRecDepth 100000
set_option maxHeartbeats 400000
namespace DL
open PySem PySem.Spec PyProof.Rows L2
local macro_rules | `(tactic| walk_at "dl") => `(tactic| simp only [x_C, x_V0, x_V, x_op, x_I, x_I0, x_addI, x_addT, x_B, x_And, x_Or, x_Not, x_Tru, x_AndT, x_OrT, x_NotT, x_If, x_nil, x_cons, x_Tup, x_Lst, x_LstM, x_CB, x_Chain, x_UnI, x_int, x_abs, x_lenT, x_lenL, x_listOfT, x_listOfL, x_tupOfT, x_tupOfL, x_call, x_make, x_BM, x_NoPart, x_Part, x_Sl, x_gName, x_gNil, x_gCons, x_gTup, x_next, x_brk, x_cont, x_drop, x_ret, x_retG, x_ifS, x_asg, x_raise, x_isiT, List.set_cons_zero, List.set_cons_succ, List.append_nil, x_for, x_while, x_iSeq, as_lst, as_tup, x_iRng1, x_iRng2, x_iEnum, x_lc, x_lcM, x_yes, x_Rg1, x_Rg2, x_ixT, x_ixL, x_eqI, x_neI, tr_bl, tr_int, x_gSub, x_fldN, x_nu, x_rho, x_ring, x_iRev])

theorem run_seq {hd : D} {es : List D} (h : hd = .tup es ∨ hd = .lst es) (he : ∀ d ∈ es, ∀ S, (tyD S d).isSome = true) : RunD hd := by
  rcases h with rfl | rfl
  · exact ⟨fun _ => rfl, fun _ => rfl, fun xs e d hd => by cases e; exact he d hd⟩
  · exact ⟨fun _ => rfl, fun _ => rfl, fun xs e d hd => by cases e; exact he d hd⟩
theorem pl_int (i : Int) : PlainI (.int i) := ⟨fun _ => rfl, by simp [shp]⟩
theorem plain_tupI {xs : List Int} (h : xs.length ≤ 200) : Plain (tupI xs) := .inr ⟨_, rfl, by rw [List.length_map]; exact h, fun e he => by
  obtain ⟨i, _, rfl⟩ := List.mem_map.mp he
  exact pl_int i⟩
/-- a row as it is given -/
def GivR (r : Row) (d : D) : Prop := d = .tup [.int r.1, optD r.2.1, .int r.2.2] ∨ d = .lst [.int r.1, optD r.2.1, .int r.2.2]
theorem giv_run {r : Row} {d : D} (h : GivR r d) : RunD d := run_seq h fun e he S => by
  obtain ⟨p, s, b⟩ := r
  rcases List.mem_cons.mp he with rfl | he
  · rfl
  rcases List.mem_cons.mp he with rfl | he
  · cases s <;> rfl
  rw [List.mem_singleton] at he
  subst he; rfl
theorem giv_seq {r : Row} {d : D} (h : GivR r d) : seqD d = some [.int r.1, optD r.2.1, .int r.2.2] := by rcases h with rfl | rfl <;> rfl
theorem abs_sm {i : Int} (h0 : -1000000000000 ≤ i) (h1 : i ≤ 1000000000000) : smD (.int i) = true := by
  unfold smD
  exact decide_eq_true (by omega)
theorem giv_sm {n : Int} {r : Row} {d : D} (hn : n ≤ 60) (v : VRow n r) (h : GivR r d) : smD d = true ∧ shp 59 d = true ∧ wtD d ≤ 318 := by
  obtain ⟨p, s, b⟩ := r
  have h1 := v.p0
  have h2 := v.p1
  have h3 := v.s
  have h4 := v.b0
  have h5 := v.b1
  have s1 : smD (.int p) = true := abs_sm (by omega) (by omega)
  have s2 : smD (optD s) = true ∧ shp 58 (optD s) = true ∧ wtD (optD s) ≤ 104 := by
    cases s with
    | none => exact ⟨by unfold optD smD; rfl, by unfold optD shp; rfl, by unfold optD wtD; omega⟩
    | some u =>
      obtain ⟨u0, u1⟩ := h3 u rfl
      exact ⟨abs_sm (by omega) (by omega), by unfold optD shp; rfl, by unfold optD wtD; omega⟩
  have s3 : smD (.int b) = true := abs_sm h4 h5
  obtain ⟨s4, s5, s6⟩ := s2
  have a1 : smDs [.int p, optD s, .int b] = true := by unfold smDs smDs smDs smDs; rw [s1, s4, s3]; rfl
  have a2 : shps 58 [.int p, optD s, .int b] = true := by
    rw [shps_all]
    intro d hd
    rcases List.mem_cons.mp hd with rfl | hd
    · unfold shp; rfl
    rcases List.mem_cons.mp hd with rfl | hd
    · exact s5
    rw [List.mem_singleton] at hd
    subst hd; unfold shp; rfl
  have a3 : wtDs [.int p, optD s, .int b] ≤ 312 := by
    unfold wtDs wtDs wtDs wtDs
    have w1 : wtD (.int p) = 104 := by unfold wtD; rfl
    have w2 : wtD (.int b) = 104 := by unfold wtD; rfl
    omega
  rcases h with rfl | rfl
  · exact ⟨by unfold smD; exact a1, by unfold shp; exact a2, by unfold wtD; exact Nat.add_le_add_left a3 6⟩
  · exact ⟨by unfold smD; exact a1, by unfold shp; exact a2, by unfold wtD; exact Nat.add_le_add_left a3 6⟩
/-- a system as it is given -/
structure GivS (rs : List Row) (gd : D) : Prop where
  ex : ∃ es, (gd = .tup es ∨ gd = .lst es) ∧ es.length = rs.length ∧ ∀ (j : Nat) (r : Row), rs[j]? = some r → ∃ d, es[j]? = some d ∧ GivR r d
theorem giv_due {g : Str → Addr} {n : Int} {rs : List Row} {gd : D} {S : Sto} {E : DX} {q : Int → List Row → Prop} (hV : VSys n rs) (h : GivS rs gd) (hq : q n rs) : DueP g (.int n) gd S E q := by
  obtain ⟨es, h1, h2, h3⟩ := h.ex
  have hs : seqD gd = some es := by rcases h1 with rfl | rfl <;> rfl
  obtain ⟨a, b⟩ := due_good (gd := gd) hV hs h2 fun j r hr => by
    obtain ⟨d, hd, hg⟩ := h3 j r hr
    exact ⟨d, hd, giv_seq hg⟩
  have mem : ∀ d ∈ es, ∃ r, GivR r d := fun d hd => by
    obtain ⟨j, hj, rfl⟩ := List.mem_iff_getElem.mp hd
    have hj2 : j < rs.length := by omega
    obtain ⟨d', hd', hg⟩ := h3 j rs[j] (List.getElem?_eq_getElem hj2)
    rw [List.getElem?_eq_getElem hj] at hd'
    cases hd'
    exact ⟨_, hg⟩
  refine ⟨fun _ => rfl, ⟨run_seq h1 fun d hd S => ?_, fun xs e d hd => ?_⟩, ?_⟩
  · obtain ⟨r, hr⟩ := mem d hd
    exact (giv_run hr).ty S
  · rw [hs] at e
    cases e
    obtain ⟨r, hr⟩ := mem d hd
    exact giv_run hr
  · rw [a, b]
    exact hq
theorem giv_repr {n : Int} {rs : List Row} {gd : D} (hV : VSys n rs) (h : GivS rs gd) : (∀ S, frz S gd = gd) ∧ shp 60 gd = true ∧ smD gd = true ∧ wtD gd ≤ 16000000 := by
  obtain ⟨es, h1, h2, h3⟩ := h.ex
  have mem : ∀ d ∈ es, smD d = true ∧ shp 59 d = true ∧ wtD d ≤ 318 := fun d hd => by
    obtain ⟨j, hj, rfl⟩ := List.mem_iff_getElem.mp hd
    have hj2 : j < rs.length := by omega
    obtain ⟨d', hd', hg⟩ := h3 j rs[j] (List.getElem?_eq_getElem hj2)
    rw [List.getElem?_eq_getElem hj] at hd'
    cases hd'
    exact giv_sm hV.n1 (hV.row _ (List.getElem_mem hj2)) hg
  have a1 : smDs es = true := smDs_all.mpr fun d hd => (mem d hd).1
  have a2 : shps 59 es = true := shps_all.mpr fun d hd => (mem d hd).2.1
  have a3 := wtDs_le (ds := es) (n := 318) fun d hd => (mem d hd).2.2
  have a4 := hV.len
  have a5 : es.length * 318 ≤ 400 * 318 := Nat.mul_le_mul_right _ (by omega)
  rcases h1 with rfl | rfl
  · exact ⟨fun _ => rfl, by unfold shp; exact a2, by unfold smD; exact a1, by unfold wtD; omega⟩
  · exact ⟨fun _ => rfl, by unfold shp; exact a2, by unfold smD; exact a1, by unfold wtD; omega⟩
theorem rows_shp {n : Int} {rs : List Row} (hV : VSys n rs) : shp 60 (.tup (rowsD rs)) = true := by
  obtain ⟨_, h, _⟩ := giv_repr hV (gd := .tup (rowsD rs)) ⟨rowsD rs, .inl rfl, List.length_map _, fun j r hr => ⟨rowDt r, by rw [List.getElem?_map, hr]; rfl, .inl rfl⟩⟩
  exact h
theorem dat_law (K : PySem.W.Frag) (g : Str → Addr) (iL : InsC K (g "Least")) (iD : InsC K (g "DemandRing")) (kDD : PySem.W.kitOne K (.ref (g "DemandRing")) (.ref (g "DemandRing")) = some true) (kLD : PySem.W.kitOne K (.ref (g "Least")) (.ref (g "DemandRing")) = some false)
    (kLL : PySem.W.kitOne K (.ref (g "Least")) (.ref (g "Least")) = some true) : ∀ ds S Q E, F_law K g ds S Q E → rd_law K g (cE E) (endB Q) (startD N_law ds) S := fun ds S Q E hF => by
  obtain ⟨sc, cells, rfl, hsc, hcl, hq⟩ := hF
  have e0 : startD N_law [.raw sc] = [some (.raw sc), none, none, none, none, none, none, none, none] := rfl
  rw [e0]
  unfold rd_law
  refine x_seq fun R hR => ?_
  walk_at "dl"
  refine ⟨sc, cells, rfl, hsc, hcl, fun h hS => ?_⟩
  have hh : Hand (updS S h (.abs handP)) h := updS_same
  generalize updS S h (.abs handP) = S at hh
  refine hR _ _ ?_
  refine x_seq fun R hR => ?_
  walk_at "dl"
  refine ⟨by decide, by decide, fun i env S' => ∃ (x2 x3 x4 x5 x6 x7 x8 : Option D), env = [some (.raw sc), some (.raw h), x2, x3, x4, x5, x6, x7, x8] ∧ S = S', ⟨_, _, _, _, _, _, _, rfl, rfl⟩, fun _ _ _ _ => True.intro, ?_, ?_⟩
  rotate_left
  · rintro _ _ ⟨x2, x3, x4, x5, x6, x7, x8, rfl, rfl⟩
    refine hR _ _ ?_
    walk_at "dl"
    exact hq S
  rintro i _ _ _ hi ⟨x2, x3, x4, x5, x6, x7, x8, rfl, rfl⟩
  obtain ⟨_, rfl⟩ := rng_get hi
  simp only [x_gName, List.set_cons_zero, List.set_cons_succ]
  refine x_seq fun R2 hR2 => ?_
  walk_at "dl"
  refine ⟨h, rfl, hh, fun n rs hV => ?_⟩
  simp only [x_gTup, x_gCons, x_gNil, x_gName, List.set_cons_zero, List.set_cons_succ]
  refine ⟨rfl, hR2 _ _ ?_⟩
  have n0 := hV.n0
  have n1 := hV.n1
  have hrl := hV.len
  have hrl2 : (rowsD rs).length = rs.length := List.length_map _
  refine x_seq fun R3 hR3 => ?_
  have go : ∀ gd, GivS rs gd → R3 [some (.raw sc), some (.raw h), some (.int (0 + (i : Nat))), some (.int n), some (.lst (rowsD rs)), some gd, x6, x7, x8] S := fun gd hgd => hR3 _ _ (by
    obtain ⟨fz, r1, r2, r3⟩ := giv_repr hV hgd
    have ro := repr_ok r2
    refine x_seq fun R4 hR4 => ?_
    walk_at "dl"
    refine x_repr (fz S) r1 r2 r3 (hR4 _ _ ?_)
    refine x_seq fun R4 hR4 => ?_
    walk_at "dl"
    refine ⟨.int n, gd, rfl, giv_due hV hgd ?_⟩
    refine x_neRefl rfl (rows_shp hV) ?_
    simp only [if_ff]
    refine hR4 _ _ ?_
    refine x_seq fun R4 hR4 => ?_
    have last : ∀ fo, ((∃ nu rho, fo = leastD g (tupI nu) (tupI rho) ∧ leastW n rs (tupI nu) (tupI rho) = .non ∧ (nu.length : Int) = n ∧ (rho.length : Int) = n) ∨ ∃ is : List Int, fo = ringD g (tupI is) ∧ ringW rs (tupI is) = .non ∧ is ≠ [] ∧ is.length ≤ 60) →
        R4 [some (.raw sc), some (.raw h), some (.int (0 + (i : Nat))), some (.int n), some (.lst (rowsD rs)), some gd, some (.str (reprD gd)), some fo, x8] S := fun fo hfo => hR4 _ _ (by
      refine x_seq fun R5 hR5 => ?_
      have fin := hR5 [some (.raw sc), some (.raw h), some (.int (0 + (i : Nat))), some (.int n), some (.lst (rowsD rs)), some gd, some (.str (reprD gd)), some fo, x8] S (by
        walk_at "dl"
        refine x_repr (fz S) r1 r2 r3 (x_neStr ro ro ?_)
        simp only [beq_self_eq_true, Bool.not_true, if_ff]
        exact ⟨_, _, _, _, _, _, _, rfl, by first | rfl | trivial⟩)
      walk_at "dl"
      rcases hfo with ⟨nu, rho, rfl, hw, l1, l2⟩ | ⟨is, rfl, hw, hne, hle⟩
      · have p1 : Plain (tupI nu) := plain_tupI (by omega)
        have p2 : Plain (tupI rho) := plain_tupI (by omega)
        refine x_isiO (.insC rfl iL kLD) (.inl rfl) ?_
        simp only [tr_bl, if_ff]
        refine x_isiO (.insC rfl iL kLL) (.inl rfl) ?_
        simp only [tr_bl, if_true]
        refine x_seq fun R6 hR6 => ?_
        walk_at "dl"
        refine ⟨n, rs, _, _, rfl, hV, p1, p2, ?_⟩
        rw [hw]
        simp only [x_notN, show isNon .non = true from rfl, Bool.not_true, if_ff]
        refine hR6 _ _ ?_
        walk_at "dl"
        refine ⟨.int n, gd, _, _, rfl, p1, p2, giv_due hV hgd ?_⟩
        rw [hw]
        simp only [x_notN, show isNon .non = true from rfl, Bool.not_true, if_ff]
        exact fin
      · have p1 : Plain (tupI is) := plain_tupI (by omega)
        refine x_isiO (.insC rfl iD kDD) (.inl rfl) ?_
        simp only [tr_bl, if_true]
        refine x_seq fun R6 hR6 => ?_
        walk_at "dl"
        refine ⟨n, rs, _, rfl, hV, p1, ?_⟩
        rw [hw]
        simp only [x_notN, show isNon .non = true from rfl, Bool.not_true, if_ff]
        refine hR6 _ _ ?_
        walk_at "dl"
        refine ⟨.int n, gd, _, rfl, p1, giv_due hV hgd ?_⟩
        rw [hw]
        simp only [x_notN, show isNon .non = true from rfl, Bool.not_true, if_ff]
        exact fin)
    walk_at "dl"
    exact ⟨.int n, gd, rfl, giv_due hV hgd ⟨fun nu0 t nu rho _ _ _ _ hw l1 l2 => last _ (.inl ⟨nu, rho, rfl, hw, l1, l2⟩), fun is hw hne hle => last _ (.inr ⟨is, rfl, hw, hne, hle⟩)⟩⟩)
  walk_at "dl"
  refine ⟨fun k acc S' => S = S' ∧ acc.length = k ∧ ∀ (j : Nat) (r : Row), j < k → rs[j]? = some r → ∃ d, acc[j]? = some d ∧ GivR r d, ⟨rfl, rfl, fun j r hj => absurd hj (Nat.not_lt_zero _)⟩, fun _ _ _ _ _ _ _ => True.intro, ?_, ?_⟩
  · rintro k _ acc _ Dd o hk ⟨rfl, hl, hat⟩ hD
    obtain ⟨r, hr, rfl⟩ := getElem_map hk
    have hkl : k < rs.length := (List.getElem?_eq_some_iff.mp hr).1
    have hh2 : Hand (updS S Dd o) h := (updS_ne (neS hh hD)).trans hh
    simp only [x_gName, wipeD, List.set_cons_zero, List.set_cons_succ]
    walk_at "dl"
    simp only [if_true]
    have each : ∀ d, GivR r d → acc.length < sizeLine ∧ (updS S Dd o) Dd = some o ∧ S = delS (updS S Dd o) Dd ∧ (acc ++ [d]).length = k + 1 ∧ ∀ (j : Nat) (r : Row), j < k + 1 → rs[j]? = some r → ∃ d', (acc ++ [d])[j]? = some d' ∧ GivR r d' := fun d hd => by
      refine ⟨by rw [hl, sizeLine_eq]; omega, updS_same, (delS_upd hD).symm, by rw [List.length_append, hl]; rfl, fun j r' hj hr' => ?_⟩
      by_cases hjk : j < k
      · obtain ⟨d', h1, h2⟩ := hat j r' hjk hr'
        exact ⟨d', by rw [List.getElem?_append_left (by omega)]; exact h1, h2⟩
      · have : j = k := by omega
        subst this
        rw [hr] at hr'
        cases hr'
        exact ⟨d, by rw [List.getElem?_append_right (by omega), hl, Nat.sub_self]; rfl, hd⟩
    exact ⟨h, rowDt r, [.int r.1, optD r.2.1, .int r.2.2], rfl, .inr rfl, hh2, each _ (.inl rfl), each _ (.inr rfl)⟩
  · rintro acc _ ⟨rfl, hl, hat⟩
    have hl : acc.length = rs.length := by rw [hl]; exact hrl2
    have all : ∀ (j : Nat) (r : Row), rs[j]? = some r → ∃ d, acc[j]? = some d ∧ GivR r d := fun j r hr => hat j r (by have := (List.getElem?_eq_some_iff.mp hr).1; omega) hr
    exact ⟨h, .lst acc, acc, rfl, .inl rfl, hh, go _ ⟨acc, .inl rfl, hl, all⟩, go _ ⟨acc, .inr rfl, hl, all⟩⟩
end DL
end

section
set_option Elab.async false
set_option linter.all false
set_option maxRecDepth 100000
set_option maxHeartbeats 4000000
namespace DL
open PySem PySem.Spec PyProof.Rows L2
theorem ok_is_whole {P : Program} {w : World} {K : PySem.W.Frag} {mg : Str → Option Value} {base : Heap} {g : Str → Addr} {f : Addr} {fd : FuncData} (fx : Fx P w K mg base g) (F0 : FunD K "is_whole" "is_whole" (defArgs st_is_whole) (defBody st_is_whole) (defScope st_is_whole) [] [] f fd) : FnOk P w K mg base (L2.CX P w) 1 f fd ps_is_whole (spD K (F_is_whole K g)) :=
  fn_ok F0 sc_is_whole (fun ds S Q E h => by unfold F_is_whole at h; (try unfold RunF at h); (try unfold F_tupN at h); (repeat (obtain ⟨_, h⟩ := h)) <;> (try subst_vars) <;> rfl) (der_is_whole fx) (dat_is_whole K g)
theorem ok_is_row {P : Program} {w : World} {K : PySem.W.Frag} {mg : Str → Option Value} {base : Heap} {g : Str → Addr} {f : Addr} {fd : FuncData} (fx : Fx P w K mg base g) (F0 : FunD K "is_row" "is_row" (defArgs st_is_row) (defBody st_is_row) (defScope st_is_row) [] [] f fd) : FnOk P w K mg base (L2.CX P w) 1 f fd ps_is_row (spD K (F_is_row K g)) :=
  fn_ok F0 sc_is_row (fun ds S Q E h => by unfold F_is_row at h; (try unfold RunF at h); (try unfold F_tupN at h); (repeat (obtain ⟨_, h⟩ := h)) <;> (try subst_vars) <;> rfl) (der_is_row fx) (dat_is_row K g)
theorem ok_is_demand {P : Program} {w : World} {K : PySem.W.Frag} {mg : Str → Option Value} {base : Heap} {g : Str → Addr} {f : Addr} {fd : FuncData} (fx : Fx P w K mg base g) (h_is_row : FnD P w K mg base 1 "is_row" (F_is_row K g) []) (h_is_whole : FnD P w K mg base 1 "is_whole" (F_is_whole K g) []) (F0 : FunD K "is_demand" "is_demand" (defArgs st_is_demand) (defBody st_is_demand) (defScope st_is_demand) [] [] f fd) : FnOk P w K mg base (L2.CX P w) 2 f fd ps_is_demand (spD K (F_is_demand K g)) :=
  fn_ok F0 sc_is_demand (fun ds S Q E h => by unfold F_is_demand at h; (try unfold RunF at h); (try unfold F_tupN at h); (repeat (obtain ⟨_, h⟩ := h)) <;> (try subst_vars) <;> rfl) (der_is_demand fx h_is_row h_is_whole) (dat_is_demand K g)
theorem ok_check_demands {P : Program} {w : World} {K : PySem.W.Frag} {mg : Str → Option Value} {base : Heap} {g : Str → Addr} {f : Addr} {fd : FuncData} (fx : Fx P w K mg base g) (h_is_demand : FnD P w K mg base 2 "is_demand" (F_is_demand K g) []) (h_is_row : FnD P w K mg base 1 "is_row" (F_is_row K g) []) (h_is_whole : FnD P w K mg base 1 "is_whole" (F_is_whole K g) []) (F0 : FunD K "check_demands" "check_demands" (defArgs st_check_demands) (defBody st_check_demands) (defScope st_check_demands) [] [] f fd) : FnOk P w K mg base (L2.CX P w) 3 f fd ps_check_demands (spD K (F_check_demands K g)) :=
  fn_ok F0 sc_check_demands (fun ds S Q E h => by unfold F_check_demands at h; (try unfold RunF at h); (try unfold F_tupN at h); (repeat (obtain ⟨_, h⟩ := h)) <;> (try subst_vars) <;> rfl) (der_check_demands fx h_is_demand h_is_row h_is_whole) (dat_check_demands K g)
theorem ok_asked_number {P : Program} {w : World} {K : PySem.W.Frag} {mg : Str → Option Value} {base : Heap} {g : Str → Addr} {f : Addr} {fd : FuncData} (fx : Fx P w K mg base g) (F0 : FunD K "asked_number" "asked_number" (defArgs st_asked_number) (defBody st_asked_number) (defScope st_asked_number) [] [] f fd) : FnOk P w K mg base (L2.CX P w) 1 f fd ps_asked_number (spD K (F_asked_number K g)) :=
  fn_ok F0 sc_asked_number (fun ds S Q E h => by unfold F_asked_number at h; (try unfold RunF at h); (try unfold F_tupN at h); (repeat (obtain ⟨_, h⟩ := h)) <;> (try subst_vars) <;> rfl) (der_asked_number fx) (dat_asked_number K g)
theorem ok_greatest_roots {P : Program} {w : World} {K : PySem.W.Frag} {mg : Str → Option Value} {base : Heap} {g : Str → Addr} {f : Addr} {fd : FuncData} (fx : Fx P w K mg base g) (F0 : FunD K "greatest_roots" "greatest_roots" (defArgs st_greatest_roots) (defBody st_greatest_roots) (defScope st_greatest_roots) [] [] f fd) : FnOk P w K mg base (L2.CX P w) 1 f fd ps_greatest_roots (spD K (F_greatest_roots K g)) :=
  fn_ok F0 sc_greatest_roots (fun ds S Q E h => by unfold F_greatest_roots at h; (try unfold RunF at h); (try unfold F_tupN at h); (repeat (obtain ⟨_, h⟩ := h)) <;> (try subst_vars) <;> rfl) (der_greatest_roots fx) (dat_greatest_roots K g)
theorem ok_ring_behind {P : Program} {w : World} {K : PySem.W.Frag} {mg : Str → Option Value} {base : Heap} {g : Str → Addr} {f : Addr} {fd : FuncData} (fx : Fx P w K mg base g) (F0 : FunD K "ring_behind" "ring_behind" (defArgs st_ring_behind) (defBody st_ring_behind) (defScope st_ring_behind) [] [] f fd) : FnOk P w K mg base (L2.CX P w) 1 f fd ps_ring_behind (spD K (F_ring_behind K g)) :=
  fn_ok F0 sc_ring_behind (fun ds S Q E h => by unfold F_ring_behind at h; (try unfold RunF at h); (try unfold F_tupN at h); (repeat (obtain ⟨_, h⟩ := h)) <;> (try subst_vars) <;> rfl) (der_ring_behind fx) (dat_ring_behind K g)
theorem ok_Least__init {P : Program} {w : World} {K : PySem.W.Frag} {mg : Str → Option Value} {base : Heap} {g : Str → Addr} {f : Addr} {fd : FuncData} (fx : Fx P w K mg base g) (F0 : FunD K "__init__" "Least.__init__" (defArgs st_Least__init) (defBody st_Least__init) (defScope st_Least__init) [] [] f fd) : FnOk P w K mg base (L2.CX P w) 1 f fd ps_Least__init (spD K (F_Least__init K g)) :=
  fn_ok F0 sc_Least__init (fun ds S Q E h => by unfold F_Least__init at h; (try unfold RunF at h); (try unfold F_tupN at h); (repeat (obtain ⟨_, h⟩ := h)) <;> (try subst_vars) <;> rfl) (der_Least__init fx) (dat_Least__init K g)
theorem ok_DemandRing__init {P : Program} {w : World} {K : PySem.W.Frag} {mg : Str → Option Value} {base : Heap} {g : Str → Addr} {f : Addr} {fd : FuncData} (fx : Fx P w K mg base g) (F0 : FunD K "__init__" "DemandRing.__init__" (defArgs st_DemandRing__init) (defBody st_DemandRing__init) (defScope st_DemandRing__init) [] [] f fd) : FnOk P w K mg base (L2.CX P w) 1 f fd ps_DemandRing__init (spD K (F_DemandRing__init K g)) :=
  fn_ok F0 sc_DemandRing__init (fun ds S Q E h => by unfold F_DemandRing__init at h; (try unfold RunF at h); (try unfold F_tupN at h); (repeat (obtain ⟨_, h⟩ := h)) <;> (try subst_vars) <;> rfl) (der_DemandRing__init fx) (dat_DemandRing__init K g)
theorem ok_least_numbers {P : Program} {w : World} {K : PySem.W.Frag} {mg : Str → Option Value} {base : Heap} {g : Str → Addr} {f : Addr} {fd : FuncData} (fx : Fx P w K mg base g) (h_DemandRing__init : MkD P w K mg base 1 "DemandRing" (g "DemandRing") (F_DemandRing__init K g) []) (h_Least__init : MkD P w K mg base 1 "Least" (g "Least") (F_Least__init K g) []) (h_asked_number : FnD P w K mg base 1 "asked_number" (F_asked_number K g) []) (h_check_demands : FnD P w K mg base 3 "check_demands" (F_check_demands K g) []) (h_greatest_roots : FnD P w K mg base 1 "greatest_roots" (F_greatest_roots K g) []) (h_ring_behind : FnD P w K mg base 1 "ring_behind" (F_ring_behind K g) []) (F0 : FunD K "least_numbers" "least_numbers" (defArgs st_least_numbers) (defBody st_least_numbers) (defScope st_least_numbers) [] [] f fd) : FnOk P w K mg base (L2.CX P w) 4 f fd ps_least_numbers (spD K (F_least_numbers K g)) :=
  fn_ok F0 sc_least_numbers (fun ds S Q E h => by unfold F_least_numbers at h; (try unfold RunF at h); (try unfold F_tupN at h); (repeat (obtain ⟨_, h⟩ := h)) <;> (try subst_vars) <;> rfl) (der_least_numbers fx h_DemandRing__init h_Least__init h_asked_number h_check_demands h_greatest_roots h_ring_behind) (dat_least_numbers K g)
theorem ok_is_number_row {P : Program} {w : World} {K : PySem.W.Frag} {mg : Str → Option Value} {base : Heap} {g : Str → Addr} {f : Addr} {fd : FuncData} (fx : Fx P w K mg base g) (F0 : FunD K "is_number_row" "is_number_row" (defArgs st_is_number_row) (defBody st_is_number_row) (defScope st_is_number_row) [] [] f fd) : FnOk P w K mg base (L2.CX P w) 1 f fd ps_is_number_row (spD K (F_is_number_row K g)) :=
  fn_ok F0 sc_is_number_row (fun ds S Q E h => by unfold F_is_number_row at h; (try unfold RunF at h); (try unfold F_tupN at h); (repeat (obtain ⟨_, h⟩ := h)) <;> (try subst_vars) <;> rfl) (der_is_number_row fx) (dat_is_number_row K g)
theorem ok_least_fault {P : Program} {w : World} {K : PySem.W.Frag} {mg : Str → Option Value} {base : Heap} {g : Str → Addr} {f : Addr} {fd : FuncData} (fx : Fx P w K mg base g) (h_asked_number : FnD P w K mg base 1 "asked_number" (F_asked_number K g) []) (h_check_demands : FnD P w K mg base 3 "check_demands" (F_check_demands K g) []) (h_is_number_row : FnD P w K mg base 1 "is_number_row" (F_is_number_row K g) []) (F0 : FunD K "least_fault" "least_fault" (defArgs st_least_fault) (defBody st_least_fault) (defScope st_least_fault) [] [] f fd) : FnOk P w K mg base (L2.CX P w) 4 f fd ps_least_fault (spD K (F_least_fault K g)) :=
  fn_ok F0 sc_least_fault (fun ds S Q E h => by unfold F_least_fault at h; (try unfold RunF at h); (try unfold F_tupN at h); (repeat (obtain ⟨_, h⟩ := h)) <;> (try subst_vars) <;> rfl) (der_least_fault fx h_asked_number h_check_demands h_is_number_row) (dat_least_fault K g)
theorem ok_ring_fault {P : Program} {w : World} {K : PySem.W.Frag} {mg : Str → Option Value} {base : Heap} {g : Str → Addr} {f : Addr} {fd : FuncData} (fx : Fx P w K mg base g) (h_check_demands : FnD P w K mg base 3 "check_demands" (F_check_demands K g) []) (h_is_number_row : FnD P w K mg base 1 "is_number_row" (F_is_number_row K g) []) (F0 : FunD K "ring_fault" "ring_fault" (defArgs st_ring_fault) (defBody st_ring_fault) (defScope st_ring_fault) [] [] f fd) : FnOk P w K mg base (L2.CX P w) 4 f fd ps_ring_fault (spD K (F_ring_fault K g)) :=
  fn_ok F0 sc_ring_fault (fun ds S Q E h => by unfold F_ring_fault at h; (try unfold RunF at h); (try unfold F_tupN at h); (repeat (obtain ⟨_, h⟩ := h)) <;> (try subst_vars) <;> rfl) (der_ring_fault fx h_check_demands h_is_number_row) (dat_ring_fault K g)
theorem ok_law_hand {P : Program} {w : World} {K : PySem.W.Frag} {mg : Str → Option Value} {base : Heap} {g : Str → Addr} {f : Addr} {fd : FuncData} (fx : Fx P w K mg base g) (F0 : FunD K "_law_hand" "_law_hand" (defArgs st_law_hand) (defBody st_law_hand) (defScope st_law_hand) [] [] f fd) : FnOk P w K mg base (L2.CX P w) 1 f fd ps_law_hand (spD K (F_law_hand K g)) :=
  fn_ok F0 sc_law_hand (fun ds S Q E h => by unfold F_law_hand at h; (try unfold RunF at h); (try unfold F_tupN at h); (repeat (obtain ⟨_, h⟩ := h)) <;> (try subst_vars) <;> rfl) (der_law_hand fx) (dat_law_hand K g)
theorem ok_law_mixed {P : Program} {w : World} {K : PySem.W.Frag} {mg : Str → Option Value} {base : Heap} {g : Str → Addr} {f : Addr} {fd : FuncData} (fx : Fx P w K mg base g) (F0 : FunD K "_law_mixed" "_law_mixed" (defArgs st_law_mixed) (defBody st_law_mixed) (defScope st_law_mixed) [] [] f fd) : FnOk P w K mg base (L2.CX P w) 1 f fd ps_law_mixed (spD K (F_law_mixed K g)) :=
  fn_ok F0 sc_law_mixed (fun ds S Q E h => by unfold F_law_mixed at h; (try unfold RunF at h); (try unfold F_tupN at h); (repeat (obtain ⟨_, h⟩ := h)) <;> (try subst_vars) <;> rfl) (der_law_mixed fx) (dat_law_mixed K g)
theorem ok_law_take {P : Program} {w : World} {K : PySem.W.Frag} {mg : Str → Option Value} {base : Heap} {g : Str → Addr} {f : Addr} {fd : FuncData} (fx : Fx P w K mg base g) (h_law_mixed : FnD P w K mg base 1 "_law_mixed" (F_law_mixed K g) []) (F0 : FunD K "_law_take" "_law_take" (defArgs st_law_take) (defBody st_law_take) (defScope st_law_take) [] [] f fd) : FnOk P w K mg base (L2.CX P w) 2 f fd ps_law_take (spD K (F_law_take K g)) :=
  fn_ok F0 sc_law_take (fun ds S Q E h => by unfold F_law_take at h; (try unfold RunF at h); (try unfold F_tupN at h); (repeat (obtain ⟨_, h⟩ := h)) <;> (try subst_vars) <;> rfl) (der_law_take fx h_law_mixed) (dat_law_take K g)
theorem ok_law_lists {P : Program} {w : World} {K : PySem.W.Frag} {mg : Str → Option Value} {base : Heap} {g : Str → Addr} {f : Addr} {fd : FuncData} (fx : Fx P w K mg base g) (h_law_take : FnD P w K mg base 2 "_law_take" (F_law_take K g) []) (F0 : FunD K "_law_lists" "_law_lists" (defArgs st_law_lists) (defBody st_law_lists) (defScope st_law_lists) [] [] f fd) : FnOk P w K mg base (L2.CX P w) 3 f fd ps_law_lists (spD K (F_law_lists K g)) :=
  fn_ok F0 sc_law_lists (fun ds S Q E h => by unfold F_law_lists at h; (try unfold RunF at h); (try unfold F_tupN at h); (repeat (obtain ⟨_, h⟩ := h)) <;> (try subst_vars) <;> rfl) (der_law_lists fx h_law_take) (dat_law_lists K g)
theorem ok_law_row_of {P : Program} {w : World} {K : PySem.W.Frag} {mg : Str → Option Value} {base : Heap} {g : Str → Addr} {f : Addr} {fd : FuncData} (fx : Fx P w K mg base g) (F0 : FunD K "_law_row_of" "_law_row_of" (defArgs st_law_row_of) (defBody st_law_row_of) (defScope st_law_row_of) [] [] f fd) : FnOk P w K mg base (L2.CX P w) 1 f fd ps_law_row_of (spD K (F_law_row_of K g)) :=
  fn_ok F0 sc_law_row_of (fun ds S Q E h => by unfold F_law_row_of at h; (try unfold RunF at h); (try unfold F_tupN at h); (repeat (obtain ⟨_, h⟩ := h)) <;> (try subst_vars) <;> rfl) (der_law_row_of fx) (dat_law_row_of K g)
theorem ok_law_system {P : Program} {w : World} {K : PySem.W.Frag} {mg : Str → Option Value} {base : Heap} {g : Str → Addr} {f : Addr} {fd : FuncData} (fx : Fx P w K mg base g) (h_law_take : FnD P w K mg base 2 "_law_take" (F_law_take K g) []) (F0 : FunD K "_law_system" "_law_system" (defArgs st_law_system) (defBody st_law_system) (defScope st_law_system) [] [] f fd) : FnOk P w K mg base (L2.CX P w) 3 f fd ps_law_system (spD K (F_law_system K g)) :=
  fn_ok F0 sc_law_system (fun ds S Q E h => by unfold F_law_system at h; (try unfold RunF at h); (try unfold F_tupN at h); (repeat (obtain ⟨_, h⟩ := h)) <;> (try subst_vars) <;> rfl) (der_law_system fx h_law_take) (dat_law_system K g)
theorem ok_law_claimed {P : Program} {w : World} {K : PySem.W.Frag} {mg : Str → Option Value} {base : Heap} {g : Str → Addr} {f : Addr} {fd : FuncData} (fx : Fx P w K mg base g) (F0 : FunD K "_law_claimed" "_law_claimed" (defArgs st_law_claimed) (defBody st_law_claimed) (defScope st_law_claimed) [] [] f fd) : FnOk P w K mg base (L2.CX P w) 1 f fd ps_law_claimed (spD K (F_law_claimed K g)) :=
  fn_ok F0 sc_law_claimed (fun ds S Q E h => by unfold F_law_claimed at h; (try unfold RunF at h); (try unfold F_tupN at h); (repeat (obtain ⟨_, h⟩ := h)) <;> (try subst_vars) <;> rfl) (der_law_claimed fx) (dat_law_claimed K g)
theorem ok_law_least_word {P : Program} {w : World} {K : PySem.W.Frag} {mg : Str → Option Value} {base : Heap} {g : Str → Addr} {f : Addr} {fd : FuncData} (fx : Fx P w K mg base g) (h_law_claimed : FnD P w K mg base 1 "_law_claimed" (F_law_claimed K g) []) (h_law_row_of : FnD P w K mg base 1 "_law_row_of" (F_law_row_of K g) []) (F0 : FunD K "_law_least_word" "_law_least_word" (defArgs st_law_least_word) (defBody st_law_least_word) (defScope st_law_least_word) [] [] f fd) : FnOk P w K mg base (L2.CX P w) 2 f fd ps_law_least_word (spD K (F_law_least_word K g)) :=
  fn_ok F0 sc_law_least_word (fun ds S Q E h => by unfold F_law_least_word at h; (try unfold RunF at h); (try unfold F_tupN at h); (repeat (obtain ⟨_, h⟩ := h)) <;> (try subst_vars) <;> rfl) (der_law_least_word fx h_law_claimed h_law_row_of) (dat_law_least_word K g)
theorem ok_law_ring_word {P : Program} {w : World} {K : PySem.W.Frag} {mg : Str → Option Value} {base : Heap} {g : Str → Addr} {f : Addr} {fd : FuncData} (fx : Fx P w K mg base g) (h_law_row_of : FnD P w K mg base 1 "_law_row_of" (F_law_row_of K g) []) (F0 : FunD K "_law_ring_word" "_law_ring_word" (defArgs st_law_ring_word) (defBody st_law_ring_word) (defScope st_law_ring_word) [] [] f fd) : FnOk P w K mg base (L2.CX P w) 2 f fd ps_law_ring_word (spD K (F_law_ring_word K g)) :=
  fn_ok F0 sc_law_ring_word (fun ds S Q E h => by unfold F_law_ring_word at h; (try unfold RunF at h); (try unfold F_tupN at h); (repeat (obtain ⟨_, h⟩ := h)) <;> (try subst_vars) <;> rfl) (der_law_ring_word fx h_law_row_of) (dat_law_ring_word K g)
theorem ok_law {P : Program} {w : World} {K : PySem.W.Frag} {mg : Str → Option Value} {base : Heap} {g : Str → Addr} {f : Addr} {fd : FuncData} (fx : Fx P w K mg base g) (h_law_hand : FnD P w K mg base 1 "_law_hand" (F_law_hand K g) []) (h_law_least_word : FnD P w K mg base 2 "_law_least_word" (F_law_least_word K g) []) (h_law_lists : FnD P w K mg base 3 "_law_lists" (F_law_lists K g) []) (h_law_ring_word : FnD P w K mg base 2 "_law_ring_word" (F_law_ring_word K g) []) (h_law_system : FnD P w K mg base 3 "_law_system" (F_law_system K g) []) (h_check_demands : FnD P w K mg base 3 "check_demands" (F_check_demands K g) []) (h_least_fault : FnD P w K mg base 4 "least_fault" (F_least_fault K g) []) (h_least_numbers : FnD P w K mg base 4 "least_numbers" (F_least_numbers K g) []) (h_ring_fault : FnD P w K mg base 4 "ring_fault" (F_ring_fault K g) []) (F0 : FunD K "law" "law" (defArgs st_law) (defBody st_law) (defScope st_law) [] [] f fd) : FnG P w K mg base (L2.CX P w) 5 f fd ps_law (spD K (F_law K g)) :=
  fng_ok F0 sc_law (fun ds S Q E h => by unfold F_law at h; (try unfold RunF at h); (try unfold F_tupN at h); (repeat (obtain ⟨_, h⟩ := h)) <;> (try subst_vars) <;> rfl) (der_law fx h_law_hand h_law_least_word h_law_lists h_law_ring_word h_law_system h_check_demands h_least_fault h_least_numbers h_ring_fault) (dat_law K g fx.ins_Least fx.ins_DemandRing fx.kit_DD fx.kit_LD fx.kit_LL)
abbrev st_BadDemands__init : Stmt := inClass (top 2) 0
theorem sc_BadDemands__init : FnScope ["self", "what", "index"] ["self", "what", "index"] (defScope st_BadDemands__init) := ⟨rfl, rfl, rfl, by decide +kernel, rfl, by decide +kernel, by decide +kernel⟩
theorem ok_BadDemands__init {P : Program} {w : World} {K : PySem.W.Frag} {mg : Str → Option Value} {base : Heap} {C f : Addr} {fd : FuncData} (T : OexC K C) (n0 : PySem.W.findIn K (.ref C) "what" = some none) (n1 : PySem.W.findIn K (.ref C) "index" = some none) (F0 : FunD K "__init__" "BadDemands.__init__" (defArgs st_BadDemands__init) (defBody st_BadDemands__init) (defScope st_BadDemands__init) [] [] f fd) : FnOk P w K mg base (L2.CX P w) 1 f fd ["self", "what", "index"] (spX C ["what", "index"]) := by
  refine F0.ok sc_BadDemands__init (fun vs H Q E h => ?_) fun cdv A outer s H vs Q E hr h => ?_
  · obtain ⟨a, ws, rfl, hl, _⟩ := h
    rw [List.length_cons, hl]; rfl
  · obtain ⟨a, ws, rfl, hl, ha, hq⟩ := h
    obtain ⟨x0, x1, rfl⟩ : ∃ x0 x1, ws = [x0, x1] := by
      match ws, hl with
      | [x0, x1], _ => exact ⟨x0, x1, rfl⟩
    refine ⟨tSeq (tOst K "what" (tVar 0) (tVar 1)) (tOst K "index" (tVar 0) (tVar 2)), pss_cons (ps_ost (pv 0) (pv 1)) (pss_one (ps_ost (pv 0) (pv 2))), x0, rfl, .ref a, rfl, a, C, rfl, T, n0, .inl ⟨ha, fun dx h1 h2 => ?_⟩⟩
    refine ⟨x1, rfl, .ref a, rfl, a, C, rfl, T, n1, .inr ⟨dx, [("what", x0)], upd_same, by rw [upd_ne h2, upd_same], by simp, hq dx _ h1 h2 (fun b o e hb => ?_) (by rw [upd_ne (fun z => h2 z.symm), upd_same]) (by rw [upd_same]; rfl)⟩⟩
    rw [upd_ne (ne_of_none e h1), upd_ne hb, upd_ne (ne_of_none e h1)]; exact e
def dd0 : He.DefD := ⟨("is_whole", none), "is_whole", "is_whole", defArgs st_is_whole, defBody st_is_whole, defScope st_is_whole, [], []⟩
def dd1 : He.DefD := ⟨("is_row", none), "is_row", "is_row", defArgs st_is_row, defBody st_is_row, defScope st_is_row, [], []⟩
def dd2 : He.DefD := ⟨("is_demand", none), "is_demand", "is_demand", defArgs st_is_demand, defBody st_is_demand, defScope st_is_demand, [], []⟩
def dd3 : He.DefD := ⟨("check_demands", none), "check_demands", "check_demands", defArgs st_check_demands, defBody st_check_demands, defScope st_check_demands, [], []⟩
def dd4 : He.DefD := ⟨("asked_number", none), "asked_number", "asked_number", defArgs st_asked_number, defBody st_asked_number, defScope st_asked_number, [], []⟩
def dd5 : He.DefD := ⟨("greatest_roots", none), "greatest_roots", "greatest_roots", defArgs st_greatest_roots, defBody st_greatest_roots, defScope st_greatest_roots, [], []⟩
def dd6 : He.DefD := ⟨("ring_behind", none), "ring_behind", "ring_behind", defArgs st_ring_behind, defBody st_ring_behind, defScope st_ring_behind, [], []⟩
def dd7 : He.DefD := ⟨("Least", some "__init__"), "__init__", "Least.__init__", defArgs st_Least__init, defBody st_Least__init, defScope st_Least__init, [], []⟩
def dd8 : He.DefD := ⟨("DemandRing", some "__init__"), "__init__", "DemandRing.__init__", defArgs st_DemandRing__init, defBody st_DemandRing__init, defScope st_DemandRing__init, [], []⟩
def dd9 : He.DefD := ⟨("least_numbers", none), "least_numbers", "least_numbers", defArgs st_least_numbers, defBody st_least_numbers, defScope st_least_numbers, [], []⟩
def dd10 : He.DefD := ⟨("is_number_row", none), "is_number_row", "is_number_row", defArgs st_is_number_row, defBody st_is_number_row, defScope st_is_number_row, [], []⟩
def dd11 : He.DefD := ⟨("least_fault", none), "least_fault", "least_fault", defArgs st_least_fault, defBody st_least_fault, defScope st_least_fault, [], []⟩
def dd12 : He.DefD := ⟨("ring_fault", none), "ring_fault", "ring_fault", defArgs st_ring_fault, defBody st_ring_fault, defScope st_ring_fault, [], []⟩
def dd13 : He.DefD := ⟨("_law_hand", none), "_law_hand", "_law_hand", defArgs st_law_hand, defBody st_law_hand, defScope st_law_hand, [], []⟩
def dd14 : He.DefD := ⟨("_law_mixed", none), "_law_mixed", "_law_mixed", defArgs st_law_mixed, defBody st_law_mixed, defScope st_law_mixed, [], []⟩
def dd15 : He.DefD := ⟨("_law_take", none), "_law_take", "_law_take", defArgs st_law_take, defBody st_law_take, defScope st_law_take, [], []⟩
def dd16 : He.DefD := ⟨("_law_lists", none), "_law_lists", "_law_lists", defArgs st_law_lists, defBody st_law_lists, defScope st_law_lists, [], []⟩
def dd17 : He.DefD := ⟨("_law_row_of", none), "_law_row_of", "_law_row_of", defArgs st_law_row_of, defBody st_law_row_of, defScope st_law_row_of, [], []⟩
def dd18 : He.DefD := ⟨("_law_system", none), "_law_system", "_law_system", defArgs st_law_system, defBody st_law_system, defScope st_law_system, [], []⟩
def dd19 : He.DefD := ⟨("_law_claimed", none), "_law_claimed", "_law_claimed", defArgs st_law_claimed, defBody st_law_claimed, defScope st_law_claimed, [], []⟩
def dd20 : He.DefD := ⟨("_law_least_word", none), "_law_least_word", "_law_least_word", defArgs st_law_least_word, defBody st_law_least_word, defScope st_law_least_word, [], []⟩
def dd21 : He.DefD := ⟨("_law_ring_word", none), "_law_ring_word", "_law_ring_word", defArgs st_law_ring_word, defBody st_law_ring_word, defScope st_law_ring_word, [], []⟩
def dd22 : He.DefD := ⟨("law", none), "law", "law", defArgs st_law, defBody st_law, defScope st_law, [], []⟩
def dd23 : He.DefD := ⟨("BadDemands", some "__init__"), "__init__", "BadDemands.__init__", defArgs st_BadDemands__init, defBody st_BadDemands__init, defScope st_BadDemands__init, [], []⟩
def hfn : List He.DefD := [dd0, dd1, dd2, dd3, dd4, dd5, dd6, dd7, dd8, dd9, dd10, dd11, dd12, dd13, dd14, dd15, dd16, dd17, dd18, dd19, dd20, dd21, dd22, dd23]
def hfa : List He.Fa := [.glo "is_whole", .glo "is_row", .glo "is_demand", .glo "check_demands", .glo "asked_number", .glo "greatest_roots", .glo "ring_behind", .glo "least_numbers", .glo "is_number_row", .glo "least_fault", .glo "ring_fault", .glo "_law_hand", .glo "_law_mixed", .glo "_law_take", .glo "_law_lists", .glo "_law_row_of", .glo "_law_system", .glo "_law_claimed", .glo "_law_least_word", .glo "_law_ring_word", .glo "law", .cls "DemandRing", .cls "Least", .glo "BadDemands", .meth "BadDemands" "__init__", .noat "BadDemands" "what", .noat "BadDemands" "index", .glo "DemandRing", .glo "Least", .free "abs", .free "all", .free "bool", .free "enumerate", .free "int", .free "isinstance", .free "len", .free "list", .free "range", .free "repr", .free "reversed", .free "sum", .free "tuple", .noat "DemandRing" "indexes", .noat "Least" "numbers", .noat "Least" "reasons", .mkr "DemandRing", .mkr "Least"]
def hex : PySem.W.Frag → Bool := fun K => oexB K (He.ga K "BadDemands") && insB K (He.ga K "DemandRing") && insB K (He.ga K "Least") && kitCB K (He.ga K "DemandRing") (He.ga K "DemandRing") true && kitCB K (He.ga K "Least") (He.ga K "DemandRing") false && kitCB K (He.ga K "Least") (He.ga K "Least") true
abbrev hR : PySem.W.OpenRow := PySem.W.OpenLaw.row PySem.Challenge.rw_purseahead_k16_whole_least_numbers_or_a
abbrev hhk : PySem.W.Hook := He.hookX 4 hfa hfn [] [] hex
def hob (s : PySem.W.SharedT) : He.AlX := He.obsX 4 hfa hfn [] [] hex (HandSHeadRun.getT s)
theorem hob_eq (s : PySem.W.SharedT) : hob s = hhk.obs s.abs := He.obsX_eq (HandSHeadRun.getT_eq s)
def hloose : List Str := ["MeterError", "ValueError", "BadDemands", "is_whole", "is_row", "is_demand", "check_demands", "asked_number", "greatest_roots", "ring_behind", "least_numbers", "is_number_row", "least_fault", "ring_fault", "Least", "DemandRing", "_law_hand", "_law_mixed", "_law_take", "_law_lists", "_law_row_of", "_law_system", "_law_claimed", "_law_least_word", "_law_ring_word"]
theorem hrun (w : World) : HandSHeadRun.RunEq hR (PySem.W.view hR.prog [28]) hhk hob 20000 hloose w := by
  intro os
  kernel_rfl
theorem facts {P : Program} {w : World} {K : PySem.W.Frag} {h : Heap} {mg : Str → Option Value} {f : Addr} (X : K.In h) (G : h.Ns mainGlobals mg) (hfa0 : mg ("law" : Str) = some (.ref f)) (cX : He.SaysX hfa hfn [] [] hex w h K) :
    ∃ fd : FuncData, (∀ (s : Shared) (v : Value), BindsTo s fd ⟨[v], []⟩ [("_law_script", v)]) ∧ ∀ base : Heap, K.In base → base.Ns mainGlobals mg → FnG P w K mg base CXE 5 f fd ["_law_script"] (spD K (F_law K (He.ga K))) := by
  have c : He.SaysD hfa hfn K := cX.t.d
  have hx := cX.more
  unfold hex at hx
  simp only [Bool.and_eq_true] at hx
  obtain ⟨⟨⟨⟨⟨hx0, hx1⟩, hx2⟩, hx3⟩, hx4⟩, hx5⟩ := hx
  obtain ⟨fd0, F0⟩ := c.def_ 0 (d := dd0) (by rfl)
  obtain ⟨fd1, F1⟩ := c.def_ 1 (d := dd1) (by rfl)
  obtain ⟨fd2, F2⟩ := c.def_ 2 (d := dd2) (by rfl)
  obtain ⟨fd3, F3⟩ := c.def_ 3 (d := dd3) (by rfl)
  obtain ⟨fd4, F4⟩ := c.def_ 4 (d := dd4) (by rfl)
  obtain ⟨fd5, F5⟩ := c.def_ 5 (d := dd5) (by rfl)
  obtain ⟨fd6, F6⟩ := c.def_ 6 (d := dd6) (by rfl)
  obtain ⟨fd7, F7⟩ := c.def_ 7 (d := dd7) (by rfl)
  obtain ⟨fd8, F8⟩ := c.def_ 8 (d := dd8) (by rfl)
  obtain ⟨fd9, F9⟩ := c.def_ 9 (d := dd9) (by rfl)
  obtain ⟨fd10, F10⟩ := c.def_ 10 (d := dd10) (by rfl)
  obtain ⟨fd11, F11⟩ := c.def_ 11 (d := dd11) (by rfl)
  obtain ⟨fd12, F12⟩ := c.def_ 12 (d := dd12) (by rfl)
  obtain ⟨fd13, F13⟩ := c.def_ 13 (d := dd13) (by rfl)
  obtain ⟨fd14, F14⟩ := c.def_ 14 (d := dd14) (by rfl)
  obtain ⟨fd15, F15⟩ := c.def_ 15 (d := dd15) (by rfl)
  obtain ⟨fd16, F16⟩ := c.def_ 16 (d := dd16) (by rfl)
  obtain ⟨fd17, F17⟩ := c.def_ 17 (d := dd17) (by rfl)
  obtain ⟨fd18, F18⟩ := c.def_ 18 (d := dd18) (by rfl)
  obtain ⟨fd19, F19⟩ := c.def_ 19 (d := dd19) (by rfl)
  obtain ⟨fd20, F20⟩ := c.def_ 20 (d := dd20) (by rfl)
  obtain ⟨fd21, F21⟩ := c.def_ 21 (d := dd21) (by rfl)
  obtain ⟨fd22, F22⟩ := c.def_ 22 (d := dd22) (by rfl)
  obtain ⟨fd23, F23⟩ := c.def_ 23 (d := dd23) (by rfl)
  have e := hfa0.symm.trans (He.glo_ok X G (c.fact 20 (f := .glo "law") (by rfl)))
  cases e
  have b := FunD.bindsA (ps := ["_law_script"]) F22 fun _ _ _ _ _ _ us hl => match us, hl with | [_], _ => rfl
  refine ⟨fd22, fun s v => b s [v] rfl, fun base _ _ => ?_⟩
  have fx : Fx P w K mg base (He.ga K) := ⟨He.cls_ok (c.fact 21 (f := .cls "DemandRing") (by rfl)),
    He.cls_ok (c.fact 22 (f := .cls "Least") (by rfl)),
    ⟨_, _, _, oexB_ok hx0, (He.meth_ok (c.fact 24 (f := .meth "BadDemands" "__init__") (by rfl))).at_, beq_iff_eq.mp (He.meth_ok (c.fact 24 (f := .meth "BadDemands" "__init__") (by rfl))).fn, ok_BadDemands__init (oexB_ok hx0) (He.noat_ok (c.fact 25 (f := .noat "BadDemands" "what") (by rfl))) (He.noat_ok (c.fact 26 (f := .noat "BadDemands" "index") (by rfl))) F23, FunD.bindsN F23 fun _ _ _ _ _ _ us hl => match us, hl with | [_, _, _], _ => rfl, He.glo_ok X G (c.fact 23 (f := .glo "BadDemands") (by rfl))⟩,
    He.glo_ok X G (c.fact 27 (f := .glo "DemandRing") (by rfl)),
    He.glo_ok X G (c.fact 28 (f := .glo "Least") (by rfl)),
    insB_ok (He.cls_ok (c.fact 21 (f := .cls "DemandRing") (by rfl))) hx1,
    insB_ok (He.cls_ok (c.fact 22 (f := .cls "Least") (by rfl))) hx2,
    kitCB_ok hx3,
    kitCB_ok hx4,
    kitCB_ok hx5,
    He.free_ok X G (c.fact 29 (f := .free "abs") (by rfl)),
    He.free_ok X G (c.fact 30 (f := .free "all") (by rfl)),
    He.free_ok X G (c.fact 31 (f := .free "bool") (by rfl)),
    He.free_ok X G (c.fact 32 (f := .free "enumerate") (by rfl)),
    He.free_ok X G (c.fact 33 (f := .free "int") (by rfl)),
    He.free_ok X G (c.fact 34 (f := .free "isinstance") (by rfl)),
    He.free_ok X G (c.fact 35 (f := .free "len") (by rfl)),
    He.free_ok X G (c.fact 36 (f := .free "list") (by rfl)),
    He.free_ok X G (c.fact 37 (f := .free "range") (by rfl)),
    He.free_ok X G (c.fact 38 (f := .free "repr") (by rfl)),
    He.free_ok X G (c.fact 39 (f := .free "reversed") (by rfl)),
    He.free_ok X G (c.fact 40 (f := .free "sum") (by rfl)),
    He.free_ok X G (c.fact 41 (f := .free "tuple") (by rfl)),
    He.noat_ok (c.fact 42 (f := .noat "DemandRing" "indexes") (by rfl)),
    He.noat_ok (c.fact 43 (f := .noat "Least" "numbers") (by rfl)),
    He.noat_ok (c.fact 44 (f := .noat "Least" "reasons") (by rfl))⟩
  have h_is_whole : FnD P w K mg base 1 "is_whole" (F_is_whole K (He.ga K)) [] := FnOk.fnD (ok_is_whole fx F0) (He.glo_ok X G (c.fact 0 (f := .glo "is_whole") (by rfl))) F0.kp (FunD.bindsN (ps := ps_is_whole) F0 fun _ _ _ _ _ _ us hl => match us, hl with | [_, _, _], _ => rfl)
  have h_is_row : FnD P w K mg base 1 "is_row" (F_is_row K (He.ga K)) [] := FnOk.fnD (ok_is_row fx F1) (He.glo_ok X G (c.fact 1 (f := .glo "is_row") (by rfl))) F1.kp (FunD.bindsN (ps := ps_is_row) F1 fun _ _ _ _ _ _ us hl => match us, hl with | [_, _, _], _ => rfl)
  have h_is_demand : FnD P w K mg base 2 "is_demand" (F_is_demand K (He.ga K)) [] := FnOk.fnD (ok_is_demand fx h_is_row h_is_whole F2) (He.glo_ok X G (c.fact 2 (f := .glo "is_demand") (by rfl))) F2.kp (FunD.bindsN (ps := ps_is_demand) F2 fun _ _ _ _ _ _ us hl => match us, hl with | [_, _], _ => rfl)
  have h_check_demands : FnD P w K mg base 3 "check_demands" (F_check_demands K (He.ga K)) [] := FnOk.fnD (ok_check_demands fx h_is_demand h_is_row h_is_whole F3) (He.glo_ok X G (c.fact 3 (f := .glo "check_demands") (by rfl))) F3.kp (FunD.bindsN (ps := ps_check_demands) F3 fun _ _ _ _ _ _ us hl => match us, hl with | [_, _], _ => rfl)
  have h_asked_number : FnD P w K mg base 1 "asked_number" (F_asked_number K (He.ga K)) [] := FnOk.fnD (ok_asked_number fx F4) (He.glo_ok X G (c.fact 4 (f := .glo "asked_number") (by rfl))) F4.kp (FunD.bindsN (ps := ps_asked_number) F4 fun _ _ _ _ _ _ us hl => match us, hl with | [_, _], _ => rfl)
  have h_greatest_roots : FnD P w K mg base 1 "greatest_roots" (F_greatest_roots K (He.ga K)) [] := FnOk.fnD (ok_greatest_roots fx F5) (He.glo_ok X G (c.fact 5 (f := .glo "greatest_roots") (by rfl))) F5.kp (FunD.bindsN (ps := ps_greatest_roots) F5 fun _ _ _ _ _ _ us hl => match us, hl with | [_, _], _ => rfl)
  have h_ring_behind : FnD P w K mg base 1 "ring_behind" (F_ring_behind K (He.ga K)) [] := FnOk.fnD (ok_ring_behind fx F6) (He.glo_ok X G (c.fact 6 (f := .glo "ring_behind") (by rfl))) F6.kp (FunD.bindsN (ps := ps_ring_behind) F6 fun _ _ _ _ _ _ us hl => match us, hl with | [_, _, _, _], _ => rfl)
  have h_Least__init : MkD P w K mg base 1 "Least" (He.ga K "Least") (F_Least__init K (He.ga K)) [] := ⟨_, _, _, [], [], He.mkr_ok (c.fact 46 (f := .mkr "Least") (by rfl)), ok_Least__init fx F7, He.glo_ok X G (c.fact 28 (f := .glo "Least") (by rfl)), (FunD.bindsN (ps := ps_Least__init) F7 fun _ _ _ _ _ _ us hl => match us, hl with | [_, _, _], _ => rfl), .nil, fun _ => .nil⟩
  have h_DemandRing__init : MkD P w K mg base 1 "DemandRing" (He.ga K "DemandRing") (F_DemandRing__init K (He.ga K)) [] := ⟨_, _, _, [], [], He.mkr_ok (c.fact 45 (f := .mkr "DemandRing") (by rfl)), ok_DemandRing__init fx F8, He.glo_ok X G (c.fact 27 (f := .glo "DemandRing") (by rfl)), (FunD.bindsN (ps := ps_DemandRing__init) F8 fun _ _ _ _ _ _ us hl => match us, hl with | [_, _], _ => rfl), .nil, fun _ => .nil⟩
  have h_least_numbers : FnD P w K mg base 4 "least_numbers" (F_least_numbers K (He.ga K)) [] := FnOk.fnD (ok_least_numbers fx h_DemandRing__init h_Least__init h_asked_number h_check_demands h_greatest_roots h_ring_behind F9) (He.glo_ok X G (c.fact 7 (f := .glo "least_numbers") (by rfl))) F9.kp (FunD.bindsN (ps := ps_least_numbers) F9 fun _ _ _ _ _ _ us hl => match us, hl with | [_, _], _ => rfl)
  have h_is_number_row : FnD P w K mg base 1 "is_number_row" (F_is_number_row K (He.ga K)) [] := FnOk.fnD (ok_is_number_row fx F10) (He.glo_ok X G (c.fact 8 (f := .glo "is_number_row") (by rfl))) F10.kp (FunD.bindsN (ps := ps_is_number_row) F10 fun _ _ _ _ _ _ us hl => match us, hl with | [_, _], _ => rfl)
  have h_least_fault : FnD P w K mg base 4 "least_fault" (F_least_fault K (He.ga K)) [] := FnOk.fnD (ok_least_fault fx h_asked_number h_check_demands h_is_number_row F11) (He.glo_ok X G (c.fact 9 (f := .glo "least_fault") (by rfl))) F11.kp (FunD.bindsN (ps := ps_least_fault) F11 fun _ _ _ _ _ _ us hl => match us, hl with | [_, _, _], _ => rfl)
  have h_ring_fault : FnD P w K mg base 4 "ring_fault" (F_ring_fault K (He.ga K)) [] := FnOk.fnD (ok_ring_fault fx h_check_demands h_is_number_row F12) (He.glo_ok X G (c.fact 10 (f := .glo "ring_fault") (by rfl))) F12.kp (FunD.bindsN (ps := ps_ring_fault) F12 fun _ _ _ _ _ _ us hl => match us, hl with | [_, _, _], _ => rfl)
  have h_law_hand : FnD P w K mg base 1 "_law_hand" (F_law_hand K (He.ga K)) [] := FnOk.fnD (ok_law_hand fx F13) (He.glo_ok X G (c.fact 11 (f := .glo "_law_hand") (by rfl))) F13.kp (FunD.bindsN (ps := ps_law_hand) F13 fun _ _ _ _ _ _ us hl => match us, hl with | [_], _ => rfl)
  have h_law_mixed : FnD P w K mg base 1 "_law_mixed" (F_law_mixed K (He.ga K)) [] := FnOk.fnD (ok_law_mixed fx F14) (He.glo_ok X G (c.fact 12 (f := .glo "_law_mixed") (by rfl))) F14.kp (FunD.bindsN (ps := ps_law_mixed) F14 fun _ _ _ _ _ _ us hl => match us, hl with | [_, _], _ => rfl)
  have h_law_take : FnD P w K mg base 2 "_law_take" (F_law_take K (He.ga K)) [] := FnOk.fnD (ok_law_take fx h_law_mixed F15) (He.glo_ok X G (c.fact 13 (f := .glo "_law_take") (by rfl))) F15.kp (FunD.bindsN (ps := ps_law_take) F15 fun _ _ _ _ _ _ us hl => match us, hl with | [_, _], _ => rfl)
  have h_law_lists : FnD P w K mg base 3 "_law_lists" (F_law_lists K (He.ga K)) [] := FnOk.fnD (ok_law_lists fx h_law_take F16) (He.glo_ok X G (c.fact 14 (f := .glo "_law_lists") (by rfl))) F16.kp (FunD.bindsN (ps := ps_law_lists) F16 fun _ _ _ _ _ _ us hl => match us, hl with | [_, _], _ => rfl)
  have h_law_row_of : FnD P w K mg base 1 "_law_row_of" (F_law_row_of K (He.ga K)) [] := FnOk.fnD (ok_law_row_of fx F17) (He.glo_ok X G (c.fact 15 (f := .glo "_law_row_of") (by rfl))) F17.kp (FunD.bindsN (ps := ps_law_row_of) F17 fun _ _ _ _ _ _ us hl => match us, hl with | [_, _], _ => rfl)
  have h_law_system : FnD P w K mg base 3 "_law_system" (F_law_system K (He.ga K)) [] := FnOk.fnD (ok_law_system fx h_law_take F18) (He.glo_ok X G (c.fact 16 (f := .glo "_law_system") (by rfl))) F18.kp (FunD.bindsN (ps := ps_law_system) F18 fun _ _ _ _ _ _ us hl => match us, hl with | [_], _ => rfl)
  have h_law_claimed : FnD P w K mg base 1 "_law_claimed" (F_law_claimed K (He.ga K)) [] := FnOk.fnD (ok_law_claimed fx F19) (He.glo_ok X G (c.fact 17 (f := .glo "_law_claimed") (by rfl))) F19.kp (FunD.bindsN (ps := ps_law_claimed) F19 fun _ _ _ _ _ _ us hl => match us, hl with | [_, _], _ => rfl)
  have h_law_least_word : FnD P w K mg base 2 "_law_least_word" (F_law_least_word K (He.ga K)) [] := FnOk.fnD (ok_law_least_word fx h_law_claimed h_law_row_of F20) (He.glo_ok X G (c.fact 18 (f := .glo "_law_least_word") (by rfl))) F20.kp (FunD.bindsN (ps := ps_law_least_word) F20 fun _ _ _ _ _ _ us hl => match us, hl with | [_, _, _, _], _ => rfl)
  have h_law_ring_word : FnD P w K mg base 2 "_law_ring_word" (F_law_ring_word K (He.ga K)) [] := FnOk.fnD (ok_law_ring_word fx h_law_row_of F21) (He.glo_ok X G (c.fact 19 (f := .glo "_law_ring_word") (by rfl))) F21.kp (FunD.bindsN (ps := ps_law_ring_word) F21 fun _ _ _ _ _ _ us hl => match us, hl with | [_, _], _ => rfl)
  exact cxeG (ok_law fx h_law_hand h_law_least_word h_law_lists h_law_ring_word h_law_system h_check_demands h_least_fault h_least_numbers h_ring_fault F22)
theorem law_start {K : PySem.W.Frag} {g : Str → Addr} {H : Hp} {a : Addr} {ns : List Int} (hl : ns.length ≤ 63) (hS : SqL K H a (ns.map V.int)) : spD K (F_law K g) [.ref a] H (fun v _ => v = .bl true) fun _ _ _ => False := by
  have fin : ∀ S : Sto, Rel K (fun _ => none) S H → IsScr K S a ns → spD K (F_law K g) [.ref a] H (fun v _ => v = .bl true) fun _ _ _ => False := fun S r e =>
    ⟨fun _ => none, S, [.raw a], fun d _ => d = .bl true, fun _ _ _ => False, r, .cons (.raw a) .nil, ⟨a, ns, rfl, e, by omega, fun _ => rfl⟩, fun Z' S' H' d v _ _ p h => by subst h; cases p; rfl, fun _ _ _ _ _ _ _ _ _ h => h⟩
  have mk : ∀ u : HO, H a = some u → (u = .lst (ns.map V.int) ∨ ∃ o, u = .frz o (.lst (ns.map V.int))) → spD K (F_law K g) [.ref a] H (fun v _ => v = .bl true) fun _ _ _ => False := fun u hu hp =>
    fin (fun b => if b = a then some (.abs (scrP ns)) else none) ⟨(fun b w e => by cases e), fun b o e => by
      by_cases hb : b = a
      · subst hb
        simp only [if_true] at e
        cases e
        exact ⟨rfl, u, hu, hp⟩
      · simp only [hb, if_false] at e; cases e⟩ (.inl (by simp))
  rcases hS with (h | ⟨o, h⟩) | h
  · exact mk _ h (.inl rfl)
  · exact mk _ h (.inr ⟨o, rfl⟩)
  · exact fin (fun _ => none) ⟨(fun b w e => by cases e), (fun b o e => by cases e)⟩ (.inr h)
end DL
open PySem PySem.W PySem.Calls PyProof.Rows
theorem PySem.Challenge.cw_purseahead_k16_whole_least_numbers_or_a_holds : PySem.Challenge.rw_purseahead_k16_whole_least_numbers_or_a.Holds := by
  w_on; o_law
  refine HandSHeadRun.head_any (r := OpenLaw.row PySem.Challenge.rw_purseahead_k16_whole_least_numbers_or_a) (q := view (OpenLaw.row PySem.Challenge.rw_purseahead_k16_whole_least_numbers_or_a).prog [28]) (H := DL.hhk) (ob := DL.hob) (M := 20000) (loose := DL.hloose) (d := HandSHeadRun.topDef (OpenLaw.row PySem.Challenge.rw_purseahead_k16_whole_least_numbers_or_a).prog 28) (kwd := []) DL.hob_eq
    (by kernel_rfl) (fun s => by kernel_rfl) DL.hrun (by kernel_rfl) (by kernel_rfl) (by kernel_rfl) (by rfl) (by first | assumption | decide +kernel) (by decide +kernel) ⟨rfl, rfl, rfl, rfl, rfl, by decide +kernel⟩ ?hw ?hc
  case hw => w_witness2
  case hc =>
    refine DL.walkG (l := PySem.Challenge.rw_purseahead_k16_whole_least_numbers_or_a) (n := 63) (k := 5) (x := "_law_script") (C0 := DL.CXE) rfl (by decide) (by kernel_rfl) ⟨rfl, by decide, by decide⟩ ?F DL.cxe_end
    intro w mg fa h Y G hmg0
    obtain ⟨K, KX, c⟩ := Y
    have hmg : mg ("law" : PySem.Str) = some (.ref fa) := by
      have e : (HandSHeadRun.topDef (OpenLaw.row PySem.Challenge.rw_purseahead_k16_whole_least_numbers_or_a).prog 28).name = ("law" : PySem.Str) := by kernel_rfl
      rw [← e]
      exact hmg0
    obtain ⟨fd, hb, hF⟩ := DL.facts (P := (PySem.Challenge.rw_purseahead_k16_whole_least_numbers_or_a).prog) (w := w) KX G hmg c
    exact ⟨K, fd, _, KX, hb, fun H a ns hl ho hS => DL.law_start hl hS, hF⟩
end
